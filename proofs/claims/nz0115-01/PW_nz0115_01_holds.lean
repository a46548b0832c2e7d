import PyProof.Rows.All
import Wide.All
import OpenK.AllK
import Wide.FinOn
import Lean
import PySem.Challenge.RW_nz0115_01
open PySem PySem.W PyProof.Rows
set_option Elab.async false
set_option compiler.extract_closed false
set_option maxRecDepth 100000
set_option maxHeartbeats 8000000
set_option pp.deepTerms false
set_option pp.deepTerms.threshold 3
set_option pp.proofs false
namespace Mine
/-! wpC: as wpAny, over the contexts whose stack holds no decoder of the codecs -/
def decd : Code → Bool
  | .builtin id _ => Builtin.Bytes.decodersThatHold.contains id
  | _ => false
def ND (Γ : PySem.Ctx) : Prop := decd Γ.code = false ∧ ∀ x ∈ Γ.below, decd x.1 = false
def wpC {α : Type} (M : Model) (A : Around) (t : Sem α) (Q : α → Shared → Prop) (E : Value → Shared → Prop) (s : Shared) : Prop :=
  ∀ Γ p, Γ.In A → ND Γ → Sem.wp M Γ t (fun a _ s' => Q a s') (fun e _ s' => E e s') p s
def codeC (M : Model) (A : Around) (c : Code) (R : Result → Shared → Prop) (s : Shared) : Prop :=
  ∀ Γ p, Γ.code = c → Γ.Below A → ND Γ → wpCode M Γ R p s
section
variable {α β : Type} {M : Model} {A : Around} {E : Value → Shared → Prop} {s : Shared}
theorem wpC_of {t : Sem α} {Q : α → Shared → Prop} (h : wpAny M A t Q E s) : wpC M A t Q E s := fun Γ p hΓ _ => h Γ p hΓ
theorem codeC_of {c : Code} {R : Result → Shared → Prop} (h : codeAny M A c R s) : codeC M A c R s := fun Γ p hc hΓ _ => h Γ p hc hΓ
theorem wpC_pure {a : α} {Q : α → Shared → Prop} (h : Q a s) : wpC M A (pure a) Q E s := fun _ _ _ _ => h
theorem wpC_mono {t : Sem α} {Q Q' : α → Shared → Prop} {E' : Value → Shared → Prop} (h : wpC M A t Q E s) (hQ : ∀ a s, Q a s → Q' a s) (hE : ∀ e s, E e s → E' e s) : wpC M A t Q' E' s :=
  fun Γ p hΓ hn => Sem.wp_mono M Γ t (fun a _ s => hQ a s) (fun e _ s => hE e s) p s (h Γ p hΓ hn)
theorem wpC_bind {m : Sem α} {f : α → Sem β} {Q : β → Shared → Prop} (h : wpC M A m (fun a s' => wpC M A (f a) Q E s') E s) : wpC M A (m >>= f) Q E s := fun Γ p hΓ hn => by
  rw [Sem.wp_bind']
  exact Sem.wp_mono M Γ m (fun a p' s' h' => h' Γ p' hΓ hn) (fun _ _ _ h' => h') p s (h Γ p hΓ hn)
/-- a step that asks nothing of the stack, ahead of one that does -/
theorem wpC_step {m : Sem α} {f : α → Sem β} {Q : β → Shared → Prop} (h : wpAny M A m (fun a s' => wpC M A (f a) Q E s') E s) : wpC M A (m >>= f) Q E s := wpC_bind (wpC_of h)
theorem wpC_holding {vs : List Value} {m : Sem α} {Q : α → Shared → Prop} (h : wpC M A m Q E s) : wpC M A (holding vs m) Q E s := fun Γ p hΓ hn => by rw [Sem.wp_holding]; exact h Γ p hΓ hn
theorem wpC_onRaise {m : Sem α} {k : Value → Sem Unit} {Q : α → Shared → Prop} (h : wpC M A m Q (fun e s' => wpAny M A (k e) (fun _ s'' => E e s'') E s') s) : wpC M A (m.onRaise k) Q E s := fun Γ p hΓ hn => by
  rw [Sem.wp_onRaise]
  exact Sem.wp_mono M Γ m (fun _ _ _ h' => h') (fun e p' s' h' => h' Γ p' hΓ) p s (h Γ p hΓ hn)
theorem wpC_attempt {m : Sem α} {Q : Except Value α → Shared → Prop} (h : wpC M A m (fun a => Q (.ok a)) (fun e => Q (.error e)) s) : wpC M A m.attempt Q E s := fun Γ p hΓ hn => by
  rw [Sem.wp_attempt]; exact h Γ p hΓ hn
theorem nd_enter {Γ : PySem.Ctx} (hn : ND Γ) {c : Code} (hd : decd c = false) (h : Option Value) (p : Pos) : ND (Γ.enter c h p) := ⟨hd, fun x hx => by
  rcases List.mem_cons.mp hx with rfl | hx
  · exact hn.1
  · exact hn.2 x hx⟩
theorem wpC_run {c : Code} {h : Option Value} {Q : Flow → Shared → Prop} (hd : decd c = false)
    (hc : codeC M (A.mark h) c (fun r s' => match r with | .ok f => Q f s' | .error e => E e s') s) (hnb : h ≠ some byPass := by intro x; cases x) : wpC M A (run c h) Q E s :=
  fun Γ p hΓ hn => by rw [Sem.wp_run]; exact hc _ p rfl (hΓ.enter c h p hnb) (nd_enter hn hd h p)
theorem wpC_runValue {c : Code} {Q : Value → Shared → Prop} (hd : decd c = false)
    (hc : codeC M A c (fun r s' => match r with | .ok (.ret v) => Q v s' | .ok _ => False | .error e => E e s') s) : wpC M A (runValue c) Q E s :=
  fun Γ p hΓ hn => by rw [Sem.wp_runValue]; exact hc _ p rfl (hΓ.enter c none p (by intro x; cases x)) (nd_enter hn hd none p)
theorem wpC_call {f : Value} {pos : List Value} {kw : List (Str × Value)} {Q : Value → Shared → Prop}
    (hc : codeC M A (.call f ⟨pos, kw⟩) (fun r s' => match r with | .ok (.ret v) => Q v s' | .ok _ => False | .error e => E e s') s) : wpC M A (call f pos kw) Q E s := wpC_runValue rfl hc
theorem codeC_of_tree {c : Code} {R : Result → Shared → Prop}
    (h : wpC M (A.under c) (M.den c) (fun fin s' => match fin with | .done f => R (.ok f) s' | .again c' => c'.quiet = true ∧ decd c' = false ∧ codeC M A c' R s')
      (fun e s' => R (.error e) s') s) : codeC M A c R s := fun Γ p hc hΓ hn => by
  rw [wpCode_iff_wp, hc]
  refine Sem.wp_mono M Γ _ (fun fin p' s' h' => ?_) (fun _ _ _ h' => h') p s (h Γ p (hc ▸ hΓ.in) hn)
  cases fin with
  | done f => exact h'
  | again c' => exact ⟨h'.1, h'.2.2 (Γ.goto c') p' rfl (hΓ.goto c') ⟨h'.2.1, hn.2⟩⟩
theorem codeC_mono {c : Code} {R R' : Result → Shared → Prop} (h : codeC M A c R s) (hR : ∀ r s, R r s → R' r s) : codeC M A c R' s := fun Γ p hc hΓ hn => wpCode_mono hR (h Γ p hc hΓ hn)
theorem guard_absurd {id : String} {args : Args} (h : (Code.builtin id args).isGuard = false) (hc : guardIds.contains id = true) : False := by
  have h' : guardIds.contains id = false := h
  rw [hc] at h'; cases h'
theorem nd_exported {self : Value} {Q : Bool → Shared → Prop} (hg : A.guards = some []) (h : Q false s) : wpC M A (Builtin.Bytes.exported self) Q E s := fun Γ p hΓ hn => by
  have hg' := hΓ.2.2.2.1 [] hg
  rw [← guardsOf_cons Γ.code p] at hg'
  have key : ∀ l : List (Code × Pos), guardsOf l = [] → (∀ x ∈ l, decd x.1 = false) → (l.any fun
    | (.builtin "bytearray.__contains__" ⟨v :: _, _⟩, _) | (.builtin "bytearray.__mod__" ⟨v :: _, _⟩, _)
    | (.builtin "bytearray.__rmod__" ⟨_ :: v :: _, _⟩, _) | (.builtin "_struct.pack_into.held" ⟨v :: _, _⟩, _) => Builtin.Bytes.sameRef v self
    | (.builtin "bytearray.find.held" ⟨_ :: _ :: held, _⟩, _) => held.any (Builtin.Bytes.sameRef self)
    | (.builtin id ⟨v :: _, _⟩, _) => Builtin.Bytes.sameRef v self && Builtin.Bytes.decodersThatHold.contains id
    | _ => false) = false := by
    intro l
    induction l with
    | nil => intros; rfl
    | cons x r ih =>
      intro h1 h2
      rw [guardsOf_cons] at h1
      have h3 := List.append_eq_nil_iff.mp h1
      rw [List.any_cons, ih h3.2 fun y hy => h2 y (.tail _ hy), Bool.or_false]
      have hng : x.1.isGuard = false := by
        have := h3.1
        unfold Code.guards at this
        cases hq : x.1.isGuard with
        | false => rfl
        | true => rw [hq] at this; cases this
      have hnd := h2 x (.head _)
      obtain ⟨c, q⟩ := x
      dsimp only at hng hnd ⊢
      cases c with
      | builtin id args =>
        have n1 : ¬ id = "bytearray.__contains__" := fun e => guard_absurd (e ▸ hng) (by decide +kernel)
        have n2 : ¬ id = "bytearray.__mod__" := fun e => guard_absurd (e ▸ hng) (by decide +kernel)
        have n3 : ¬ id = "bytearray.__rmod__" := fun e => guard_absurd (e ▸ hng) (by decide +kernel)
        have n4 : ¬ id = "_struct.pack_into.held" := fun e => guard_absurd (e ▸ hng) (by decide +kernel)
        have n5 : ¬ id = "bytearray.find.held" := fun e => guard_absurd (e ▸ hng) (by decide +kernel)
        have hnd' : Builtin.Bytes.decodersThatHold.contains id = false := hnd
        clear hng hnd h3 h2 h1 ih
        delta nd_exported.match_1
        dsimp only
        with_unfolding_all refine (dif_neg n1).trans ?_
        refine (dif_neg n2).trans ?_
        refine (dif_neg n3).trans ?_
        refine (dif_neg n4).trans ?_
        refine (dif_neg n5).trans ?_
        obtain ⟨l, kw⟩ := args
        cases l with
        | nil => rfl
        | cons v r => show (Builtin.Bytes.sameRef v self && _) = false; rw [hnd', Bool.and_false]
      | _ => rfl
  have k := key ((Γ.code, p) :: Γ.below) hg' (fun x hx => by
    rcases List.mem_cons.mp hx with rfl | hx
    · exact hn.1
    · exact hn.2 x hx)
  have h2 := h
  rw [← k] at h2
  exact h2
end
section
open PySem.Calls
theorem ends_of_wpC {prog : Program} {w : World} {t : Sem PySem.Fin} {s : Shared} {R : Result → Shared → Prop} (hreg : s.asleep)
    (h : wpC (model prog w) callerA t (fun fin s' => ∃ f, fin = .done f ∧ (R (.ok f) s' ∧ leftWithCleanup s'.gens = false)) (fun e s' => R (.error e) s' ∧ leftWithCleanup s'.gens = false) s) :
    ∃ n r s' s'', runN (denote table) prog w n s ⟨t, .builtin "claim.caller" {}, default, []⟩ = .halted (outcomeOf r) s' ∧
      schedN (denote table) prog w n (.single s ⟨t, .builtin "claim.caller" {}, default, []⟩) = .halted (outcomeOf r) s' ∧ s'.forget = s''.forget ∧ R r s'' := by
  have hnd : ND (⟨.builtin "claim.caller" {}, none, none, [], none⟩ : PySem.Ctx) := ⟨by decide +kernel, fun x hx => nomatch hx⟩
  have hw : Sem.wp (model prog w) ⟨.builtin "claim.caller" {}, none, none, [], none⟩ t (Sem.finPost (model prog w) ⟨.builtin "claim.caller" {}, none, none, [], none⟩ fun r s' => R r s' ∧ leftWithCleanup s'.gens = false)
      (fun e _ s' => R (.error e) s' ∧ leftWithCleanup s'.gens = false) default s :=
    Sem.wp_mono _ _ t (fun fin p' s' h' => by
      obtain ⟨f, rfl, hf⟩ := h'
      exact hf) (fun _ _ _ h' => h') default s (h _ default caller_in hnd)
  obtain ⟨n, r, s₁, s₂, hs, hn, hfo, hR⟩ := wp_halts_full (M := model prog w) (R := R) hreg hw
  exact ⟨n, r, s₂, s₁, hn, hs, hfo, hR⟩
abbrev WalkC (q : Program) (loose : List Str) (XP : (Str → Option Value) → Heap → Prop) (YP : World → Heap → Prop) (r : RowW) (d : DefRec) (kwd : List (Str × Expr)) : Prop :=
  ∀ (w : World) (s₀ s₁ : Shared) (mg mb : Str → Option Value), Ground q loose r.records XP w s₀ mg mb s₁.heap → YP w s₁.heap → ∀ (a : Addr) (o : Obj) (pm cd doc dV kV : Value), s₁.heap.get? a = some o →
    o.data = .func { docDef d.name d.params d.body d.scope pm cd doc with defaults := dV, kwdefaults := kV } → s₁.heap.CodeRec cd d.name → Dflts mg s₁.heap d.params kwd dV kV → mg d.name = some (.ref a) → s₁.gens = #[] →
    ∀ (args : List WData) (vals : List Value) (as : List Addr), r.claim.pre args = true → WData.layableAll args = true → ReadsAllW r.records (classAt s₀.heap) s₁.heap vals args as → WellAll w.params s₁.heap vals args → (∀ a ∈ as, (a == sysModules) = false) →
      wpC (model r.prog w) callerA (PySem.call (.ref a) vals) (fun v s' => GoodWG r.claim (classAt s₀.heap) (ExcName.means s₀.heap) args s₁ (.ok (.ret v)) s')
        (fun e s' => GoodWG r.claim (classAt s₀.heap) (ExcName.means s₀.heap) args s₁ (.error e) s') s₁
theorem let_goal {G : Prop} (h : ∀ P : Prop, (G → P) → P) : G := h G id
theorem head_C {r : OpenRow} {q : Program} {loose : List Str} {Xt : Shared → Bool} {XP : (Str → Option Value) → Heap → Prop} {α : Type} {Yf : Shared → α} {Ya : World → α} {YP : World → Heap → Prop} {d : DefRec} {kwd : List (Str × Expr)} {N : Nat}
    (left : LeftO r.prog q loose Xt Yf Ya N) (hY : ∀ w s, Yf s = Ya w → YP w s.heap) (hYk : ∀ w h h', YP w h → (∀ b o, h.get? b = some o → h'.get? b = some o) → YP w h')
    (hX : ∀ s, Xt s = true → XP (s.heap.nsMap mainGlobals) s.heap) (hXk : ∀ mg h h', XP mg h → (∀ b o, h.get? b = some o → h'.get? b = some o) → XP mg h')
    (hdef : defOf q r.name = some (d, kwd)) (hp : r.prog.theDef r.name = some (d.params, d.body, d.scope)) (hk : kwWritten? d.params.kwonlyargs d.params.kw_defaults = some kwd) (hRf : ∀ s, Xt s = true → RecFacts r.records s.heap) (hwr : (!r.writes || r.records.isEmpty) = true)
    (k1 : r.wellSaid = true) (ok : (chainsOk q && opensWell r.prog && (frees r.toRowW && r.within.isEmpty)) = true) (hb : r.prog.bare) (hw : r.toRowW.promised)
    (walk : WalkC q loose XP YP r.toRowW d kwd) : r.Holds := by
  obtain ⟨ok, k5⟩ := Bool.and_eq_true_iff.mp ok
  obtain ⟨hch, o1⟩ := Bool.and_eq_true_iff.mp ok
  obtain ⟨k5, k6⟩ := Bool.and_eq_true_iff.mp k5
  obtain ⟨hsame, hu, ha, hap, hm⟩ := frees_parts k5
  refine ⟨k1, hw, ⟨hb, o1, by show r.toRowW.makers.map _ = []; rw [hm]; rfl⟩, hw.witness, fun w => ?_⟩
  have BB := left.behind (XP := fun mg h => XP mg h ∧ RecFacts r.records h) (fun s hs => ⟨hX s hs, hRf s hs⟩) hch w
  refine ⟨BB.1, fun s' hs' => ?_⟩
  refine let_goal fun PP back => ?_
  obtain ⟨s₀, hf, hg0, s, hT, hz, hgens, hg, G00, y⟩ := BB.2 s' hs'
  refine back ?_
  have G0 : Ground q loose [] XP w s (s.heap.nsMap mainGlobals) (s.heap.nsMap builtinsNs) s.heap := ⟨G00.T, G00.B, G00.D, G00.TE, G00.TD, G00.W, G00.X.1, G00.cls, G00.has, G00.apart, G00.once, G00.K⟩
  have RF := G00.X.2
  refine ⟨s₀, hf, hg0, s, hT, fun n hn => ?_, RF.1, RF.2.1, ?_⟩
  · obtain rfl : n = r.name := by split at hn <;> simp_all
    exact pinned_of_view hg G0 hdef hp hk
  have hg' : s.gens = #[] := Array.eq_empty_of_size_eq_zero (beq_iff_eq.mp hgens)
  have G : Ground q loose r.toRowW.records XP w s _ _ s.heap := RF.ground G0
  intro args hpre hlay ord hord
  refine let_goal fun PP back => ?_
  obtain ⟨⟨vs, s₁⟩, hlaid⟩ := Option.isSome_iff_exists.mp (layAllW_isSome (P := w.params) (ord := ord) G.has args r.toRowW.args s (pre_splitW hpre).1)
  have keeps := layAllW_keeps _ _ _ hlaid
  have hal := layAllW_rest _ _ _ hlaid
  obtain ⟨as, hrd, hin, hold⟩ := reads_layAllW hord _ _ _ hlaid hlay s₁.heap (fun _ _ e => e)
  have L : Laid r.toRowW.records w s s₁ args vs as := ⟨⟨ord, hord, hlaid⟩, hrd, hin, hold, keeps, hal.1.trans hg', hal.2.2.1⟩
  have G₁ := G.keeps hXk keeps
  have hi := ident_freeW hu ha hap
  have hwi : r.toRowW.claim.within = [] := List.isEmpty_iff.mp k6
  obtain ⟨a, o, pm, cd, doc, dV, kV, h1, h2, h3, h4, h5⟩ := G₁.fn hdef
  refine back ?_
  have H := walk w s s₁ _ _ G₁ (hYk _ _ _ (hY w s y) keeps) a o pm cd doc dV kV h2 h3 h4 h5 (defOf_name hdef ▸ h1) L.gens args vs as hpre hlay L.reads L.well (L.low G.low)
  have fin : ∀ (r' : Result) s₂, GoodWG r.toRowW.claim (classAt s.heap) (ExcName.means s.heap) args s₁ r' s₂ → (r.toRowW.claim.Ends s args vs s₁ r' s₂ ∧ s₂.os = s.os ∧
      (r.writes = true → namesKept r.prog r.keeps s.heap s₂.heap ∧ ∀ x ∈ r.toRowW.records, ∀ a, classAt s.heap x.1 = some a → recordClass s₂.heap a x.1 (x.2.map (·.1)) = true)) ∧ leftWithCleanup s₂.gens = false := fun r' s₂ g => by
    have z := g.laid (c := r.toRowW.claim) hsame hwi hi L
    exact ⟨⟨z.1, z.2.1, fun q => ⟨namesKept_of hT hg _ keeps g.2.1.old, noTable hwr q⟩⟩, leftWithCleanup_false_of_bare z.2.2⟩
  have T : wpC (model r.prog w) callerA (do
      match ← nsGet mainNs r.name with
      | some f => do ret (← PySem.call f vs)
      | none => unsupported "claim.caller:no-such-global")
      (fun fin s₂ => ∃ f, fin = .done f ∧ ((r.toRowW.claim.Ends s args vs s₁ (.ok f) s₂ ∧ s₂.os = s.os ∧ (r.writes = true → namesKept r.prog r.keeps s.heap s₂.heap ∧ ∀ x ∈ r.toRowW.records, ∀ a, classAt s.heap x.1 = some a → recordClass s₂.heap a x.1 (x.2.map (·.1)) = true)) ∧ leftWithCleanup s₂.gens = false))
      (fun e s₂ => (r.toRowW.claim.Ends s args vs s₁ (.error e) s₂ ∧ s₂.os = s.os ∧ (r.writes = true → namesKept r.prog r.keeps s.heap s₂.heap ∧ ∀ x ∈ r.toRowW.records, ∀ a, classAt s.heap x.1 = some a → recordClass s₂.heap a x.1 (x.2.map (·.1)) = true)) ∧ leftWithCleanup s₂.gens = false) s₁ := by
    refine wpC_step (wpAny_nsGet G₁.T.g ?_)
    rw [show s.heap.nsMap mainGlobals r.name = some (.ref a) from (defOf_name hdef) ▸ h1]
    exact wpC_bind (wpC_mono H (fun v s₂ g => wpC_pure ⟨_, rfl, fin _ _ g⟩) fun e s₂ g => fin _ _ g)
  refine let_goal fun PP back => ?_
  obtain ⟨k, r', s', s'', hrun, hsched, hfo, hcase, hos, hkp⟩ := ends_of_wpC (R := fun r' s₂ => r.toRowW.claim.Ends s args vs s₁ r' s₂ ∧ s₂.os = s.os ∧ (r.writes = true → namesKept r.prog r.keeps s.heap s₂.heap ∧ ∀ x ∈ r.toRowW.records, ∀ a, classAt s.heap x.1 = some a → recordClass s₂.heap a x.1 (x.2.map (·.1)) = true))
    (Shared.asleep_of_life hal.2.2.2 hz) T
  obtain ⟨eh, _, _, eo, _⟩ := Shared.forget_eq hfo
  have hcase := hcase.congr eh
  rw [← eh] at hkp
  rw [← eo] at hos
  refine back ?_
  have hlife : s'.heap.life = s.heap.life := (runN_life _ _ _ hrun).trans hal.2.2.2
  refine ⟨vs, s₁, hlaid, k, _, s', hsched, ?_, (fun _ i x hx => by rw [hg'] at hx; simp at hx), hkp, by rw [hlife], Shared.rest_eq hos⟩
  rcases hcase with ⟨v, rfl, d1, d2, d3, d4, d5⟩ | ⟨e, ob, cls, rfl, d1, d2, d3, d4, d5⟩
  · exact .inl ⟨v, rfl, d1, d2, d3, fun b o y _ => d4 b o y, d5⟩
  · exact .inr ⟨e, ob, cls, rfl, d1, d2, d3, d4, fun b o y _ => d5 b o y⟩
end
def vw : Program := view Challenge.pw_nz0115_01 [1, 2, 4, 5, 6, 7, 8, 9, 10, 11, 13, 14, 15, 16, 17, 18, 19, 20, 21]
theorem head_H {r : OpenRow} (hr : r = Challenge.rw_nz0115_01.row) {d : DefRec} {kwd : List (Str × Expr)} (H : Hook)
    (left : LeftO r.prog vw [Str.ofString "ShapeError"] (fun s => xlAt vw [] s && recOk r.toRowW.records s) H.obs H.val 4180)
    (hdef : defOf vw r.name = some (d, kwd)) (hp : r.prog.theDef r.name = some (d.params, d.body, d.scope)) (hk : kwWritten? d.params.kwonlyargs d.params.kw_defaults = some kwd) (hwr : (!r.writes || r.toRowW.records.isEmpty) = true)
    (k1 : r.wellSaid = true) (ok : (chainsOk vw && opensWell r.prog && (frees r.toRowW && r.toRowW.within.isEmpty)) = true) (hb : r.prog.bare) (hw : r.toRowW.promised)
    (walk : WalkC vw [Str.ofString "ShapeError"] (XL vw []) H.says r.toRowW d kwd) : r.Holds :=
  head_C (N := 4180) left H.of H.keeps (fun s e => xl_of s (Bool.and_eq_true_iff.mp e).1) XL.keeps hdef hp hk (fun s e => recFacts_of (Bool.and_eq_true_iff.mp e).2) hwr k1 ok hb hw walk
local macro_rules | `(tactic| o_head $H) => `(tactic| (refine' head_H rfl $H ?hl (by rfl) (by rfl) (by rfl) (by rfl) (by first | assumption | decide +kernel) (by decide +kernel) ⟨rfl, rfl, rfl, rfl, rfl, by decide +kernel⟩ ?hw ?hc; (case hl => (intro w; kernel_rfl))))
local macro_rules | `(tactic| o_law) => `(tactic| refine holds_law (by decide +kernel) fun said => ?_)
open_top hd for PySem.Challenge.rw_nz0115_01
theorem m_set {prog : Program} {w : World} {A : Around} {E : Value → Shared → Prop} {s : Shared} {h₀ : Heap} {L D : Addr} {m : Str → Option Value} {news news' : List (Addr × Obj)} {its its' : Array Value} {n : Nat} {k : Int} {t : Tok} {v : Value} {Q : Unit → Shared → Prop}
    (F : Fr h₀ L s.heap m) (N : News h₀ L s.heap news) (U : Upd D (listOf its n) (listOf its' n) news news') (h0 : 0 ≤ k) (h1 : k < its.size) (hfit : k < 2 ^ 63) (e : its.setIfInBounds k.toNat v = its')
    (h : ∀ h', Fr h₀ L h' m → News h₀ L h' news' → Q () { s with heap := h' }) :
    wpAny (model prog w) A (setItem (.ref D) (.int k t) v) Q E s := by
  obtain ⟨pre, post, rfl, rfl, a, b⟩ := U.split
  have z := N (D, listOf its n) (List.mem_append.mpr (.inr (.head _)))
  refine ki_setAt z.1 h0 hfit h1 (h _ (F.change (Heap.SameBut.update ..) z.2.1 z.2.2) (ki_turn _ N a b e ?_))
  rw [← e]; simp

theorem m_pop0 {prog : Program} {w : World} {A : Around} {E : Value → Shared → Prop} {s : Shared} {h₀ : Heap} {L D : Addr} {m : Str → Option Value} {news news' : List (Addr × Obj)} {n : Nat} {u : Tok} {vs : List Value} {ns : List Int} {Q : Value → Shared → Prop}
    (F : Fr h₀ L s.heap m) (N : News h₀ L s.heap news) (hi : IntsAre vs ns) (hne : ns ≠ []) (hz : vs.length ≤ 63)
    (U : Upd D (listOf vs.toArray n) (listOf vs.tail.toArray (n + 1)) news news')
    (h : ∀ h' k t, Fr h₀ L h' m → News h₀ L h' news' → IntsAre vs.tail ns.tail → vs.tail.length ≤ 63 → Q (.int k t) { s with heap := h' }) :
    wpAny (model prog w) A (call (.builtin "list.pop") [.ref D, .int 0 u]) Q E s := by
  cases hi with
  | nil => exact absurd rfl hne
  | cons k t r =>
    rename_i vs' ns'
    simp only [List.length_cons] at hz
    refine kl_popAt (p := []) (q := vs') (y := .int k t) (k := 0) F N (by decide +kernel) ?_ rfl U ?_ fun h' F' N' => h h' k t F' N' r ?_
    · simp [seqIndex?]
    · rw [sizeLine_eq]; simp only [List.length_cons]; omega
    · simp only [List.tail_cons]
      omega
theorem news_tail {h₀ h : Heap} {L : Addr} {q : Addr × Obj} {l : List (Addr × Obj)} (N : News h₀ L h (q :: l)) : News h₀ L h l := fun p hp => N p (.tail _ hp)

structure PenAt (oP oC : Obj) (C : Addr) (n d : Int) (t1 t2 : Tok) (e1 e2 : Nat) (vs : List Value) (ns : List Int) : Prop where
  p : oP = listOf #[.ref C, .int n t1, .int d t2] e1
  c : oC = listOf vs.toArray e2
  i : IntsAre vs ns
  z : vs.length ≤ 63
def Pen (oP oC : Obj) (C : Addr) : Prop := ∃ n d t1 t2 e1 e2 vs ns, PenAt oP oC C n d t1 t2 e1 e2 vs ns
theorem Pen.of {C : Addr} {n d : Int} {t1 t2 : Tok} {e1 e2 : Nat} {vs : List Value} {ns : List Int} (hi : IntsAre vs ns) (hz : vs.length ≤ 63) : Pen (listOf #[.ref C, .int n t1, .int d t2] e1) (listOf vs.toArray e2) C := ⟨n, d, t1, t2, e1, e2, vs, ns, rfl, rfl, hi, hz⟩

theorem m_set1 {prog : Program} {w : World} {A : Around} {E : Value → Shared → Prop} {s : Shared} {h₀ : Heap} {L D : Addr} {m : Str → Option Value} {news news' : List (Addr × Obj)} {x y z : Value} {n : Nat} {t : Tok} {v : Value} {Q : Unit → Shared → Prop}
    (F : Fr h₀ L s.heap m) (N : News h₀ L s.heap news) (U : Upd D (listOf #[x, y, z] n) (listOf #[x, v, z] n) news news')
    (h : ∀ h', Fr h₀ L h' m → News h₀ L h' news' → Q () { s with heap := h' }) :
    wpAny (model prog w) A (setItem (.ref D) (.int 1 t) v) Q E s := m_set F N U (by decide) (by show (1 : Int) < 3; decide) (by decide) rfl h
theorem m_set2 {prog : Program} {w : World} {A : Around} {E : Value → Shared → Prop} {s : Shared} {h₀ : Heap} {L D : Addr} {m : Str → Option Value} {news news' : List (Addr × Obj)} {x y z : Value} {n : Nat} {t : Tok} {v : Value} {Q : Unit → Shared → Prop}
    (F : Fr h₀ L s.heap m) (N : News h₀ L s.heap news) (U : Upd D (listOf #[x, y, z] n) (listOf #[x, y, v] n) news news')
    (h : ∀ h', Fr h₀ L h' m → News h₀ L h' news' → Q () { s with heap := h' }) :
    wpAny (model prog w) A (setItem (.ref D) (.int 2 t) v) Q E s := m_set F N U (by decide) (by show (2 : Int) < 3; decide) (by decide) rfl h
inductive Pull (a : Addr) (o : Obj) : List (Addr × Obj) → List (Addr × Obj) → Prop
  | head {r} : Pull a o ((a, o) :: r) r
  | tail {p l r} : Pull a o l r → Pull a o (p :: l) (p :: r)
theorem Pull.sub {a : Addr} {o : Obj} {l r : List (Addr × Obj)} (U : Pull a o l r) : ∀ p ∈ (a, o) :: r, p ∈ l := by
  induction U with
  | head => exact fun p hp => hp
  | tail _ ih =>
    intro p hp
    rcases List.mem_cons.mp hp with rfl | hp
    · exact .tail _ (ih _ (.head _))
    · rcases List.mem_cons.mp hp with rfl | hp
      · exact .head _
      · exact .tail _ (ih _ (.tail _ hp))
theorem Pull.news {a : Addr} {o : Obj} {l r : List (Addr × Obj)} {h₀ h : Heap} {L : Addr} (U : Pull a o l r) (N : News h₀ L h l) : News h₀ L h ((a, o) :: r) := fun p hp => N p (U.sub p hp)
theorem sub_self {l : List (Addr × Obj)} : ∀ p ∈ l, p ∈ l := fun _ h => h
theorem sub_tail {q : Addr × Obj} {l r : List (Addr × Obj)} (h : ∀ p ∈ r, p ∈ l) : ∀ p ∈ r, p ∈ q :: l := fun p hp => .tail _ (h p hp)
theorem sub_cons {q : Addr × Obj} {l r : List (Addr × Obj)} (hq : q ∈ l) (h : ∀ p ∈ r, p ∈ l) : ∀ p ∈ q :: r, p ∈ l := fun p hp => by
  rcases List.mem_cons.mp hp with rfl | hp
  · exact hq
  · exact h p hp
theorem news_sub {h₀ h : Heap} {L : Addr} {l r : List (Addr × Obj)} (N : News h₀ L h l) (hs : ∀ p ∈ r, p ∈ l) : News h₀ L h r := fun p hp => N p (hs p hp)
section
variable {prog : Program} {w : World} {A : Around} {E : Value → Shared → Prop} {s : Shared} {h₀ : Heap} {L D : Addr} {m : Str → Option Value} {news : List (Addr × Obj)} {items : List Value} {e : Nat}
theorem m_len {Q : Value → Shared → Prop} (N : News h₀ L s.heap news) (hm : (D, listOf items.toArray e) ∈ news) (hz : items.length ≤ 100) (h : Q (.int items.length (s.toks + 1)) { s with toks := s.toks + 1 + 1 }) :
    wpAny (model prog w) A (call (.builtin "len") [.ref D]) Q E s :=
  PyProof.Rows.len_list (PySem.IsL.isList (n := e) (N _ hm).1) (by simp only [List.size_toArray]; omega) (by simpa using h)
theorem m_item {value slice : Expr} {k : Int} {u : Tok} {Q : Value → Shared → Prop} (N : News h₀ L s.heap news) (hm : (D, listOf items.toArray e) ∈ news) (hz : items.length ≤ 100) (h0 : 0 ≤ k) (h1 : k < items.length) (h : ∀ v, v ∈ items → Q v s)
    (hs : subscripted slice false (.ref D) (.int k u) = operate [.ref D, .int k u] (getItem (.ref D) (.int k u)) := by with_unfolding_all rfl) :
    wpAny (model prog w) A (subscriptTail value slice (.ref D) (.int k u)) Q E s := by
  have hk : k.toNat < items.length := by omega
  have hl : s.heap.IsList D items.toArray := PySem.IsL.isList (n := e) (N _ hm).1
  exact PyProof.Rows.tail_any hl.typeIs PySem.F.slot_list_getitem.lookup (wpAny_getItem_list hl h0 (by omega) (x := items[k.toNat]) (by simp [hk]) (h _ (List.getElem_mem hk))) hs
end
theorem all_ne_of_lt2 {d e : Nat} {l : List (Addr × Obj)} (h : ∀ p ∈ l, p.1 < d) (he : d < e) : ∀ p ∈ l, p.1 ≠ e := fun p hp q => Nat.lt_irrefl e (by have := h p hp; rw [q] at this; exact Nat.lt_trans this he)
theorem sub_tl {q : Addr × Obj} {l : List (Addr × Obj)} : ∀ p ∈ l, p ∈ q :: l := fun _ h => .tail _ h
inductive ExcAt (n : Int) : Obj → Prop
  | mk (h1 : Int) (k1 : Tok) (h2 : Int) (k2 : Tok) (x : Str) (tx tn : Tok) : ExcAt n (dictOf [⟨h1, .str "what" k1, .str x tx⟩, ⟨h2, .str "at" k2, .int n tn⟩] 2)
theorem wpAny_letQ {α : Type} {M : Model} {A : Around} {t : Sem α} {Q : α → Shared → Prop} {E : Value → Shared → Prop} {s : Shared} (h : let qk := Q; wpAny M A t qk E s) : wpAny M A t Q E s := h
theorem wpAny_letE {α : Type} {M : Model} {A : Around} {t : Sem α} {Q : α → Shared → Prop} {E : Value → Shared → Prop} {s : Shared} (h : let ek := E; wpAny M A t Q ek s) : wpAny M A t Q E s := h
theorem wpAny_letA {α : Type} {M : Model} {A : Around} {t : Sem α} {Q : α → Shared → Prop} {E : Value → Shared → Prop} {s : Shared} (h : let ak := A; wpAny M ak t Q E s) : wpAny M A t Q E s := h
theorem wpAny_tok {α : Type} {M : Model} {A : Around} {t : Sem α} {Q : α → Shared → Prop} {E : Value → Shared → Prop} {h : Heap} {g : Array GenState} {d : Drawn} {T n : Nat} {o : OsState} (H : ∀ T', wpAny M A t Q E ⟨h, g, d, T', o⟩) : wpAny M A t Q E ⟨h, g, d, T + n, o⟩ := H _
theorem mm0 {x : Addr × Obj} {l : List (Addr × Obj)} : x ∈ x :: l := .head _
theorem mm1 {a0 : Addr × Obj} {x : Addr × Obj} {l : List (Addr × Obj)} : x ∈ a0 :: x :: l := .tail _ (.head _)
theorem mm2 {a0 a1 : Addr × Obj} {x : Addr × Obj} {l : List (Addr × Obj)} : x ∈ a0 :: a1 :: x :: l := .tail _ (.tail _ (.head _))
theorem mm3 {a0 a1 a2 : Addr × Obj} {x : Addr × Obj} {l : List (Addr × Obj)} : x ∈ a0 :: a1 :: a2 :: x :: l := .tail _ (.tail _ (.tail _ (.head _)))
theorem mm4 {a0 a1 a2 a3 : Addr × Obj} {x : Addr × Obj} {l : List (Addr × Obj)} : x ∈ a0 :: a1 :: a2 :: a3 :: x :: l := .tail _ (.tail _ (.tail _ (.tail _ (.head _))))
theorem mm5 {a0 a1 a2 a3 a4 : Addr × Obj} {x : Addr × Obj} {l : List (Addr × Obj)} : x ∈ a0 :: a1 :: a2 :: a3 :: a4 :: x :: l := .tail _ (.tail _ (.tail _ (.tail _ (.tail _ (.head _)))))
theorem mm6 {a0 a1 a2 a3 a4 a5 : Addr × Obj} {x : Addr × Obj} {l : List (Addr × Obj)} : x ∈ a0 :: a1 :: a2 :: a3 :: a4 :: a5 :: x :: l := .tail _ (.tail _ (.tail _ (.tail _ (.tail _ (.tail _ (.head _))))))
theorem mm7 {a0 a1 a2 a3 a4 a5 a6 : Addr × Obj} {x : Addr × Obj} {l : List (Addr × Obj)} : x ∈ a0 :: a1 :: a2 :: a3 :: a4 :: a5 :: a6 :: x :: l := .tail _ (.tail _ (.tail _ (.tail _ (.tail _ (.tail _ (.tail _ (.head _)))))))
theorem mm8 {a0 a1 a2 a3 a4 a5 a6 a7 : Addr × Obj} {x : Addr × Obj} {l : List (Addr × Obj)} : x ∈ a0 :: a1 :: a2 :: a3 :: a4 :: a5 :: a6 :: a7 :: x :: l := .tail _ (.tail _ (.tail _ (.tail _ (.tail _ (.tail _ (.tail _ (.tail _ (.head _))))))))
theorem mm9 {a0 a1 a2 a3 a4 a5 a6 a7 a8 : Addr × Obj} {x : Addr × Obj} {l : List (Addr × Obj)} : x ∈ a0 :: a1 :: a2 :: a3 :: a4 :: a5 :: a6 :: a7 :: a8 :: x :: l := .tail _ (.tail _ (.tail _ (.tail _ (.tail _ (.tail _ (.tail _ (.tail _ (.tail _ (.head _)))))))))
theorem mm10 {a0 a1 a2 a3 a4 a5 a6 a7 a8 a9 : Addr × Obj} {x : Addr × Obj} {l : List (Addr × Obj)} : x ∈ a0 :: a1 :: a2 :: a3 :: a4 :: a5 :: a6 :: a7 :: a8 :: a9 :: x :: l := .tail _ (.tail _ (.tail _ (.tail _ (.tail _ (.tail _ (.tail _ (.tail _ (.tail _ (.tail _ (.head _))))))))))
theorem st1 {a0 : Addr × Obj} {l : List (Addr × Obj)} : ∀ p ∈ l, p ∈ a0 :: l := fun _ h => .tail _ h
theorem st2 {a0 a1 : Addr × Obj} {l : List (Addr × Obj)} : ∀ p ∈ l, p ∈ a0 :: a1 :: l := fun _ h => .tail _ (.tail _ h)
theorem st3 {a0 a1 a2 : Addr × Obj} {l : List (Addr × Obj)} : ∀ p ∈ l, p ∈ a0 :: a1 :: a2 :: l := fun _ h => .tail _ (.tail _ (.tail _ h))
theorem st4 {a0 a1 a2 a3 : Addr × Obj} {l : List (Addr × Obj)} : ∀ p ∈ l, p ∈ a0 :: a1 :: a2 :: a3 :: l := fun _ h => .tail _ (.tail _ (.tail _ (.tail _ h)))
theorem room1 {d n a b : Nat} (h : d < a) (e : a + n ≤ b) : d + n < b := Nat.lt_of_lt_of_le (Nat.add_lt_add_right h n) e
theorem room2 {d n m a b : Nat} (h : d < a) (e : a + n + m ≤ b) : d + n + m < b := Nat.lt_of_lt_of_le (Nat.add_lt_add_right (Nat.add_lt_add_right h n) m) e
theorem room3 {d n m k a b : Nat} (h : d < a) (e : a + n + m + k ≤ b) : d + n + m + k < b := Nat.lt_of_lt_of_le (Nat.add_lt_add_right (Nat.add_lt_add_right (Nat.add_lt_add_right h n) m) k) e
theorem room4 {d n m k j a b : Nat} (h : d < a) (e : a + n + m + k + j ≤ b) : d + n + m + k + j < b := Nat.lt_of_lt_of_le (Nat.add_lt_add_right (Nat.add_lt_add_right (Nat.add_lt_add_right (Nat.add_lt_add_right h n) m) k) j) e
theorem all_cons {a : Nat} {q : Addr × Obj} {l : List (Addr × Obj)} (h : @Ne Nat q.1 a) (t : ∀ p ∈ l, @Ne Nat p.1 a) : ∀ p ∈ q :: l, @Ne Nat p.1 a := List.forall_mem_cons.mpr ⟨h, t⟩
theorem lt_of_all {D x : Addr} {o : Obj} {l : List (Addr × Obj)} (h : ∀ p ∈ l, p.1 < D) (hm : (x, o) ∈ l) : @LT.lt Nat _ x D := h _ hm
theorem ne_of_all {D x : Addr} {o : Obj} {l : List (Addr × Obj)} (h : ∀ p ∈ l, p.1 < D) (hm : (x, o) ∈ l) : @Ne Nat x D := Nat.ne_of_lt (h _ hm)
theorem ne_of_allS {D x : Addr} {o : Obj} {l : List (Addr × Obj)} (h : ∀ p ∈ l, p.1 < D) (hm : (x, o) ∈ l) : @Ne Nat D x := Nat.ne_of_gt (h _ hm)
theorem ne_of_all1 {D x : Addr} {o : Obj} {l : List (Addr × Obj)} (h : ∀ p ∈ l, p.1 < D) (hm : (x, o) ∈ l) : @Ne Nat x (D + 1) := Nat.ne_of_lt (Nat.lt_succ_of_lt (h _ hm))
theorem ne_of_all1S {D x : Addr} {o : Obj} {l : List (Addr × Obj)} (h : ∀ p ∈ l, p.1 < D) (hm : (x, o) ∈ l) : @Ne Nat (D + 1) x := Nat.ne_of_gt (Nat.lt_succ_of_lt (h _ hm))
theorem ne_of_nall {D x : Addr} {o : Obj} {l : List (Addr × Obj)} (h : ∀ p ∈ l, @Ne Nat p.1 D) (hm : (x, o) ∈ l) : @Ne Nat x D := h _ hm
theorem ne_of_nallS {D x : Addr} {o : Obj} {l : List (Addr × Obj)} (h : ∀ p ∈ l, @Ne Nat p.1 D) (hm : (x, o) ∈ l) : @Ne Nat D x := Ne.symm (h _ hm)
theorem off3_1 {I C D x : Addr} {o : Obj} {l : List (Addr × Obj)} (h : LCg.Off3 I C D l) (hm : (x, o) ∈ l) : @Ne Nat x I := (LCg.Off3.mem h _ hm).1
theorem off3_2 {I C D x : Addr} {o : Obj} {l : List (Addr × Obj)} (h : LCg.Off3 I C D l) (hm : (x, o) ∈ l) : @Ne Nat x C := (LCg.Off3.mem h _ hm).2.1
theorem off3_3 {I C D x : Addr} {o : Obj} {l : List (Addr × Obj)} (h : LCg.Off3 I C D l) (hm : (x, o) ∈ l) : @Ne Nat x D := (LCg.Off3.mem h _ hm).2.2
theorem all_ne_sub {D : Addr} {l l' : List (Addr × Obj)} (h : ∀ p ∈ l, p.1 < D) (hs : ∀ p ∈ l', p ∈ l) : ∀ p ∈ l', @Ne Nat p.1 D := fun p hp => Nat.ne_of_lt (h p (hs p hp))
theorem all_ne_sub1 {D : Addr} {l l' : List (Addr × Obj)} (h : ∀ p ∈ l, p.1 < D) (hs : ∀ p ∈ l', p ∈ l) : ∀ p ∈ l', @Ne Nat p.1 (D + 1) := fun p hp => Nat.ne_of_lt (Nat.lt_succ_of_lt (h p (hs p hp)))
theorem mm11 {a0 a1 a2 a3 a4 a5 a6 a7 a8 a9 a10 : Addr × Obj} {x : Addr × Obj} {l : List (Addr × Obj)} : x ∈ a0 :: a1 :: a2 :: a3 :: a4 :: a5 :: a6 :: a7 :: a8 :: a9 :: a10 :: x :: l := .tail _ (.tail _ (.tail _ (.tail _ (.tail _ (.tail _ (.tail _ (.tail _ (.tail _ (.tail _ (.tail _ (.head _)))))))))))
theorem mm12 {a0 a1 a2 a3 a4 a5 a6 a7 a8 a9 a10 a11 : Addr × Obj} {x : Addr × Obj} {l : List (Addr × Obj)} : x ∈ a0 :: a1 :: a2 :: a3 :: a4 :: a5 :: a6 :: a7 :: a8 :: a9 :: a10 :: a11 :: x :: l := .tail _ (.tail _ (.tail _ (.tail _ (.tail _ (.tail _ (.tail _ (.tail _ (.tail _ (.tail _ (.tail _ (.tail _ (.head _))))))))))))
theorem mm13 {a0 a1 a2 a3 a4 a5 a6 a7 a8 a9 a10 a11 a12 : Addr × Obj} {x : Addr × Obj} {l : List (Addr × Obj)} : x ∈ a0 :: a1 :: a2 :: a3 :: a4 :: a5 :: a6 :: a7 :: a8 :: a9 :: a10 :: a11 :: a12 :: x :: l := .tail _ (.tail _ (.tail _ (.tail _ (.tail _ (.tail _ (.tail _ (.tail _ (.tail _ (.tail _ (.tail _ (.tail _ (.tail _ (.head _)))))))))))))
theorem mm14 {a0 a1 a2 a3 a4 a5 a6 a7 a8 a9 a10 a11 a12 a13 : Addr × Obj} {x : Addr × Obj} {l : List (Addr × Obj)} : x ∈ a0 :: a1 :: a2 :: a3 :: a4 :: a5 :: a6 :: a7 :: a8 :: a9 :: a10 :: a11 :: a12 :: a13 :: x :: l := .tail _ (.tail _ (.tail _ (.tail _ (.tail _ (.tail _ (.tail _ (.tail _ (.tail _ (.tail _ (.tail _ (.tail _ (.tail _ (.tail _ (.head _))))))))))))))
theorem mm15 {a0 a1 a2 a3 a4 a5 a6 a7 a8 a9 a10 a11 a12 a13 a14 : Addr × Obj} {x : Addr × Obj} {l : List (Addr × Obj)} : x ∈ a0 :: a1 :: a2 :: a3 :: a4 :: a5 :: a6 :: a7 :: a8 :: a9 :: a10 :: a11 :: a12 :: a13 :: a14 :: x :: l := .tail _ (.tail _ (.tail _ (.tail _ (.tail _ (.tail _ (.tail _ (.tail _ (.tail _ (.tail _ (.tail _ (.tail _ (.tail _ (.tail _ (.tail _ (.head _)))))))))))))))
theorem mm16 {a0 a1 a2 a3 a4 a5 a6 a7 a8 a9 a10 a11 a12 a13 a14 a15 : Addr × Obj} {x : Addr × Obj} {l : List (Addr × Obj)} : x ∈ a0 :: a1 :: a2 :: a3 :: a4 :: a5 :: a6 :: a7 :: a8 :: a9 :: a10 :: a11 :: a12 :: a13 :: a14 :: a15 :: x :: l := .tail _ (.tail _ (.tail _ (.tail _ (.tail _ (.tail _ (.tail _ (.tail _ (.tail _ (.tail _ (.tail _ (.tail _ (.tail _ (.tail _ (.tail _ (.tail _ (.head _))))))))))))))))
theorem mm17 {a0 a1 a2 a3 a4 a5 a6 a7 a8 a9 a10 a11 a12 a13 a14 a15 a16 : Addr × Obj} {x : Addr × Obj} {l : List (Addr × Obj)} : x ∈ a0 :: a1 :: a2 :: a3 :: a4 :: a5 :: a6 :: a7 :: a8 :: a9 :: a10 :: a11 :: a12 :: a13 :: a14 :: a15 :: a16 :: x :: l := .tail _ (.tail _ (.tail _ (.tail _ (.tail _ (.tail _ (.tail _ (.tail _ (.tail _ (.tail _ (.tail _ (.tail _ (.tail _ (.tail _ (.tail _ (.tail _ (.tail _ (.head _)))))))))))))))))
theorem mm18 {a0 a1 a2 a3 a4 a5 a6 a7 a8 a9 a10 a11 a12 a13 a14 a15 a16 a17 : Addr × Obj} {x : Addr × Obj} {l : List (Addr × Obj)} : x ∈ a0 :: a1 :: a2 :: a3 :: a4 :: a5 :: a6 :: a7 :: a8 :: a9 :: a10 :: a11 :: a12 :: a13 :: a14 :: a15 :: a16 :: a17 :: x :: l := .tail _ (.tail _ (.tail _ (.tail _ (.tail _ (.tail _ (.tail _ (.tail _ (.tail _ (.tail _ (.tail _ (.tail _ (.tail _ (.tail _ (.tail _ (.tail _ (.tail _ (.tail _ (.head _))))))))))))))))))

theorem tn_sub {a c : Int} (ha : 0 ≤ a) (hc : 0 ≤ c) : (a + c).toNat - a.toNat = c.toNat := by rw [Int.toNat_add ha hc, Nat.add_sub_cancel_left]
theorem tn_add {p q : Int} {n : Nat} (hp : 0 ≤ p) (h : q = p + n) : p.toNat + n = q.toNat := by rw [h, Int.toNat_add hp (Int.natCast_nonneg n), Int.toNat_natCast]
theorem tn_add2 {p q : Int} {n : Nat} (hp : 0 ≤ p) (h : q = p + 2 * n) : p.toNat + 2 * n = q.toNat := tn_add hp h
theorem tn_room {p : Int} {c n m : Nat} (hp : 0 ≤ p) (h : p + c ≤ m) (hm : n = m) : min c (n - p.toNat) = c := by
  subst hm
  have h := Int.toNat_le.mpr h
  rw [Int.toNat_add hp (Int.natCast_nonneg c), Int.toNat_natCast] at h
  exact Nat.min_eq_left (Nat.le_sub_of_add_le (Nat.add_comm _ _ ▸ h))
theorem lt_four {n m : Nat} {c : Int} (h : n < min c.toNat m) (hc : c ≤ 4) : n < 4 := Nat.lt_of_lt_of_le (Nat.lt_of_lt_of_le h (Nat.min_le_left _ _)) (Int.toNat_le.mpr hc)
theorem toNat_sub2 (c i : Nat) : ((c : Int) - 1 - (i : Int)).toNat = c - 1 - i := by
  rw [Int.sub_sub]
  exact (Int.toNat_sub c (1 + i)).trans (Nat.sub_sub c 1 i).symm
def Stop (p : Prop) : Prop := p
theorem Stop.intro {p : Prop} (h : Stop p) : p := h
theorem Stop.box {p : Prop} (h : p) : Stop p := h
set_option hygiene false
abbrev TT := Lean.TSyntax `tactic
abbrev MT := Lean.MacroM TT
def sq (a b : MT) : MT := do
  let x ← a
  let y ← b
  `(tactic| ($x:tactic; $y:tactic))
def alt2 (a b : MT) : MT := do
  let x ← a
  let y ← b
  `(tactic| first | $x:tactic | $y:tactic)
def alt (l : List MT) : MT := match l.reverse with
  | [] => `(tactic| skip)
  | a :: r => r.foldl (fun x y => alt2 y x) a
def idt (s : String) : Lean.Ident := Lean.mkIdent s.toName
def tryT (a : MT) : MT := do
  let x ← a
  `(tactic| (try $x:tactic))
def wr (a : MT) : MT := do
  let x ← a
  `(tactic| with_reducible $x:tactic)
def rep (a : MT) : MT := do
  let x ← a
  `(tactic| repeat $x:tactic)
def byT (a : MT) : Lean.MacroM Lean.Term := do
  let t ← a
  `(by $t:tactic)
def asT : MT := `(tactic| assumption)
def exR : MT := `(tactic| exact rfl)
def omT : MT := `(tactic| omega)
def deT : MT := `(tactic| decide)
def tq1 : MT := `(tactic| k_asm)
def tq2 : MT := `(tactic| k_mem)
def tq3 : MT := `(tactic| k_upd)
def tq4 : MT := `(tactic| k_updF)
def tq5 : MT := `(tactic| k_is)
def tq6 : MT := `(tactic| ks_is)
def tq7 : MT := `(tactic| rfl)
def tq8 : MT := `(tactic| ktn_open)
def tq9 : MT := `(tactic| k_all)
def tq10 : MT := `(tactic| k_ne)
def tq11 : MT := `(tactic| ktr_room)
def tq12 : MT := `(tactic| ktr_units)
def tq13 : MT := `(tactic| decide +kernel)
def tq14 : MT := `(tactic| k_put)
def tq15 : MT := `(tactic| with_unfolding_all rfl)
def tq16 : MT := `(tactic| first | rfl | with_unfolding_all rfl)
def tq17 : MT := `(tactic| k_in)
def tq18 : MT := `(tactic| k_lt kmem)
def tq19 : MT := `(tactic| (k_lt ksub; done))
def tq20 : MT := `(tactic| first | omega | exact p256_ne _)
def tq21 : MT := `(tactic| (simp only [Builtin.pylongFrames]; ktr_room))
def tq22 : MT := `(tactic| (simp only [decide_eq_true_eq, decide_eq_false_iff_not, Bool.not_eq_true', Bool.not_eq_eq_eq_not, Bool.not_true, Bool.not_false] at *; assumption))
def tq23 : MT := `(tactic| first | omega | (simp only [Array.size_replicate]; omega))
def tq24 : MT := `(tactic| (rw [bed_size]; exact Nat.le_trans (Nat.add_le_add_right (by assumption) _) (by decide)))
def tq25 : MT := `(tactic| (simp only [List.length_cons, List.length_nil]; omega))
def tqY : MT := `(tactic| first | exact nk_look (n := NK.top) _ rfl rfl rfl rfl rfl | exact nk_look (n := fun K => (NK.size K : Int)) _ rfl rfl rfl rfl rfl)
def look (c : Char) (l : List (Char × MT)) : MT := match l.lookup c with
  | some x => x
  | none => `(tactic| skip)
/-- plain closers by their letter -/
def tx (c : Char) : MT := look c [('a', tq1), ('h', asT), ('g', asT), ('G', asT), ('J', asT), ('H', wr asT), ('m', tq2), ('u', tq3), ('U', tq4), ('i', tq5), ('j', tq6), ('f', exR), ('r', exR), ('y', tq7), ('e', alt2 exR asT), ('n', tq8), ('A', tq9), ('N', tq10), ('R', tq11), ('S', tq12), ('K', tq13), ('d', deT), ('q', alt [deT, wr asT, asT, omT]), ('p', tq14), ('w', tq15), ('v', tq16), ('o', omT), ('W', alt2 (wr asT) omT), ('I', tq17), ('M', tq18), ('T', tq19), ('1', tq20), ('3', tq21), ('O', tq22), ('B', tq23), ('Z', tq24), ('z', tq25)]
def toks (s : String) : List String :=
  let r := s.toList.foldl (fun (st : String × List String) c =>
    let o := if st.1 == "" then st.2 else st.1 :: st.2
    if c == ' ' then ("", o) else if c == '(' || c == ')' then ("", String.singleton c :: o) else (st.1.push c, st.2)) ("", [])
  (if r.1 == "" then r.2 else r.1 :: r.2).reverse
def ato (s : String) : Lean.MacroM Lean.Term :=
  if s == "_" then `(_) else if s == "?_" then `(?_) else
    match s.toList with
    | '!' :: c :: _ => byT (tx c)
    | '%' :: r => return Lean.Syntax.mkStrLit (String.ofList r)
    | c :: _ => return if c.isDigit then Lean.Syntax.mkNumLit s else Lean.mkIdent s.toName
    | [] => `(_)
def appL (l : List Lean.Term) : Lean.Term := match l.reverse with
  | f :: a :: r => Lean.Syntax.mkApp f (a :: r).toArray
  | f :: _ => f
  | [] => Lean.mkIdent `x
def tmS (st : List (List Lean.Term)) (k : String) : Lean.MacroM (List (List Lean.Term)) :=
  if k == "(" then return [] :: st else if k == ")" then return (match st with
    | a :: b :: r => (appL a :: b) :: r
    | _ => st) else do
    let t ← ato k
    return (match st with
    | a :: r => (t :: a) :: r
    | [] => [[t]])
/-- a term by its text: application, parentheses, names, figures, %text, !letter (by ..), _ and ?_ -/
def tm (s : String) : Lean.MacroM Lean.Term := do
  let st ← (toks s).foldl (fun st k => do tmS (← st) k) (pure [[]])
  return appL (st.headD [])
def rf (s : String) : MT := do
  let t ← tm s
  `(tactic| refine $t)
def ex (s : String) : MT := do
  let t ← tm s
  `(tactic| exact $t)
def ap (s : String) : MT := do
  let t ← tm s
  `(tactic| apply $t)
def rr (s : String) : MT := wr (rf s)
def shw (s : String) : MT := do
  let t ← tm s
  `(tactic| with_reducible show $t)
def shA (s : String) : MT := shw ("wpAny _ _ (" ++ s ++ ") _ _ _")
def shC (s : String) : MT := sq `(tactic| try dsimp only [List.nil_append, List.cons_append]) (shw ("wpC _ _ (" ++ s ++ ") _ _ _"))
def shI (s : String) : MT := do
  let t ← tm s
  `(tactic| with_reducible show wpAny _ _ (pyIter _) (fun _ _ => $t) _ _)
def spS (n : Nat) : String := (List.range n).foldl (fun s _ => "sp_miss !d (" ++ s ++ ")") "sp_hit"
/-- the closers that are texts -/
def tx2 (c : Char) : MT := match c with
  | 'P' => alt ((List.range 8).map fun n => wr (ex (spS n)))
  | 'L' => ex "locs rfl"
  | 'b' => ex "Nat.le_of_ble_eq_true rfl"
  | 'x' => alt2 (ex "BindsTo.of_eq rfl") (ex "binds_K !I rfl !i rfl rfl rfl")
  | 'k' => ex "strKind_is _ _ _ _"
  | 's' => alt2 (ex "lt_four !H !H") omT
  | 'E' => alt [asT, omT, tx 'Z']
  | 'X' => alt [wr (ex "nk_tag _"), wr (ex "nk_rows _"), wr (ex "nk_add _")]
  | 'Y' => tqY
  | 'V' => ex "news_sub !a (sub_cons !m sub_tl)"
  | c => tx c
def csT (i : Lean.Ident) (c : Char) : MT := do
  let t ← tx2 c
  `(tactic| (case $i:ident => $t:tactic))
/-- a hole of a code: the argument, and the closer -/
def hol (q : Char × Nat) (x : Lean.MacroM (List Lean.Term × List (Char × MT))) : Lean.MacroM (List Lean.Term × List (Char × MT)) := do
  let (as, qs) ← x
  if q.1 == '_' then return ((← `(?_)) :: as, qs)
  let i := Lean.mkIdent (← Lean.MonadQuotation.addMacroScope (.mkSimple s!"k{q.2}"))
  return ((← `(?$i:ident)) :: as, (q.1, csT i q.1) :: qs)
def ordL (l : List (Char × MT)) (pri : List Char) : List (Char × MT) := pri.foldr (fun c r => l.filter (fun q => q.1 == c) ++ r) (l.filter fun q => !pri.contains q.1)
/-- `refine' f ..` with a hole for each letter ('_' stays open); the holes whose letters stand in pri are closed first -/
def fillX (wrap : MT → MT) (f code pri : String) : MT := do
  let (as, qs) ← code.toList.zipIdx.foldr hol (pure ([], []))
  let t := Lean.Syntax.mkApp (idt f) as.toArray
  (ordL qs pri.toList).foldl (fun a b => sq a b.2) (wrap `(tactic| refine' $t))
def fill (f code : String) (pri : String := "") : MT := fillX (fun x => x) f code pri
def fillR (f code : String) (pri : String := "") : MT := fillX wr f code pri
def dfl (a : MT) : MT := do
  let x ← a
  `(tactic| k_dflt $x:tactic)
def here (a : MT) : MT := sq `(tactic| k_here) a
def whole (a : MT) : MT := sq a `(tactic| k_whole)
def ins (n : Nat) : MT := do
  let x := Lean.mkIdent (← Lean.MonadQuotation.addMacroScope `h)
  let a := Array.replicate n x
  `(tactic| intro $a*)
def swp : MT := `(tactic| (try k_sweep))
def ref (n : Nat) : String := s!"call (Value.ref {n}) _ _"
def stp : MT := rr "Stop.intro ?_"
def stA (s : String) : MT := here (sq (shA s) stp)
def insS (k : Nat) : MT := sq (ins k) swp
/-- a contract with one end -/
def cl (n : Nat) (f code : String) (k : Nat) : MT := here (sq (shA (ref n)) (sq (dfl (fill f code)) (insS k)))
/-- a contract with two ends -/
def cl2 (n : Nat) (f code : String) (k k' : Nat) : MT := here (sq (shA (ref n)) (sq (dfl (fill f code)) (sq (insS k) (sq `(tactic| rotate_left) (ins k')))))
def stops (l : List Nat) : MT := alt (l.map fun n => stA (ref n))
def lines (s : Lean.TSyntax `str) (l : List (String × MT)) : Lean.MacroM Lean.Syntax := match l.lookup s.getString with
  | some x => do return (← x)
  | none => Lean.Macro.throwUnsupported
def rmT (l : List String) : MT := do
  let l := (["depth_under_make", "depth_under_kw", "depth_in1", "depth_deeper", "depth_caller", "units_in1", "units_deeper", "Around.mark_units", "units_caller", "ktrTop"] ++ l).toArray.map idt
  sq `(tactic| (try dsimp +zetaDelta only [$[$l:ident],*])) (alt [tx 'H', ex "room1 !h (Nat.le_of_ble_eq_true rfl)", ex "room2 !h (Nat.le_of_ble_eq_true rfl)", ex "room3 !h (Nat.le_of_ble_eq_true rfl)", ex "room4 !h (Nat.le_of_ble_eq_true rfl)", sq `(tactic| (try simp only [recursionLimit, cLine])) omT])
def allT : MT := alt [tx 'H', fill "all_ne_sub" "HT", fill "all_ne_sub1" "HT", fill "all_ne_of_lt2" "HW", fill "all_ne_of_allLt2" "Ho"]
def subL : List MT := [ap "sub_self", ex "List.forall_mem_nil _"]
def kltT (n : Lean.Name) : MT :=
  if n == `kmem then wr (alt ((List.range 19).map fun n => ap s!"mm{n}"))
  else if n == `ksub then wr (rep (alt (subL ++ [ap "st1", ap "st2", ap "st3", ap "st4", rf "sub_cons !M ?_", rf "sub_tail ?_"])))
  else `(tactic| skip)
def kneT : MT := alt ([tx 'H', ex "Ne.symm !H"] ++ ["ne_of_all", "ne_of_allS", "off3_1", "off3_2", "off3_3", "ne_of_all1", "ne_of_all1S"].map (fun f => ex (f ++ " !H !M")) ++ ["off3_1", "off3_2", "off3_3"].map (fun f => ex ("Ne.symm (" ++ f ++ " !H !M)")) ++ ["ne_of_nall !H !M", "ne_of_nallS !H !M", "Nat.ne_of_lt !H", "Nat.ne_of_gt !H"].map ex ++ [sq (rf "neN ?_") (sq `(tactic| (try dsimp only)) omT)])
def neT : MT := sq (rf "neN ?_") (sq `(tactic| (try dsimp only)) (alt2 (ex "NE.to !H") (ex "NE.sym !H")))
def relT : MT := alt2 (tx 'T') (rep (alt (subL ++ [rf "sub_cons !m ?_", rf "sub_tail ?_"])))
def opnT : MT := rep (alt2 (ex "Pull.head") (ap "Pull.tail"))
def foldT : MT := `(tactic| ((fail_if_success (fail_if_success k_fold)); refine wpAny_letQ ?_; intro qk))
def tokT : MT := `(tactic| refine wpAny_tok (fun tk => ?_))
def foldM (s : Lean.TSyntax `str) : Lean.MacroM Lean.Syntax :=
  let k := s.getString
  if k == "execs cons" then (do return (← tokT)) else if ["eval BinOp", "eval Subscript", "eval Call", "eval Call Attribute", "eval Dict", "eval IfExp", "eval List", "eval Tuple", "exec If", "isTrue Compare", "isTrue BoolOp"].contains k then (do return (← foldT)) else Lean.Macro.throwUnsupported
def divT : MT := here (rf "floordiv_int !1 ?_ (Or.inr (PySem.PylongRoom.of (PySem.Heap.NoLimit.keeps (PyProof.Rows.Top.nolimit !h) (PyProof.Rows.Fr.keep !h)) !3))")
def popT : MT := here (sq (shA "call (Value.builtin _) (List.cons (Value.ref _) (List.cons (Value.int 0 _) List.nil))") (sq (dfl (whole (fill "m_pop0" "aaHOHu_"))) (insS 7)))
def letN (a b : String) : MT := sq (rf (a ++ " ?_")) (sq `(tactic| intro qk) (sq (rf (b ++ " ?_")) `(tactic| intro ek)))
def letT : MT := alt2 (letN "wpAny_letQ" "wpAny_letE") (letN "wpC_letQ" "wpC_letE")
def ent (f code pri : String) (n : Nat) : MT := sq (fill f code pri) (sq (ins n) (sq `(tactic| try dsimp only) (tryT letT)))
def forT : MT := here (sq `(tactic| rename Fr _ _ _ _ => lF9) (sq `(tactic| with_unfolding_all refine' For_invVF lF9 ?zk1 ?zk2 ?_) (whole `(tactic| ((case zk1 => exact rfl); (case zk2 => exact rfl))))))
def boxT : MT := `(tactic| (rename (_ ≠ _ ∧ _ ≠ _ ∧ _ ≠ _) ∧ _ => z1; replace z1 := Stop.box z1; rename _ ≠ _ ∧ _ ≠ _ ∧ _ ≠ _ => z2; replace z2 := Stop.box z2))
def lvI : MT := do
  let h := Lean.mkIdent (← Lean.MonadQuotation.addMacroScope `h)
  `(tactic| (intro $h:ident zR zU; (try dsimp only at zR zU ⊢)))
def leaveT : MT := here (alt2 (sq (whole (fill "fl_leave_on" "GhgJ_" "gGJ")) lvI) (sq (whole (fill "fl_leave_new" "haVA_")) lvI))
def dsN : MT := sq (ins 2) (sq `(tactic| intro zF zN) (sq (ins 1) `(tactic| (try dsimp only at zN))))
def entC (f : String) : MT := sq (whole (fill f "aaaaaffgiiRxrK_rrr" "fg")) (sq (ins 7) (sq `(tactic| intro zN zY) (sq (ins 4) `(tactic| (k_cells zY; (try simp only [List.cons_append, List.nil_append] at zN); (try dsimp only); (try k_fold))))))
set_option hygiene true
def beI (l : List Int) : Int := l.foldl (fun a k => 256 * a + k) 0
theorem beI_snoc (l : List Int) (k : Int) : beI (l ++ [k]) = 256 * beI l + k := by simp [beI]
theorem bitOr_nat (x y : Nat) : Builtin.bitOr (x : Int) (y : Int) = ((x ||| y : Nat) : Int) := by
  have h1 : Builtin.bitNot (x : Int) < 0 := by show -(x : Int) - 1 < 0; omega
  have h2 : Builtin.bitNot (y : Int) < 0 := by show -(y : Int) - 1 < 0; omega
  have h3 : ∀ n : Nat, Builtin.bitNot (Builtin.bitNot (n : Int)) = n := fun n => by show -(-(n : Int) - 1) - 1 = n; omega
  show Builtin.bitNot (Builtin.bitAnd (Builtin.bitNot x) (Builtin.bitNot y)) = _
  unfold Builtin.bitAnd
  rw [decide_eq_false (by omega), decide_eq_false (by omega)]
  show Builtin.bitNot (Builtin.bitNot (((Builtin.bitNot (Builtin.bitNot (x : Int))).toNat ||| (Builtin.bitNot (Builtin.bitNot (y : Int))).toNat : Nat) : Int)) = _
  rw [h3, h3, h3]
  rfl
theorem lor8 {a n : Int} (h0 : 0 ≤ a) (n0 : 0 ≤ n) (n1 : n < 256) : Builtin.bitOr (a * 2 ^ (8 : Int).toNat) n = 256 * a + n := by
  obtain ⟨x, rfl⟩ := Int.eq_ofNat_of_zero_le h0
  obtain ⟨y, rfl⟩ := Int.eq_ofNat_of_zero_le n0
  have e : ((x : Int) * (2 : Int) ^ (8 : Int).toNat) = ((x <<< 8 : Nat) : Int) := by
    rw [Nat.shiftLeft_eq]; show (x : Int) * 2 ^ 8 = _; omega
  have h := Nat.shiftLeft_add_eq_or_of_lt (b := y) (i := 8) (by omega) x
  show Builtin.bitOr ((x : Int) * (2 : Int) ^ (8 : Int).toNat) y = _
  rw [e, bitOr_nat, ← h, Nat.shiftLeft_eq]
  omega
theorem beI_go {l : List Int} : ∀ a : Int, 0 ≤ a → (∀ k ∈ l, 0 ≤ k ∧ k < 256) → 0 ≤ l.foldl (fun a k => 256 * a + k) a ∧ l.foldl (fun a k => 256 * a + k) a < (a + 1) * 256 ^ l.length := by
  induction l with
  | nil => exact fun a h _ => ⟨h, by simp; omega⟩
  | cons k r ih =>
    intro a h0 h
    have hk := h k (.head _)
    have h1 := ih (256 * a + k) (by omega) fun x hx => h x (.tail _ hx)
    refine ⟨h1.1, Int.lt_of_lt_of_le h1.2 ?_⟩
    rw [List.length_cons, Int.pow_succ]
    have hp : (0 : Int) ≤ 256 ^ r.length := Int.pow_nonneg (by decide)
    have : (256 * a + k + 1) * 256 ^ r.length ≤ ((a + 1) * 256) * 256 ^ r.length := Int.mul_le_mul_of_nonneg_right (by omega) hp
    rw [Int.mul_comm _ (256 : Int), ← Int.mul_assoc]
    exact this
theorem beI_lt {l : List Int} (h : ∀ k ∈ l, 0 ≤ k ∧ k < 256) : 0 ≤ beI l ∧ beI l < 256 ^ l.length := by
  have := beI_go (l := l) 0 (by decide) h
  rw [Int.zero_add, Int.one_mul] at this
  exact this
section
variable {M : Model} {A : Around} {E : Value → Shared → Prop} {h : Heap} {g : Array GenState} {d : Drawn} {t : Nat} {os : OsState}
variable {nm q : Str} {C N : Addr} {bs bm bmB : List Value} {hdct : Bool} {sn : List Str} {sub : List Value} {ab : Bool} {col : Option Bool} {dd : Option Addr} {k0 k1 k2 k3 k5 : Option Value} {B newId initId : String}
theorem x_check_new (F : ExcBaseFacts B newId initId bmB) (hcont : (Value.ref C :: bm).contains (.type B) = true) {rest : List Value} {Q : Unit → Shared → Prop} (hC : h.get? C = some (excClassObj nm q C N bs bm hdct sn sub ab col dd k0 k1 k2 k3 k5 newId))
    (hq : Q () ⟨h, g, d, t, os⟩) : wpAny M A (checkBuiltinCall newId ⟨.ref C :: rest, []⟩) Q E ⟨h, g, d, t, os⟩ := by
  have hstar := F.noStar
  unfold checkBuiltinCall
  rw [F.newKind, F.newSplit, F.newRow]
  dsimp only
  repeat (first | refine wpAny_loadPart_at hC ?_ | (refine wpAny_isSubtype_exc hC ?_; rw [hcont]) | refine wpAny_staticBase_exc hC ?_ | refine wpAny_madeBy_exc hC ?_ | simp only [bne_self_eq_false, Bool.false_eq_true, if_false] | wp_step)
  exact hq
end
abbrev excO (C t : Addr) : Obj := { cls := .ref C, data := .fields #[.ref t, .none, .none, .none, .bool false, .none] }
abbrev tupO (vs : List Value) : Obj := { cls := .type "tuple", data := .seq vs.toArray }
section
variable {prog : Program} {w : World} {A : Around} {R : Result → Shared → Prop} {h : Heap} {g : Array GenState} {d : Drawn} {t : Nat} {os : OsState}
variable {nm q : Str} {C N : Addr} {bs bm bmB : List Value} {hdct : Bool} {sn : List Str} {sub : List Value} {ab : Bool} {col : Option Bool} {dd : Option Addr} {k0 k1 k2 k3 k5 : Option Value} {B newId initId : String}
theorem x_new (F : ExcBaseFacts B newId initId bmB) (hcB : (Value.ref C :: bm).contains (.type B) = true) (hcA : (Value.ref C :: bm).contains (.type "AttributeError") = false) (hcN : (Value.ref C :: bm).contains (.type "NameError") = false)
    {rest : List Value} (hC : h.get? C = some (excClassObj nm q C N bs bm hdct sn sub ab col dd k0 k1 k2 k3 k5 newId))
    (hq : R (.ok (.ret (.ref (h.objs.size + 1)))) ⟨(h.push (tupO rest)).push (excO C h.objs.size), g, d, t, os⟩) (hrest : rest.length ≤ sizeLine := by size_fits) :
    codeAny (model prog w) A (.builtin newId ⟨.ref C :: rest, []⟩) R ⟨h, g, d, t, os⟩ := by
  have hends := F.ends
  refine codeAny_builtinAt F.entry ?_
  unfold Builtin.«BaseException.__new__»
  refine _root_.PySem.wpAt_bind ?_
  show _root_.PySem.wpAt _ _ _ (stack >>= _) _ _ _
  refine _root_.PySem.wpAt_bind (_root_.PySem.wpAt_stack fun p below => _root_.PySem.wpAt_of_wpAny ?_)
  wp_walk
  refine _root_.PySem.wpAt_of_wpAny ?_
  rw [F.owner]
  repeat (first | with_reducible refine wpAny_madeHere_exc F.canon hC ?_ | with_reducible refine wpAny_loadPart_at hC ?_ | (with_reducible refine wpAny_isSubtype_exc hC ?_; first | rw [hcB] | rw [hcA] | rw [hcN]) | wp_step)
  show R _ _
  rw [Heap.size_push]
  exact hq

theorem x_type_call (F : ExcBaseFacts B newId initId bmB) (hcB : (Value.ref C :: bm).contains (.type B) = true) (hcA : (Value.ref C :: bm).contains (.type "AttributeError") = false) (hcN : (Value.ref C :: bm).contains (.type "NameError") = false)
    {rest : List Value} {fI : Addr} (hC : h.get? C = some (excClassObj nm q C N bs bm hdct sn sub ab col dd k0 k1 k2 k3 k5 newId))
    (hi : Looks (model prog w) h (typeLookup (.ref C) "__init__") (some (.ref fI))) (hb : ∀ self, Looks (model prog w) h (bindSpecial (.ref fI) self) (.ref fI, [self]))
    (hq : codeAny (model prog w) (A.under (.builtin "type.__call__" ⟨.ref C :: rest, []⟩)) (.call (.ref fI) ⟨.ref (h.objs.size + 1) :: rest, []⟩) (InitBack (h.objs.size + 1) R) ⟨(h.push (tupO rest)).push (excO C h.objs.size), g, d, t, os⟩)
    (hrest : rest.length ≤ sizeLine := by size_fits) :
    codeAny (model prog w) A (.call (.ref C) ⟨rest, []⟩) R ⟨h, g, d, t, os⟩ := by
  have f1 := tc_lookup
  have f2 := tc_bind (.ref C)
  have hT : (⟨h, g, d, t, os⟩ : Shared).TypeIs (.ref C) "type" := ⟨_, hC, rfl⟩
  refine codeAny_of_tree ?_
  show wpAny _ _ (callAny (.ref C) _) _ _ _
  repeat (any_goals (first | assumption | with_reducible refine wpAny_loadPart_at hC ?_ | wp_step))
  refine ⟨rfl, ?_⟩
  refine codeAny_call_builtin_at (Code.quiet_builtin _ (by decide +kernel)) entry_typeCall (wpAny_check_type_call_sub hC ?_)
  repeat (first | with_reducible refine wpAny_loadPart_at hC ?_ | with_reducible refine wpAny_madeBy_exc hC ?_ | wp_step)
  refine codeAny_call_builtin_code (Code.quiet_builtin _ F.quiet) (x_check_new F hcB hC ?_)
  refine x_new F hcB hcA hcN hC ?_ hrest
  show wpAny _ _ _ _ _ _
  have hC₁ := Heap.get?_push_of_some (excO C h.objs.size) (Heap.get?_push_of_some (tupO rest) hC)
  have hget : ((h.push (tupO rest)).push (excO C h.objs.size)).get? (h.objs.size + 1) = some (excO C h.objs.size) := by heap_get
  have hcC : (Value.ref C :: bm).contains (.ref C) = true := by simp
  have k : ∀ b o, h.get? b = some o → ((h.push (tupO rest)).push (excO C h.objs.size)).get? b = some o := fun b o e => Heap.get?_push_of_some _ (Heap.get?_push_of_some _ e)
  have i1 := hi.keeps k
  have b1 := (hb (.ref (h.objs.size + 1))).keeps k
  unfold isInstance
  repeat (first | with_reducible refine wpAny_loadPart_at hget ?_ | wp_step)
  refine wpAny_isSubtype_exc hC₁ ?_
  rw [hcC]
  repeat wp_step
  refine i1.at ?_
  refine wpAny_holding (wpAny_bind (b1.at ?_))
  refine wpAny_bind (wpAny_call (codeAny_mono hq fun r s' z => ?_))
  rcases r with e | (v | _ | _ | _) <;> first | exact z | exact z.elim | skip
  obtain ⟨rfl, z⟩ := z
  repeat wp_step
  exact z
end
theorem call_exc {w : World} {A : Around} {E : Value → Shared → Prop} {s : Shared} {h₀ : Heap} {L : Addr} {m : Str → Option Value} {news : List (Addr × Obj)} {pos : List Value} {Q : Value → Shared → Prop}
    (F : Fr h₀ L s.heap m) (X₀ : (hd.heap_1 w.params).In h₀) (N : News h₀ L s.heap news) (hpos : pos.length ≤ sizeLine)
    (h : ∀ e t h', Fr h₀ L h' m → News h₀ L h' ((e, excO 54 t) :: (t, tupO pos) :: news) → (∀ p ∈ news, p.1 < t) → t < e →
      codeAny (model Challenge.pw_nz0115_01 w) (A.under (.builtin "type.__call__" ⟨.ref 54 :: pos, []⟩)) (.call (.ref 31) ⟨.ref e :: pos, []⟩) (InitBack e fun r s' => match r with | .ok (.ret v) => Q v s' | .ok _ => False | .error e => E e s') { s with heap := h' }) :
    wpAny (model Challenge.pw_nz0115_01 w) A (call (.ref 54) pos []) Q E s := by
  have X := X₀.keeps F.keep
  have hC := X 54 _ (by k_is)
  have hi : findIn (hd.heap_1 w.params) (.ref 54) "__init__" = some (some (.ref 31)) := by k_is
  have ht : typeIn (hd.heap_1 w.params) (.ref 31) = some (.type "function") := by k_is
  obtain ⟨hh, g, d, t, os⟩ := s
  refine wpAny_call (x_type_call (bm := [.ref 41, .type "Exception", .type "BaseException", .type "object"]) PySem.F.excBase_Exception (by rfl) (by rfl) (by rfl) hC (looks_findIn X hi) (fun self => bind_fn X self ht) ?_ hpos)
  have N' := (N.push F (tupO pos)).push (F.push _) (excO 54 hh.objs.size)
  rw [Heap.size_push] at N'
  exact h _ hh.objs.size _ ((F.push _).push _) N' (fun p hp => Heap.lt_size (N p hp).1) (Nat.lt_succ_self _)
theorem inst_exc {h₀ h : Heap} {L e t C : Addr} {news : List (Addr × Obj)} (N : News h₀ L h news) (hm : (e, excO C t) ∈ news) : InstAt h e (excO C t) C none := ⟨(N _ hm).1, rfl, rfl, trivial⟩
theorem wd_type : typeOf (.builtin "Exception.__init__") = pure (.type "wrapper_descriptor") := by kernel_rfl
theorem slot_wd_get : Slot "wrapper_descriptor" "__get__" "wrapper_descriptor.__get__" := .of (owner := "wrapper_descriptor") (n := "__get__") (by rw [typeLookup_type, builtinLookup_eq_fast]; kernel_rfl) (by decide +kernel) (by decide +kernel) (by decide +kernel)
  (by first | exact .inl (by decide +kernel) | exact .inr (by decide +kernel)) (by rw [isSubtype_type]; kernel_rfl)
theorem entry_wd_get : entryFor table "wrapper_descriptor.__get__" = some Builtin.«wrapper_descriptor.__get__» := entryFor_of_tree (by kernel_rfl)
theorem args_wd_get (a b c : Value) : argsOk "wrapper_descriptor.__get__" ⟨[a, b, c], []⟩ := by unfold argsOk; kernel_rfl
abbrev mwO (e : Addr) : Obj := { cls := .type "method-wrapper", data := .fields #[.builtin "Exception.__init__", .ref e] }
section
variable {prog : Program} {w : World} {A : Around} {E : Value → Shared → Prop} {h : Heap} {g : Array GenState} {d : Drawn} {t : Nat} {os : OsState}
theorem x_super_ga {so D x C : Addr} {l₀ l : List Value} {K : Frag} {name : Str} {tk : Tok} {ox : Obj} {Q : Fin → Shared → Prop}
    (hso : h.get? so = some { cls := .type "super", dict := none, data := .fields #[.ref D, .ref x, .ref C], slots := #[] }) (hno : Looks (model prog w) h (opaqueClassAbove (.ref C)) none)
    (hC : Looks (model prog w) h (mroOf (.ref C)) l₀) (hl : (l₀.dropWhile (· != .ref D)).drop 1 = l) (X : K.In h)
    (hf : alongIn K name l = some (some (.builtin "Exception.__init__"))) (hxC : x ≠ C) (hn : (name == ("__class__" : Str)) = false)
    (hx : h.get? x = some ox) (hxc : ox.cls = .ref C) (hsub : Looks (model prog w) h (isSubtype (.ref C) (.type "Exception")) true)
    (hq : Q (.done (.ret (.ref h.objs.size))) ⟨h.push (mwO x), g, d, t, os⟩) :
    wpAny (model prog w) A (Builtin.«super.__getattribute__» ⟨[.ref so, .str name tk], []⟩) Q E ⟨h, g, d, t, os⟩ := by
  have hlk := slot_wd_get.lookup
  have hty := wd_type
  have hne : (Value.ref x == Value.ref C) = false := by simp [hxC]
  have hTf : (⟨h, g, d, t, os⟩ : Shared).TypeIs (.builtin "Exception.__init__") "wrapper_descriptor" := wd_type
  have hdt : ({ cls := .type "super", dict := none, data := .fields #[.ref D, .ref x, .ref C], slots := #[] } : Obj).data = .fields #[.ref D, .ref x, .ref C] := rfl
  have f0 : (#[.ref D, .ref x, .ref C] : Array Value)[0]? = some (.ref D) := rfl
  have f1 : (#[.ref D, .ref x, .ref C] : Array Value)[1]? = some (.ref x) := rfl
  have f2 : (#[.ref D, .ref x, .ref C] : Array Value)[2]? = some (.ref C) := rfl
  unfold Builtin.«super.__getattribute__»
  repeat (first
    | (with_reducible refine wpAny_field hso hdt f0 ?_) | (with_reducible refine wpAny_field hso hdt f1 ?_) | (with_reducible refine wpAny_field hso hdt f2 ?_)
    | (with_reducible refine ks_wpAny_notOpaque hno ?_)
    | (with_reducible refine Looks.at hC ?_; rw [hl])
    | (refine ks_forIn_along X (fun _ _ => rfl) rfl ?_ hf)
    | (with_reducible refine wpAny_typeOf hTf ?_)
    | (with_reducible refine wpAny_call_entry slot_wd_get hTf entry_wd_get ?_ (args_wd_get _ _ _))
    | (with_reducible refine ⟨_, rfl, ?_⟩)
    | (simp only [hn, hne, Bool.or_false, Bool.false_eq_true, if_false])
    | wp_step
    | dsimp only)
  rw [hxc, show (".".intercalate ("Exception.__init__".cutAt '.').dropLast) = "Exception" by decide +kernel]
  refine Looks.at hsub ?_
  unfold newFields
  repeat (first | (with_reducible refine wpAny_newObj_type ?_ (by size_fits)) | wp_step | (with_reducible refine ⟨_, rfl, ?_⟩))
  all_goals exact hq
theorem x_getMethod_super {so D x C : Addr} {l₀ l : List Value} {K : Frag} {name : Str} {ox : Obj} {pl : Sem Bool} {Q : Value × List Value → Shared → Prop}
    (hso : h.get? so = some { cls := .type "super", dict := none, data := .fields #[.ref D, .ref x, .ref C], slots := #[] }) (hno : Looks (model prog w) h (opaqueClassAbove (.ref C)) none)
    (hC : Looks (model prog w) h (mroOf (.ref C)) l₀) (hl : (l₀.dropWhile (· != .ref D)).drop 1 = l) (X : K.In h)
    (hf : alongIn K name l = some (some (.builtin "Exception.__init__"))) (hxC : x ≠ C) (hn : (name == ("__class__" : Str)) = false)
    (hx : h.get? x = some ox) (hxc : ox.cls = .ref C) (hsub : Looks (model prog w) h (isSubtype (.ref C) (.type "Exception")) true)
    (hq : Q (.ref h.objs.size, []) ⟨h.push (mwO x), g, d, t + 1, os⟩) :
    wpAny (model prog w) A (getMethod (.ref so) name pl) Q E ⟨h, g, d, t, os⟩ := by
  have hlk := F.ks_slot_super_ga.lookup
  have hcan := F.ks_canon_super_ga
  have hT : ∀ t', (⟨h, g, d, t', os⟩ : Shared).TypeIs (.ref so) "super" := fun _ => ⟨_, hso, rfl⟩
  unfold getMethod
  refine wpAny_bind (wpAny_specialOf (hT _) hlk ?_)
  show wpAny _ _ (if (Manifest.canonical "super.__getattribute__" != "object.__getattribute__") = true then _ else _) _ _ _
  rw [if_pos hcan]
  unfold getAttr getAttrBy
  refine wpAny_bind (wpAny_bind (wpAny_mkText (wpAny_holding (wpAny_bind (wpAny_typeOf (hT _) (wpAny_bind (wpAny_of_eq hlk ?_)))))))
  show wpAny _ _ (getAttrByItsOwn (.ref so) (.str name t) (.type "super") (.builtin "super.__getattribute__") true false) _ _ _
  unfold getAttrByItsOwn hookBefore callGetattribute boundAndCalled
  refine wpAny_bind (wpAny_of_eq (show (if onTheHeap (.type "super") then typeLookup (.type "super") "__getattr__" else pure none) = pure none from rfl) ?_)
  refine wpAny_bind (wpAny_attempt (wpAny_holding ?_))
  show wpAny _ _ (bindSpecial (.builtin "super.__getattribute__") (.ref so) >>= _) _ _ _
  refine wpAny_bind (wpAny_of_eq (F.ks_slot_super_ga.bind _) ?_)
  refine wpAny_mono (Q := fun v s' => v = .ref h.objs.size ∧ s' = ⟨h.push (mwO x), g, d, t + 1, os⟩) (E := fun _ _ => False)
    (wpAny_call_entry F.ks_slot_super_ga (hT _) F.ks_entry_super_ga (x_super_ga hso hno hC hl X hf hxC hn hx hxc hsub ⟨_, rfl, rfl, rfl⟩) (F.ks_gaArgs_super _ _)) (fun v s' hv => ?_) fun _ _ z => z.elim
  obtain ⟨rfl, rfl⟩ := hv
  exact wpAny_pure (wpAny_pure hq)

theorem x_call_mw {mw e tt C : Addr} {rest : List Value} {Q : Value → Shared → Prop} {nm q : Str} {N : Addr} {bs bm : List Value} {hdct : Bool} {sn : List Str} {sub : List Value} {ab : Bool} {col : Option Bool} {dd : Option Addr} {k0 k1 k2 k3 k5 : Option Value} {newId : String}
    (hC : h.get? C = some (excClassObj nm q C N bs bm hdct sn sub ab col dd k0 k1 k2 k3 k5 newId)) (hcB : (Value.ref C :: bm).contains (.type "Exception") = true) (hmw : h.get? mw = some (mwO e)) (he : h.get? e = some (excO C tt)) (hrest : rest.length ≤ sizeLine)
    (hq : ∀ h', h'.get? e = some (excO C h.objs.size) → h'.get? h.objs.size = some (tupO rest) → (∀ b o, b ≠ e → h.get? b = some o → h'.get? b = some o) → Q .none ⟨h', g, d, t, os⟩) :
    wpAny (model prog w) A (call (.ref mw) rest) Q E ⟨h, g, d, t, os⟩ := by
  refine wpAny_call (codeAny_of_tree ?_)
  show wpAny _ _ (callAny (.ref mw) _) _ _ _
  unfold callAny
  refine wpAny_bind (wpAny_load hmw ?_)
  show wpAny _ _ (checkBoundCall "Exception.__init__" ⟨.ref e :: rest, []⟩ >>= fun _ => again (.builtin "Exception.__init__" ⟨.ref e :: rest, []⟩)) _ _ _
  refine wpAny_bind ?_
  show wpAny _ _ (checkBoundCall "Exception.__init__" ⟨.ref e :: rest, []⟩) _ _ _
  unfold checkBoundCall
  rw [PySem.F.excBase_Exception.initKind, PySem.F.excBase_Exception.initRow]
  dsimp only
  rw [if_pos (by rfl)]
  unfold Bind.checkArgs
  repeat (first | with_reducible refine wpAny_loadPart_at he ?_ | with_reducible refine wpAny_loadPart_at hC ?_ | with_reducible refine wpAny_load hC ?_ | (with_reducible refine wpAny_isSubtype_exc hC ?_; rw [hcB]) | wp_step)
  refine wpAny_onRaise ?_
  rw [show ∀ (a b : String) (n : Nat), Bind.check ⟨.positional, "*", "Exception", .self, [⟨"args", .varPos, false⟩]⟩ a b n (List.map (fun x => x.fst) ({ pos := Value.ref e :: rest } : Args).kw) = pure () from fun a b n => check_star_args _ _ _ _ _ _]
  refine wpAny_pure (wpAny_pure ⟨plainId_quiet PySem.F.excBase_Exception.init.plain _, codeAny_builtin PySem.F.excBase_Exception.initEntry ?_⟩)
  unfold Builtin.«BaseException.__init__»
  wp_walk
  have hlt : e ≠ h.objs.size := Nat.ne_of_lt (Heap.lt_size he)
  refine hq _ ?_ ?_ fun b o hb hbo => ?_
  · rw [Heap.get?_update_self _ (Heap.get?_push_of_some _ he) rfl]
    rfl
  · rw [Heap.get?_update_other _ _ hlt]
    exact Heap.get?_push_at rfl rfl
  · rw [Heap.get?_update_other _ _ (Ne.symm hb)]
    exact Heap.get?_push_of_some _ hbo
end
section
open Builtin Builtin.ObjectAttr
variable {prog : Program} {w : World} {A : Around} {E : Value → Shared → Prop} {K : Frag} {C x : Addr} {s : Shared} {h₀ : Heap} {L : Addr} {m : Str → Option Value} {news : List (Addr × Obj)} {R : Result → Shared → Prop}
def excOver (K : Frag) (C : Addr) : Bool := (clsIn K C).any fun cd => cd.hasDict && (cd.mro == [.ref 54, .ref 41, .type "Exception", .type "BaseException", .type "object"])
theorem x_osa_open {o : Obj} {name : Str} {tk : Tok} {v : Value} (X : K.In s.heap) (hx : s.heap.get? x = some o) (hcl : o.cls = .ref C) (hp : excOver K C = true) (ht : findIn K (.ref C) name = some none)
    (h : wpAny (model prog w) A.in1 (storeInOwnDict (.ref x) (.ref C) (.str name tk) name v false)
      (fun fin s' => match fin with | .done f => R (.ok f) s' | .again c' => c'.quiet = true ∧ codeAny (model prog w) A c' R s') (fun e s' => R (.error e) s') s) :
    codeAny (model prog w) A (.call (.builtin "object.__setattr__") ⟨[.ref x, .str name tk, v], []⟩) R s := by
  have SF := PySem.F.store_object
  obtain ⟨cd, hc, ho⟩ := any_some hp
  obtain ⟨hd, ho⟩ := Bool.and_eq_true_iff.mp ho
  have ho := beq_iff_eq.mp ho
  have ty : Looks (model prog w) s.heap (typeOf (.ref x)) (.ref C) := hcl ▸ (Looks.ld hx).andThen .now
  have sub : Looks (model prog w) s.heap (isInstance (.ref x) (.type "object")) true := ty.andThen (looks_mroIn X (by unfold mroIn; rw [hc, Option.bind_some, ho]; rfl))
  refine codeAny_call_builtin SF.slot.plain SF.entry (@check_slot (model prog w) _ _ s "object.__setattr__" "object" "__setattr__" (.ref x) [.str name tk, v] [] _ SF.kind SF.split sub (SF.args (.ref x) (.str name tk) v) ?_)
  have hm : Looks (model prog w) s.heap (mroOf (.ref C)) cd.mro := (looks_clsIn X hc).andThen .now
  rw [osa_eq, refuse_eq]
  refine wpAny_bind (wpAny_bind (ty.here (wpAny_bind (hm.here ?_))))
  rw [ho, refuseLoop_ref, refuseLoop_ref, PySem.F.store_Exception.passes]
  refine wpAny_pure (wpAny_bind (ty.here (wpAny_bind ((looks_findIn X ht).here (wpAny_bind (wpAny_pure ?_))))))
  exact h

theorem x_set {o : Obj} {name : Str} {v : Value} {Q : Unit → Shared → Prop} (X : K.In s.heap) (hx : s.heap.get? x = some o) (hcl : o.cls = .ref C)
    (hs : findIn K (.ref C) "__setattr__" = some (some (.builtin "object.__setattr__")))
    (h : codeAny (model prog w) A (.call (.builtin "object.__setattr__") ⟨[.ref x, .str name s.toks, v], []⟩) (fun r s' => match r with | .ok (.ret _) => Q () s' | .ok _ => False | .error e => E e s') { s with toks := s.toks + 1 }) :
    wpAny (model prog w) A (setAttr (.ref x) name v) Q E s := by
  have ty : ∀ A Q E s', s'.heap = s.heap → Q (.ref C) s' → wpAny (model prog w) A (typeOf (.ref x)) Q E s' := fun A Q E s' e q => (show Looks (model prog w) s.heap (typeOf (.ref x)) (.ref C) from hcl ▸ (Looks.ld hx).andThen .now) A Q E s' (fun b o q => by rw [e]; exact q) q
  refine wpAny_bind (wpAny_mkText (wpAny_bind (wpAny_bind (wpAny_bind (ty _ _ _ _ rfl (looks_findIn X hs _ _ _ _ (fun _ _ e => e) (wpAny_holding ?_)))))))
  rw [PySem.F.store_object.slot.bind]
  refine wpAny_bind (wpAny_pure (wpAny_bind (wpAny_call (codeAny_mono h fun r s' z => ?_))))
  rcases r with e | (v | _ | _ | _) <;> first | exact z | exact wpAny_pure (wpAny_pure z)

theorem x_store_in {D : Addr} {es : List DictEntry} {n : Nat} {name : Str} {tk : Tok} {v : Value} {Q : Fin → Shared → Prop}
    (hD : s.heap.get? D = some (dictOf es n)) (hl : (getL name es).isSome = true) (hz : es.length ≤ 100)
    (hq : Q (.done (.ret .none)) { s with heap := s.heap.update D (Obj.putName name (PyData.keyHash w.params name) (.str name s.toks) v), toks := s.toks + 1 }) :
    wpAny (model prog w) A (storeInDict D (.str name tk) name v) Q E s := by
  unfold storeInDict newKeyGuard
  refine wpAny_bind (wpAny_pure (wpAny_bind ?_))
  unfold nsSet
  have hD' : (s.heap.update D (Obj.putName name (PyData.keyHash w.params name) (.str name s.toks) v)).get? D = some (dictOf (putL name (PyData.keyHash w.params name) (.str name s.toks) v es) (putN name es n)) := by
    rw [Heap.get?_update_self _ hD (by rw [putName_dict]; rfl), putName_dict]
  have hlen : (putL name (PyData.keyHash w.params name) (.str name s.toks) v es).length ≤ es.length + 1 := by
    clear hD hD' hl hz hq
    induction es with
    | nil => exact Nat.le_refl _
    | cons e r ih =>
      unfold putL
      split
      · simp
      · simp only [List.length_cons]; omega
  refine wpAny_bind (wpAny_bind (wpAny_askSetting (wpAny_pure (wpAny_bind (wpAny_mkText (wpAny_bind (wpAny_loadPart hD ?_)))))))
  dsimp only
  unfold getL at hl
  have c : (!es.toArray.any (·.key.isStr name) && es.toArray.any (·.refKey)) = false := by
    rw [← Array.any_toList, ← Array.any_toList]
    split at hl
    · rename_i en he
      rw [List.any_eq_true.mpr ⟨en, List.mem_of_find?_eq_some he, List.find?_some he⟩]; rfl
    · split at hl
      · cases hl
      · rename_i z; rw [Bool.not_eq_true] at z; rw [z, Bool.and_false]
  rw [aRefKeyMayBeTheName_at, c]
  refine wpAny_updatePart hD ?_
  refine wpAny_bind (wpAny_lookBehind hD' (pastItsLine_dict (by rw [List.size_toArray, sizeLine_eq]; omega)) ?_)
  exact wpAny_pure hq
end
abbrev excD (C t D : Addr) : Obj := { cls := .ref C, dict := some D, data := .fields #[.ref t, .none, .none, .none, .bool false, .none] }
section
open Builtin Builtin.ObjectAttr
variable {prog : Program} {w : World} {A : Around} {E : Value → Shared → Prop} {K : Frag} {e t : Addr} {s : Shared} {h₀ : Heap} {L : Addr} {m : Str → Option Value} {news news' : List (Addr × Obj)} {u : Obj → List (Addr × Obj)}
theorem updF_at {d : Addr} {o : Obj} {l : List (Addr × Obj)} {f : Obj → List (Addr × Obj)} (U : UpdF d o l f) (o' : Obj) : Upd d o o' l (f o') := by
  induction U with
  | head h => exact .head h
  | tail h _ ih => exact .tail h ih
theorem upd_mem {d : Addr} {o o' : Obj} {l l' : List (Addr × Obj)} (U : Upd d o o' l l') : (d, o) ∈ l := by
  induction U with
  | head h => exact .head _
  | tail h _ ih => exact .tail _ ih
theorem upd_news {d : Addr} {o o' : Obj} {f : Obj → Obj} {h : Heap} (F : Fr h₀ L h m) (N : News h₀ L h news) (U : Upd d o o' news news') (e : f o = o') (hf : o'.isFreed = false) : Fr h₀ L (h.update d f) m ∧ News h₀ L (h.update d f) news' := by
  obtain ⟨pre, post, rfl, rfl, a, b⟩ := U.split
  exact news_upd F N a b e hf
theorem x_set_first {name : Str} {v : Value} {Q : Unit → Shared → Prop} (F : Fr h₀ L s.heap m) (X₀ : K.In h₀) (N : News h₀ L s.heap news) (hp : excOver K 54 = true) (ht : findIn K (.ref 54) name = some none)
    (hs : findIn K (.ref 54) "__setattr__" = some (some (.builtin "object.__setattr__"))) (U : UpdF e (excO 54 t) news u)
    (h : ∀ D h', Fr h₀ L h' m → News h₀ L h' ((D, dictOf [⟨PyData.keyHash w.params name, .str name (s.toks + 1), v⟩] 1) :: u (excD 54 t D)) → (∀ p ∈ news, p.1 < D) → Q () { s with heap := h', toks := s.toks + 2 }) :
    wpAny (model prog w) A (setAttr (.ref e) name v) Q E s := by
  have X := X₀.keeps F.keep
  have hx := (N _ (upd_mem (updF_at U (excD 54 t 0)))).1
  obtain ⟨hh, g, d, tk, os⟩ := s
  refine x_set X hx rfl hs (x_osa_open (s := ⟨hh, g, d, tk + 1, os⟩) X hx rfl hp ht ?_)
  obtain ⟨cd, hc, ho⟩ := any_some hp
  obtain ⟨hd, -⟩ := Bool.and_eq_true_iff.mp ho
  have N1 := N.push F (dictOf [] 0)
  have F1 := F.push (dictOf [] 0)
  have lt : ∀ p ∈ news, p.1 < hh.objs.size := fun p hp => Heap.lt_size (N p hp).1
  obtain ⟨F2, N2⟩ := upd_news (f := fun o => { o with dict := some hh.objs.size }) F1 N1 (Upd.tail (p := (hh.objs.size, dictOf [] 0)) (Nat.ne_of_gt (lt _ (upd_mem (updF_at U (excD 54 t 0))))) (updF_at U (excD 54 t hh.objs.size))) rfl rfl
  have hne : ∀ p ∈ u (excD 54 t hh.objs.size), p.1 ≠ hh.objs.size := by
    obtain ⟨pre, post, e1, e2, a, b⟩ := (updF_at U (excD 54 t hh.objs.size)).split
    intro p hp
    rw [e2] at hp
    subst e1
    rcases List.mem_append.mp hp with q | q
    · exact Nat.ne_of_lt (lt p (List.mem_append_left _ q))
    · rcases List.mem_cons.mp q with rfl | q
      · exact Nat.ne_of_lt (lt (e, excO 54 t) (List.mem_append_right _ (.head _)))
      · exact Nat.ne_of_lt (lt p (List.mem_append_right _ (.tail _ q)))
  refine wpAny_bind (wpAny_pure ?_)
  refine wpAny_bind ?_
  refine wpAny_bind (wpAny_loadPart hx ?_)
  refine wpAny_bind ((looks_clsIn (M := model prog w) X hc).at ?_)
  rw [hd]
  refine wpAny_bind (wpAny_alloc ?_)
  refine wpAny_bind (wpAny_update (N1 _ (.tail _ (upd_mem (updF_at U (excD 54 t 0))))).1 ?_)
  refine wpAny_pure ?_
  refine x_store_in (es := []) (n := 0) (N2 _ (.head _)).1 rfl (Nat.zero_le _) ?_
  obtain ⟨F3, N3⟩ := upd_news (f := Obj.putName name (PyData.keyHash w.params name) (.str name (tk + 1)) v) F2 N2 (Upd.head hne) (by rw [putName_dict]) rfl
  exact h hh.objs.size _ F3 N3 lt
end
section
open Builtin Builtin.ObjectAttr
variable {prog : Program} {w : World} {A : Around} {E : Value → Shared → Prop} {K : Frag} {e t D so mw : Addr} {s : Shared} {h₀ : Heap} {L : Addr} {m : Str → Option Value} {news news' : List (Addr × Obj)} {u : Obj → List (Addr × Obj)}
theorem x_set_next {name : Str} {v : Value} {es es' : List DictEntry} {n n' : Nat} {Q : Unit → Shared → Prop} (F : Fr h₀ L s.heap m) (X₀ : K.In h₀) (N : News h₀ L s.heap news) (hp : excOver K 54 = true) (ht : findIn K (.ref 54) name = some none)
    (hs : findIn K (.ref 54) "__setattr__" = some (some (.builtin "object.__setattr__"))) (hm : (e, excD 54 t D) ∈ news) (_hD : (D, dictOf es n) ∈ news) (hl : (getL name es).isSome = true) (hz : es.length ≤ 100)
    (he : (putL name (PyData.keyHash w.params name) (.str name (s.toks + 1)) v es, putN name es n) = (es', n')) (U : Upd D (dictOf es n) (dictOf es' n') news news')
    (h : ∀ h', Fr h₀ L h' m → News h₀ L h' news' → Q () { s with heap := h', toks := s.toks + 2 }) :
    wpAny (model prog w) A (setAttr (.ref e) name v) Q E s := by
  have X := X₀.keeps F.keep
  have hx := (N _ hm).1
  obtain ⟨hh, g, d, tk, os⟩ := s
  obtain ⟨e1, e2⟩ := Prod.mk.inj he
  refine x_set X hx rfl hs (x_osa_open (s := ⟨hh, g, d, tk + 1, os⟩) X hx rfl hp ht ?_)
  obtain ⟨cd, hc, ho⟩ := any_some hp
  obtain ⟨hd, -⟩ := Bool.and_eq_true_iff.mp ho
  refine wpAny_bind (wpAny_pure ?_)
  refine wpAny_bind ?_
  refine wpAny_bind (wpAny_loadPart hx ?_)
  refine wpAny_bind ((looks_clsIn (M := model prog w) X hc).at ?_)
  rw [hd]
  refine wpAny_pure (a := some D) ?_
  refine x_store_in (es := es) (n := n) (N _ (upd_mem U)).1 hl hz ?_
  obtain ⟨F3, N3⟩ := upd_news (f := Obj.putName name (PyData.keyHash w.params name) (.str name (tk + 1)) v) F N U (by rw [putName_dict, e1, e2]) rfl
  exact h _ F3 N3
theorem k_super_exc {name : Str} {pl : Sem Bool} {Q : Value × List Value → Shared → Prop} (F : Fr h₀ L s.heap m) (X₀ : K.In h₀) (N : News h₀ L s.heap news) (hso : (so, ks_superObj 41 e 54) ∈ news) (he : (e, excO 54 t) ∈ news) (ho : nsIn K cStatics "thirdparty.any" = some none)
    (hm : ks_superIn K 54 41 name = some (some (.builtin "Exception.__init__"))) (hsub : mroIn K 54 (.type "Exception") = some true) (hn : (name == ("__class__" : Str)) = false)
    (h : ∀ q h', Fr h₀ L h' m → News h₀ L h' ((q, mwO e) :: news) → (∀ p ∈ news, p.1 < q) → Q (.ref q, []) { s with heap := h', toks := s.toks + 1 }) : wpAny (model prog w) A (getMethod (.ref so) name pl) Q E s := by
  have X : K.In s.heap := X₀.keeps F.keep
  have I : InstAt s.heap e (excO 54 t) 54 none := inst_exc N he
  obtain ⟨hh, g, d, tk, os⟩ := s
  cases hc : clsIn K 54 with
  | none => unfold ks_superIn at hm; rw [hc] at hm; cases hm
  | some cd =>
    unfold ks_superIn at hm
    rw [hc] at hm
    refine x_getMethod_super (N _ hso).1 (looks_opaque X ho) (l₀ := cd.mro) ?_ rfl X hm (ks_ne X I hc) hn (N _ he).1 rfl (looks_mroIn X hsub) ?_
    · exact fun A Q E s k q => wpAny_bind ((looks_clsIn X hc) A _ E s k (wpAny_pure q))
    · obtain ⟨F', N', l'⟩ := ks_newsPush (s := ⟨hh, g, d, tk, os⟩) (o := mwO e) F N rfl (Heap.get?_push_at rfl rfl) (fun b o e => Heap.get?_push_of_some _ e)
      exact h _ _ F' N' l'
theorem keeps_mw {M : Model} (h : Heap) (X : h.get? mw = some (mwO e)) : ∃ k, (k = Keeper.frame ∨ k = Keeper.machine ∨ k = Keeper.boundFrame) ∧ Looks M h (keeperOf (.ref mw)) k :=
  ⟨.machine, .inr (.inl rfl), (Looks.ld (part := none) X).andThen .now⟩
theorem k_callWith_mw {env : Env} {pos : Pos} {first : List Value} {x : Expr} {rest : List Expr} {Q : Value → Shared → Prop} (N : News h₀ L s.heap news) (hm : (mw, mwO e) ∈ news)
    (h : wpAny (model prog w) A (spliced (backTo pos (starEach (x :: rest) env))) (fun vs s₁ => s₁.heap.get? mw = some (mwO e) ∧ wpAny (model prog w) A (call (.ref mw) (first ++ vs)) Q E s₁) E s)
    (he : starEach (x :: rest) env = (false, eval x env) :: starEach rest env := by rfl) (hplain : (backTo pos (starEach rest env)).any (·.1) = false := by rfl) :
    wpAny (model prog w) A (callWith pos (.ref mw) first (backTo pos (starEach (x :: rest) env)) []) Q E s := by
  have _ := (N _ hm).1
  rw [he] at h ⊢
  exact callWith_of (P := fun h => h.get? mw = some (mwO e)) (by show ((false || (backTo pos (starEach rest env)).any (·.1)) || false) = false; rw [hplain]; rfl) (fun h X => keeps_mw h X) (_root_.PySem.Calls.evalArgs_plain h)
theorem k_call_mw {rest : List Value} {Q : Value → Shared → Prop} {w : World} {E : Value → Shared → Prop} (F : Fr h₀ L s.heap m) (X₀ : (hd.heap_1 w.params).In h₀) (N : News h₀ L s.heap news) (hm : (mw, mwO e) ∈ news) (U : UpdF e (excO 54 t) news u) (hrest : rest.length ≤ sizeLine)
    (h : ∀ t' h', Fr h₀ L h' m → News h₀ L h' ((t', tupO rest) :: u (excO 54 t')) → (∀ p ∈ news, p.1 < t') → Q .none { s with heap := h' }) :
    wpAny (model prog w) A (call (.ref mw) rest) Q E s := by
  have X := X₀.keeps F.keep
  have hC := X 54 _ (by k_is)
  obtain ⟨hh, g, d, tk, os⟩ := s
  have hmem := upd_mem (updF_at U (excO 54 0))
  have lt : ∀ p ∈ news, p.1 < hh.objs.size := fun p hp => Heap.lt_size (N p hp).1
  refine x_call_mw (bm := [.ref 41, .type "Exception", .type "BaseException", .type "object"]) hC (by rfl) (N _ hm).1 (N _ hmem).1 hrest fun h' q1 q2 q3 => ?_
  have hsz : (h₀.get? hh.objs.size) = none := by
    cases z : h₀.get? hh.objs.size with
    | none => rfl
    | some o => exact absurd (Heap.lt_size (F.keep _ _ z)) (Nat.lt_irrefl _)
  have hLe : L ≠ e := fun q => (N _ hmem).2.1 q.symm
  have F' : Fr h₀ L h' m := by
    obtain ⟨oL, a1, a2, hL, a3⟩ := F.ns
    exact ⟨⟨oL, a1, a2, q3 _ _ hLe hL, a3⟩, fun b o z => q3 b o (fun q => by have := (N _ hmem).2.2; rw [← q, z] at this; cases this) (F.keep b o z), F.above⟩
  have hLs : hh.objs.size ≠ L := by
    obtain ⟨oL, a1, a2, hL, a3⟩ := F.ns
    exact Nat.ne_of_gt (Heap.lt_size hL)
  refine h hh.objs.size h' F' ?_ lt
  intro p hp
  rcases List.mem_cons.mp hp with rfl | hp
  · exact ⟨q2, hLs, hsz⟩
  · obtain ⟨pre, post, e1, e2, a, b⟩ := (updF_at U (excO 54 hh.objs.size)).split
    rw [e2] at hp
    rw [e1] at N
    rcases List.mem_append.mp hp with q | q
    · have P := N p (List.mem_append_left _ q)
      exact ⟨q3 _ _ (a p q) P.1, P.2⟩
    · rcases List.mem_cons.mp q with rfl | q
      · exact ⟨q1, (N (e, excO 54 t) (List.mem_append_right _ (.head _))).2⟩
      · have P := N p (List.mem_append_right _ (.tail _ q))
        exact ⟨q3 _ _ (b p q) P.1, P.2⟩
end
def TrD (h base : Heap) (e : Addr) (cls : Value) (od : Option Addr) (fl : Value) : Prop :=
  ∃ oe vs T oT ts, h.get? e = some oe ∧ oe.cls = cls ∧ oe.dict = od ∧ oe.data = .fields vs ∧ vs[1]? = some (.ref T) ∧ base.get? T = none ∧ T ≠ e ∧ h.get? T = some oT ∧ oT.data = .fields ts ∧ ts[3]? = some fl
def NotD (base : Heap) (l : List Env) (e : Addr) (cls : Value) (od : Option Addr) (fl : Value) (h h' : Heap) : Prop :=
  base.StaysIn h' ∧ h'.FunFrames base l ∧ TrD h' base e cls od fl ∧ h.UpToSlots h'
theorem obj_dict_mapFields (f : Array Value → Array Value) (o : Obj) : (Obj.mapFields f o).dict = o.dict := by
  obtain ⟨c, d, dt, s⟩ := o
  cases dt <;> rfl
section
variable {M : Model} {A : Around} {E : Value → Shared → Prop} {s : Shared}
theorem f_entry {base : Heap} {env : Env} {outer : List Env} {L e : Addr} {oe : Obj} {vs : Array Value} {head : Value} {hn : Bool} {Q : Unit → Shared → Prop}
    (hfr : A.frames = some (env :: outer)) (hl : s.heap.FunFrames base (env :: outer)) (hf : env.frame = some L)
    (he : s.heap.get? e = some oe) (hkb : base.StaysIn s.heap) (hen : base.get? e = none) (hd : oe.data = .fields vs) (hsz : 1 < vs.size)
    (h : ∀ h', NotD base (env :: outer) e oe.cls oe.dict (rawInt L) s.heap h' → Q () { s with heap := h' }) :
    wpAny M A (do let a ← frameOf env; let pl ← entryPlaceOf L hn; let b ← EntryCells.newEntry head a .none (rawInt L) .none pl; setField (.ref e) 1 b) Q E s := by
  have hene : e ∉ (env :: outer).filterMap (·.frame) := fun hm => by
    obtain ⟨_, o, ho, hnf⟩ := hl.mem hm
    rw [he] at ho; injection ho with ho; subst ho; exact hnf vs hd
  refine wpAny_bind (wpAny_frameOf_fun hfr hl hf fun h₁ hs₁ => ?_)
  refine wpAny_bind (wpAny_entryPlaceOf fun pl hpl => ?_)
  unfold EntryCells.newEntry newFields
  refine wpAny_bind (wpAny_newObj_type ?_ (hpl.sizeOk5 _ _ _ _ _))
  have he₁ : h₁.get? e = some oe := (hs₁.2.1 e hene).trans he
  have kb₁ : base.StaysIn h₁ := fun b o hbo => (hs₁.2.1 b fun hm => by rw [(hl.mem hm).1] at hbo; cases hbo).trans (hkb b o hbo)
  generalize hoT : ({ cls := .type "traceback", dict := none, data := .fields ([head, .ref L, .none, rawInt L, .none] ++ (if pl.isEmpty then List.replicate 6 Value.none else pl)).toArray } : Obj) = oT
  have hTd : oT.data = .fields ([head, .ref L, .none, rawInt L, .none] ++ (if pl.isEmpty then List.replicate 6 Value.none else pl)).toArray := by rw [← hoT]
  have he₂ := Heap.get?_push_of_some (h := h₁) oT he₁
  refine wpAny_setField he₂ hd hsz (h _ ?_)
  have hTe : h₁.objs.size ≠ e := Nat.ne_of_gt (Heap.lt_size he₁)
  have hd₃ := Obj.data_mapFields hd (·.setIfInBounds 1 (Value.ref h₁.objs.size))
  have he₃ := Heap.get?_update_self (Obj.mapFields (·.setIfInBounds 1 (Value.ref h₁.objs.size))) he₂ (Obj.isFreed_of_fields hd₃)
  have hT₃ := (Heap.get?_update_other (h₁.push oT) (Obj.mapFields (·.setIfInBounds 1 (Value.ref h₁.objs.size))) (Ne.symm hTe)).trans (Heap.get?_push_size h₁ (Obj.isFreed_of_fields hTd))
  have keep : ∀ b o, b ≠ e → h₁.get? b = some o → ((h₁.push oT).update e (Obj.mapFields (·.setIfInBounds 1 (Value.ref h₁.objs.size)))).get? b = some o := fun b o hbe hb => by
    rw [Heap.get?_update_other _ _ (Ne.symm hbe)]
    exact Heap.get?_push_of_some _ hb
  have noRec : ∀ b o, s.heap.get? b = some o → (∀ vs, o.data ≠ .fields vs) → b ≠ e := fun b o hb hnf q => by
    rw [q, he] at hb; injection hb with hb; subst hb; exact hnf vs hd
  refine ⟨fun b o hbo => keep b o (fun q => by rw [q, hen] at hbo; cases hbo) (kb₁ b o hbo), hl.of_keeps fun b o hb hnf => ?_, ?_, fun b o hb hnf => ?_⟩
  · obtain ⟨sl, hs⟩ := hs₁.2.2 b o hb
    exact ⟨_, keep b _ (noRec b o hb hnf) hs, rfl⟩
  · exact ⟨_, _, h₁.objs.size, _, _, he₃, Obj.cls_mapFields _ _, obj_dict_mapFields _ _, hd₃, by simp [hsz], kb₁.fresh, hTe, hT₃, hTd, by rcases hpl with rfl | ⟨_, _, _, _, _, _, _, rfl⟩ <;> simp⟩
  · obtain ⟨sl, hs⟩ := hs₁.2.2 b o hb
    exact ⟨sl, keep b _ (noRec b o hb hnf) hs⟩

theorem f_note_first {base : Heap} {env : Env} {outer : List Env} {L e : Addr} {oe : Obj} {vs : Array Value} {Q : Unit → Shared → Prop}
    (hfr : A.frames = some (env :: outer)) (hl : s.heap.FunFrames base (env :: outer)) (hf : env.frame = some L)
    (he : s.heap.get? e = some oe) (hkb : base.StaysIn s.heap) (hen : base.get? e = none) (hd : oe.data = .fields vs) (h1 : vs[1]? = some .none)
    (h : ∀ h', NotD base (env :: outer) e oe.cls oe.dict (rawInt L) s.heap h' → Q () { s with heap := h' }) : wpAny M A (noteFrame (.ref e) env) Q E s := by
  unfold noteFrame
  simp only [hf]
  refine wpAny_bind (wpAny_field he hd h1 ?_)
  rw [if_neg (by decide)]
  exact f_entry hfr hl hf he hkb hen hd (Array.getElem?_eq_some_iff.mp h1).1 h

abbrev flV (x : Option Addr) : Value := x.elim Value.none fun f => rawInt f
theorem f_note_any {base : Heap} {env : Env} {outer : List Env} {L e : Addr} {cls : Value} {od x : Option Addr} {Q : Unit → Shared → Prop}
    (hfr : A.frames = some (env :: outer)) (hl : s.heap.FunFrames base (env :: outer)) (hf : env.frame = some L) (ht : TrD s.heap base e cls od (flV x)) (hkb : base.StaysIn s.heap) (hen : base.get? e = none)
    (h : ∀ h', NotD base (env :: outer) e cls od (rawInt L) s.heap h' → Q () { s with heap := h' }) : wpAny M A (noteFrame (.ref e) env) Q E s := by
  by_cases hx : flV x = rawInt L
  · rw [hx] at ht
    have ht' := ht
    obtain ⟨oe, vs, T, oT, ts, he, rfl, rfl, hd, h1, hnT, hTe, hT, hdT, h3⟩ := ht
    unfold noteFrame
    simp only [hf]
    refine wpAny_bind (wpAny_field he hd h1 ?_)
    rw [if_pos (show (Value.ref T != Value.none) = true from by simp)]
    refine wpAny_bind (wpAny_field hT hdT h3 ?_)
    rw [if_pos (show (rawInt L == rawInt L) = true from by simp [rawInt])]
    exact wpAny_pure (h _ ⟨hkb, hl, ht', fun b o hb _ => ⟨o.slots, hb⟩⟩)
  obtain ⟨oe, vs, T, oT, ts, he, rfl, rfl, hd, h1, hnT, hTe, hT, hdT, h3⟩ := ht
  unfold noteFrame
  simp only [hf]
  refine wpAny_bind (wpAny_field he hd h1 ?_)
  rw [if_pos (show (Value.ref T != Value.none) = true from by simp)]
  refine wpAny_bind (wpAny_field hT hdT h3 ?_)
  rw [if_neg (show ¬ ((flV x == rawInt L) = true) from fun q => hx (by simpa using q))]
  refine wpAny_bind (wpAny_setField hT hdT (Array.getElem?_eq_some_iff.mp h3).1 ?_)
  have other : ∀ b, b ≠ T → (s.heap.update T (Obj.mapFields (·.setIfInBounds 3 Value.none))).get? b = s.heap.get? b := fun b hb => Heap.get?_update_other _ _ (Ne.symm hb)
  have noRec : ∀ b o, s.heap.get? b = some o → (∀ vs, o.data ≠ .fields vs) → b ≠ T := fun b o hb hnf q => by
    rw [q, hT] at hb; injection hb with hb; subst hb; exact hnf ts hdT
  refine f_entry hfr (hl.of_keeps fun b o hb hnf => ⟨o, (other b (noRec b o hb hnf)).trans hb, rfl⟩) hf ((other e (Ne.symm hTe)).trans he)
    (fun b o hbo => (other b fun q => by rw [q, hnT] at hbo; cases hbo).trans (hkb b o hbo)) hen hd (Array.getElem?_eq_some_iff.mp h1).1
    fun h' ⟨x1, x2, x3, x4⟩ => h h' ⟨x1, x2, x3, fun b o hb hnf => x4 b o ((other b (noRec b o hb hnf)).trans hb) hnf⟩

theorem f_flightX {base : Heap} {l : List Env} {e : Addr} {cls : Value} {od y : Option Addr} {fl : Value} {Q : Unit → Shared → Prop}
    (hkb : base.StaysIn s.heap) (hl : s.heap.FunFrames base l) (ht : TrD s.heap base e cls od fl)
    (h : ∀ h', NotD base l e cls od (flV y) s.heap h' → Q () { s with heap := h' }) : wpAny M A (setFlight (.ref e) y) Q E s := by
  refine let_goal fun PP back => ?_
  obtain ⟨oe, vs, T, oT, ts, he, hcls, hod, hd, h1, hnT, hTe, hT, hdT, h3⟩ := ht
  refine back ?_
  clear back
  have hsz3 : 3 < ts.size := (Array.getElem?_eq_some_iff.mp h3).1
  have other : ∀ b, b ≠ T → (s.heap.update T (Obj.mapFields (·.setIfInBounds 3 (flV y)))).get? b = s.heap.get? b :=
    fun b hb => Heap.get?_update_other _ _ (Ne.symm hb)
  have noRec : ∀ b o, s.heap.get? b = some o → (∀ vs, o.data ≠ .fields vs) → b ≠ T := fun b o hb hnf q => by
    rw [q, hT] at hb; injection hb with hb; subst hb; exact hnf ts hdT
  unfold setFlight
  refine wpAny_bind (wpAny_field he hd h1 ?_)
  rw [if_pos (show (Value.ref T != Value.none) = true from by simp)]
  refine wpAny_setField hT hdT hsz3 (h _ ⟨fun b o hbo => (other b fun q => by rw [q, hnT] at hbo; cases hbo).trans (hkb b o hbo),
    hl.of_keeps fun b o hb hnf => ⟨o, (other b (noRec b o hb hnf)).trans hb, rfl⟩, ?_, fun b o hb hnf => ⟨o.slots, (other b (noRec b o hb hnf)).trans hb⟩⟩)
  exact ⟨oe, vs, T, _, _, (other e (Ne.symm hTe)).trans he, hcls, hod, hd, h1, hnT, hTe, Heap.get?_update_self _ hT (Obj.isFreed_of_fields (Obj.data_mapFields hdT _)), Obj.data_mapFields hdT _, by simp [hsz3]⟩
theorem f_flight {base : Heap} {l : List Env} {e : Addr} {cls : Value} {od : Option Addr} {fl : Value} {Q : Unit → Shared → Prop}
    (hkb : base.StaysIn s.heap) (hl : s.heap.FunFrames base l) (ht : TrD s.heap base e cls od fl)
    (h : ∀ h', NotD base l e cls od .none s.heap h' → Q () { s with heap := h' }) : wpAny M A (setFlight (.ref e) none) Q E s := f_flightX (y := none) hkb hl ht h
theorem f_passOn {α : Type} {base : Heap} {l : List Env} {e : Addr} {cls : Value} {od : Option Addr} {fl : Value} {what : String} {env : Env} {Q : α → Shared → Prop}
    (hkb : base.StaysIn s.heap) (hl : s.heap.FunFrames base l) (ht : TrD s.heap base e cls od fl)
    (h : ∀ h' y, NotD base l e cls od (flV y) s.heap h' → E (.ref e) { s with heap := h' }) : wpAny M A (PySem.passOn what (.ref e) env : Sem α) Q E s := by
  have ht' := ht
  refine let_goal fun PP back => ?_
  obtain ⟨oe, vs, T, oT, ts, he, hcls, hod, hd, h1, hnT, hTe, hT, hdT, h3⟩ := ht'
  refine back ?_
  clear back
  unfold PySem.passOn
  refine wpAny_bind (wpAny_field he hd h1 ?_)
  rw [if_neg (show ¬ ((Value.ref T == Value.none) = true) from by simp)]
  exact wpAny_bind (f_flightX hkb hl ht fun h1 x => wpAny_throw (h h1 _ x))
end
def Flies (base G : Heap) (l : List Env) (e D : Addr) (news : List (Addr × Obj)) (h : Heap) : Prop :=
  ∃ B, base.StaysIn B ∧ (∀ b o, G.get? b = some o → b ∉ l.filterMap (·.frame) → B.get? b = some o) ∧ (∀ q ∈ news, B.get? q.1 = some q.2 ∧ G.get? q.1 = none) ∧ B.StaysIn h ∧ B.get? e = none ∧ G.get? e = none ∧ h.FunFrames B l ∧ ∃ x, TrD h B e (.ref 54) (some D) (flV x)
theorem kx_mem {env : Env} {L b : Addr} {outer : List Env} (hf : env.frame = some L) (hm : b ∈ (env :: outer).filterMap (·.frame)) : b = L ∨ b ∈ outer.filterMap (·.frame) := by
  obtain ⟨env', he, hf'⟩ := List.mem_filterMap.mp hm
  rcases List.mem_cons.mp he with rfl | he
  · exact .inl (Option.some.inj (hf.symm.trans hf')).symm
  · exact .inr (List.mem_filterMap.mpr ⟨env', he, hf'⟩)
theorem kx_ground {A₀ : Around} {base g G B h₅ : Heap} {outer : List Env} {env : Env} {L : Addr} {m : Str → Option Value} (hf : env.frame = some L) (K : Below A₀ base outer g) (F : Fr g L G m)
    (hBG : ∀ b o, G.get? b = some o → b ∉ (env :: outer).filterMap (·.frame) → B.get? b = some o) (hBh : B.StaysIn h₅) (hsm : G.UpToSlots h₅) : ∃ g', KtsTurn (outer.filterMap (·.frame)) g g' ∧ Fr g' L h₅ m ∧ Below A₀ base outer g' :=
  kts_ground (name := "") (scope := env.scope) (a := 0) (cd := .none) K F (fun b o e nm => hBG b o e fun hm => nm (by
    rcases kx_mem hf hm with rfl | z
    · exact List.mem_filterMap.mpr ⟨_, .head _, rfl⟩
    · obtain ⟨env', he, hf'⟩ := List.mem_filterMap.mp z
      exact List.mem_filterMap.mpr ⟨env', .tail _ he, hf'⟩)) hBh hsm
theorem x_name {M : Model} {A : Around} {E : Value → Shared → Prop} {s : Shared} {K : Frag} {h₀ : Heap} {L : Addr} {m mg mb : Str → Option Value} {env : Env} {p : Program} {loose : List Str} {x : Str} {pos : Pos} {v : Value} {Q : Value → Shared → Prop}
    (F : Fr h₀ L s.heap m) (X : K.In h₀) (T : TopRead p loose mg mb h₀) (e : nsIn K mainGlobals x = some (some v)) (h : Q v s) (hk : env.scope.kind = .function) (hx : env.kindOf x = some .globalImplicit) (hd : (x == ("__debug__" : Str)) = false) (hg : env.globals = mainGlobals) :
    wpAny M A (eval (.Name x pos) env) Q E s := Calls.Name_function_global hk hx (Calls.loadGlobal_global (env := env) (show s.heap.Ns env.globals mg from hg ▸ (T.keeps F.keep).g) (mg_of X T.g e) h) hd
theorem x_stN {M : Model} {A : Around} {E : Value → Shared → Prop} {s : Shared} {h₀ : Heap} {L : Addr} {m : Str → Option Value} {news : List (Addr × Obj)} {env : Env} {x : Str} {v : Value} {Q : Unit → Shared → Prop} (F : Fr h₀ L s.heap m) (N : News h₀ L s.heap news) (hL : env.locals = L)
    (h : ∀ h', Fr h₀ L h' (fun y => if y = x then some v else m y) → News h₀ L h' news → Q () { s with heap := h', toks := s.toks + 1 }) (hl : env.kindOf x = some .local)
    (hp : (env.scope.kind == .class || (env.scope.kind == .module && env.locals != env.globals)) = false) : wpAny M A (storeName env x v) Q E s := by
  subst hL
  exact wpAny_storeName_local hl F.ns (fun h' hn hs => h h' (F.set hn hs) (N.set hs)) hp
section
variable {M : Model} {A : Around} {E : Value → Shared → Prop} {s' : Shared} {base g g₂ h : Heap} {outer : List Env} {L a e t D : Addr} {m : Str → Option Value} {env : Env} {Q : Unit → Shared → Prop} {news : List (Addr × Obj)}
theorem fl_leave_new (K : Below A base outer g) (F : Fr g L s'.heap m) (N : News g L s'.heap ((e, excD 54 t D) :: news)) (hne : ∀ p ∈ news, p.1 ≠ e)
    (hQ : ∀ h', Flies base g outer e D news h' → g.UpToSlots h' → Q () { s' with heap := h' }) (hf : env.frame = some L := by rfl) (hk : env.scope.kind = .function := by rfl) :
    wpAny M (A.deeper env) (leaving env (.ref e)) Q E s' := by
  have K' := PySem.W.pushX K F hf hk
  have He := N _ (.head _)
  have heb : base.get? e = none := fresh_of_stays K.stays He.2.2
  have hin : ∀ env' ∈ (env :: outer), ∀ b, env'.frame = some b → b ∈ e :: (env :: outer).filterMap (·.frame) := fun env' he b hb => .tail _ (List.mem_filterMap.mpr ⟨env', he, hb⟩)
  have st : base.StaysIn (hideAll s'.heap (e :: (env :: outer).filterMap (·.frame))) := fun b o q => hideAll_get _ (K'.stays b o q) fun hm => by
    rcases List.mem_cons.mp hm with rfl | hm
    · rw [heb] at q; cases q
    · rw [(K'.frames.mem hm).1] at q; cases q
  have sg : ∀ b o, g.get? b = some o → b ∉ outer.filterMap (·.frame) → (hideAll s'.heap (e :: (env :: outer).filterMap (·.frame))).get? b = some o := fun b o q nm => hideAll_get _ (F.keep b o q) fun hm => by
    rcases List.mem_cons.mp hm with rfl | hm
    · have := He.2.2; rw [q] at this; cases this
    rcases kx_mem hf hm with z | z
    · rw [z, kts_self F] at q
      cases q
    · exact nm z
  have hl : ∀ q ∈ news, (hideAll s'.heap (e :: (env :: outer).filterMap (·.frame))).get? q.1 = some q.2 ∧ g.get? q.1 = none := fun q hq => by
    have Nq := N q (.tail _ hq)
    refine ⟨hideAll_get _ Nq.1 fun hm => ?_, Nq.2.2⟩
    rcases List.mem_cons.mp hm with z | hm
    · exact hne q hq z
    obtain ⟨env', he, hf'⟩ := List.mem_filterMap.mp hm
    rcases List.mem_cons.mp he with rfl | he
    · exact Nq.2.1 (Option.some.inj (hf.symm.trans hf')).symm
    · obtain ⟨o, ho, _⟩ := (K.frames.mem (List.mem_filterMap.mpr ⟨env', he, hf'⟩)).2
      rw [Nq.2.2] at ho; cases ho
  have hen : (hideAll s'.heap (e :: (env :: outer).filterMap (·.frame))).get? e = none := hideAll_none _ (.head _)
  unfold leaving
  refine wpAny_bind (f_note_first K'.stack (funFrames_hide K'.frames hin) hf He.1 (fun b o hb => of_hideAll _ hb) hen rfl rfl fun h₁ ⟨x1, x2, x3, x4⟩ => ?_)
  refine f_flight x1 x2 x3 fun h₂ ⟨y1, ⟨_, _, y2⟩, y3, y4⟩ => ?_
  exact hQ h₂ ⟨_, st, sg, hl, y1, hen, He.2.2, y2, none, y3⟩ ((Heap.UpToSlots.of_keeps F.keep).trans (x4.trans y4))
theorem fl_leave_on (K : Below A base outer g) (F : Fr g L g₂ m) (R : Flies base g₂ (env :: outer) e D news s'.heap) (hsm : g₂.UpToSlots s'.heap)
    (hQ : ∀ h', Flies base g outer e D news h' → g.UpToSlots h' → Q () { s' with heap := h' }) (hf : env.frame = some L := by rfl) :
    wpAny M (A.deeper env) (leaving env (.ref e)) Q E s' := by
  refine let_goal fun PP back => ?_
  obtain ⟨B, b1, bg, b2, b3, b4, bn, b5, bx, b6⟩ := R
  refine back ?_
  clear back
  unfold leaving
  refine wpAny_bind (f_note_any (Around.frames_deeper K.stack) b5 hf b6 b3 b4 fun h₁ ⟨x1, x2, x3, x4⟩ => ?_)
  refine f_flight x1 x2 x3 fun h₂ ⟨y1, ⟨_, _, y2⟩, y3, y4⟩ => ?_
  exact hQ h₂ ⟨B, b1, fun b o q nm => bg b o (F.keep b o q) (fun hm => by
      rcases kx_mem hf hm with z | z
      · rw [z, kts_self F] at q
        cases q
      · exact nm z), fun q hq => ⟨(b2 q hq).1, kts_none F.keep (b2 q hq).2⟩, y1, b4, kts_none F.keep bn, y2, none, y3⟩ ((Heap.UpToSlots.of_keeps F.keep).trans (hsm.trans (x4.trans y4)))
end
abbrev excG (D : Addr) (vs : Array Value) (sl : Array (Option Value)) : Obj := { cls := .ref 54, dict := some D, data := .fields vs, slots := sl }
section
variable {w : World} {A₀ : Around} {E : Value → Shared → Prop} {s' : Shared} {base g g₀ G h : Heap} {outer : List Env} {L a e D : Addr} {m : Str → Option Value} {env : Env}
  {n : Str} {b₀ : Stmt} {suite : List Stmt} {pos np : Pos} {rest : List ExceptHandler} {Q : Flow → Shared → Prop} {news : List (Addr × Obj)}
  {p : Program} {loose : List Str} {mean : ExcName → Option Value} {mg mb : Str → Option Value} {x : Str}
theorem fl_first {B h : Heap} (t : TrD h B e (.ref 54) (some D) .none) : ∃ vs sl, h.get? e = some (excG D vs sl) := by
  obtain ⟨oe, vs, T, oT, ts, he', h1, h2, h3, _⟩ := t
  obtain ⟨c, d, dt, sl⟩ := oe
  dsimp only at h1 h2 h3
  subst h1 h2 h3
  exact ⟨vs, sl, he'⟩
theorem fl_land {B g₆ h : Heap} (F : Fr g₆ L h m) (hl : ∀ q ∈ news, B.get? q.1 = some q.2 ∧ g₆.get? q.1 = none) (b3 : B.StaysIn h) (hen : g₆.get? e = none)
    (hLe : B.get? L = none) (t : TrD h B e (.ref 54) (some D) .none) : ∃ vs sl, News g₆ L h ((e, excG D vs sl) :: news) := by
  obtain ⟨vs, sl, he⟩ := fl_first t
  refine ⟨vs, sl, News.more F (fun q hq => ⟨b3 _ _ (hl q hq).1, fun z => ?_, (hl q hq).2⟩) he (fun es n q => by cases q) hen⟩
  have := (hl q hq).1; rw [z, hLe] at this; cases this
theorem fl_caught0 (K : Below A₀ base outer g) (F : Fr g L G m) (hsm : G.UpToSlots s'.heap) (R : Flies base G (env :: outer) e D news s'.heap)
    (XB : (hd.heap_1 w.params).In base) (TB : Top p loose mean mg mb base) (ex : nsIn (hd.heap_1 w.params) mainGlobals x = some (some (.ref 54)))
    (T0 : KtsTurn (outer.filterMap (·.frame)) g₀ g)
    (k : ∀ h' g' vs sl, KtsTurn (outer.filterMap (·.frame)) g₀ g' → Fr g' L h' m → News g' L h' ((e, excG D vs sl) :: news) → Below A₀ base outer g' → (hd.heap_1 w.params).In g' → Top p loose mean mg mb g' →
      wpAny (model Challenge.pw_nz0115_01 w) ((A₀.deeper env).mark (some (.ref e))) (execs (b₀ :: suite) env) Q (fun _ _ => False) { s' with heap := h' })
    (hf : env.frame = some L := by rfl) (hk : env.scope.kind = .function := by rfl) (hx : env.kindOf x = some .globalImplicit := by rfl) (hd : (x == ("__debug__" : Str)) = false := by decide) (hg : env.globals = mainGlobals := by rfl) :
    wpAny (model Challenge.pw_nz0115_01 w) (A₀.deeper env) (noteFrame (.ref e) env)
      (fun _ s₂ => wpAny (model Challenge.pw_nz0115_01 w) (A₀.deeper env) (setFlight (.ref e) none) (fun _ s₃ =>
        wpAny (model Challenge.pw_nz0115_01 w) (A₀.deeper env) (handleBy (.ref e) env (.ExceptHandler (some (.Name x np)) none (b₀ :: suite) pos :: rest)) Q E s₃) E s₂) E s' := by
  refine let_goal fun PP back => ?_
  obtain ⟨B, b1, bg, b2, b3, b4, bn, b5, bx, b6⟩ := R
  refine back ?_
  clear back
  have hL : B.get? L = none := by
    obtain ⟨_, ⟨L', _, hf', hn', _⟩, _⟩ := b5
    obtain rfl : L = L' := Option.some.inj (hf.symm.trans hf')
    exact hn'
  refine f_note_any (Around.frames_deeper K.stack) b5 hf b6 b3 b4 fun h₁ ⟨x1, x2, x3, x4⟩ => ?_
  refine f_flight x1 x2 x3 fun h₂ ⟨y1, y2, y3, y4⟩ => ?_
  obtain ⟨g₅, T₅, F₅, K₅⟩ := kx_ground hf K F bg y1 (hsm.trans (x4.trans y4))
  have X₅ : (Mine.hd.heap_1 w.params).In g₅ := XB.keeps K₅.stays
  have P₅ : TopRead p loose mg mb g₅ := topRead_of (TB.keeps K₅.stays)
  obtain ⟨vs, sl, he⟩ := fl_first y3
  refine wpAny_handleBy_cons (codeAny_handlers_test (x_name F₅ X₅ P₅ ex ?_ hk hx hd hg)) (by intro q; cases q)
  have hC := (X₅.keeps F₅.keep) 54 _ (by k_is)
  refine wpAny_excMatches_sub_self (bm := [.ref 41, .type "Exception", .type "BaseException", .type "object"]) hC he rfl (by rfl) (codeAny_handlers_suite ?_)
  refine f_flight y1 y2 y3 fun h₃ ⟨z1, z2, z3, z4⟩ => ?_
  obtain ⟨g₆, T₆, F₆, K₆⟩ := kx_ground hf K F bg z1 ((hsm.trans (x4.trans y4)).trans z4)
  have ng : ∀ {b}, G.get? b = none → g₆.get? b = none := fun q => T₆.none_ _ (kts_none F.keep q)
  obtain ⟨vs', sl', N₆⟩ := fl_land F₆ (fun q hq => ⟨(b2 q hq).1, ng (b2 q hq).2⟩) z1 (ng bn) hL z3
  exact wpAny_mono (k h₃ g₆ vs' sl' (T0.trans T₆) F₆ N₆ K₆ (XB.keeps K₆.stays) (TB.keeps K₆.stays)) (fun _ _ q => q) fun _ _ q => q.elim
theorem fl_caughtB (K : Below A₀ base outer g) (F : Fr g L G m) (hsm : G.UpToSlots s'.heap) (R : Flies base G (env :: outer) e D news s'.heap)
    (XB : (hd.heap_1 w.params).In base) (TB : Top p loose mean mg mb base) (ex : nsIn (hd.heap_1 w.params) mainGlobals x = some (some (.ref 54)))
    (T0 : KtsTurn (outer.filterMap (·.frame)) g₀ g)
    (k : ∀ h' g' vs sl tk, KtsTurn (outer.filterMap (·.frame)) g₀ g' → Fr g' L h' (fun y => if y = n then some (.ref e) else m y) → News g' L h' ((e, excG D vs sl) :: news) → Below A₀ base outer g' → (hd.heap_1 w.params).In g' → Top p loose mean mg mb g' →
      wpAny (model Challenge.pw_nz0115_01 w) ((A₀.deeper env).mark (some (.ref e))) (execs (b₀ :: suite) env)
        (fun f s₄ => wpAny (model Challenge.pw_nz0115_01 w) (A₀.deeper env) (do bindName env n .none; unbindBehindTheSuite env n pos) (fun _ s₅ => Q f s₅) E s₄)
        (fun _ _ => False) { s' with heap := h', toks := tk })
    (hf : env.frame = some L := by rfl) (hk : env.scope.kind = .function := by rfl) (hlo : env.kindOf n = some .local := by rfl) (hLe : env.locals = L := by rfl) (hp : (env.scope.kind == .class || (env.scope.kind == .module && env.locals != env.globals)) = false := by rfl) (hx : env.kindOf x = some .globalImplicit := by rfl) (hd : (x == ("__debug__" : Str)) = false := by decide) (hg : env.globals = mainGlobals := by rfl) :
    wpAny (model Challenge.pw_nz0115_01 w) (A₀.deeper env) (noteFrame (.ref e) env)
      (fun _ s₂ => wpAny (model Challenge.pw_nz0115_01 w) (A₀.deeper env) (setFlight (.ref e) none) (fun _ s₃ =>
        wpAny (model Challenge.pw_nz0115_01 w) (A₀.deeper env) (handleBy (.ref e) env (.ExceptHandler (some (.Name x np)) (some n) (b₀ :: suite) pos :: rest)) Q E s₃) E s₂) E s' := by
  refine let_goal fun PP back => ?_
  obtain ⟨B, b1, bg, b2, b3, b4, bn, b5, bx, b6⟩ := R
  refine back ?_
  clear back
  have hL : B.get? L = none := by
    obtain ⟨_, ⟨L', _, hf', hn', _⟩, _⟩ := b5
    obtain rfl : L = L' := Option.some.inj (hf.symm.trans hf')
    exact hn'
  refine f_note_any (Around.frames_deeper K.stack) b5 hf b6 b3 b4 fun h₁ ⟨x1, x2, x3, x4⟩ => ?_
  refine f_flight x1 x2 x3 fun h₂ ⟨y1, y2, y3, y4⟩ => ?_
  obtain ⟨g₅, T₅, F₅, K₅⟩ := kx_ground hf K F bg y1 (hsm.trans (x4.trans y4))
  have X₅ : (Mine.hd.heap_1 w.params).In g₅ := XB.keeps K₅.stays
  have P₅ : TopRead p loose mg mb g₅ := topRead_of (TB.keeps K₅.stays)
  obtain ⟨vs, sl, he⟩ := fl_first y3
  refine wpAny_handleBy_cons (codeAny_handlers_test (x_name F₅ X₅ P₅ ex ?_ hk hx hd hg)) (by intro q; cases q)
  have hC := (X₅.keeps F₅.keep) 54 _ (by k_is)
  refine wpAny_excMatches_sub_self (bm := [.ref 41, .type "Exception", .type "BaseException", .type "object"]) hC he rfl (by rfl) (codeAny_handlers_suite_as ?_)
  refine f_flight y1 y2 y3 fun h₃ ⟨z1, z2, z3, z4⟩ => ?_
  obtain ⟨g₆, T₆, F₆, K₆⟩ := kx_ground hf K F bg z1 ((hsm.trans (x4.trans y4)).trans z4)
  have ng : ∀ {b}, G.get? b = none → g₆.get? b = none := fun q => T₆.none_ _ (kts_none F.keep q)
  obtain ⟨vs', sl', N₆⟩ := fl_land F₆ (fun q hq => ⟨(b2 q hq).1, ng (b2 q hq).2⟩) z1 (ng bn) hL z3
  refine x_stN F₆ N₆ hLe (fun h₇ F₇ N₇ => ?_) hlo hp
  exact wpAny_mono (k h₇ g₆ vs' sl' _ (T0.trans T₆) F₇ N₇ K₆ (XB.keeps K₆.stays) (TB.keeps K₆.stays)) (fun _ _ q => q) fun _ _ q => q.elim
end
abbrev lcL (ys : List Value) : Obj := LCg.lst ys
section
variable {prog : Program} {w : World} {A : Around} {E : Value → Shared → Prop} {s : Shared} {h₀ : Heap} {L : Addr} {m : Str → Option Value} {env : Env}
/-- the rules of a block whose element may raise: J is what holds behind i turns, of the values taken and of the ledger -/
structure LcRun (prog : Program) (w : World) (A : Around) (h₀ : Heap) (L : Addr) (m : Str → Option Value) (env : Env) (elt : Expr) (x : Str) (scope : Scope) (cl : List (Str × Addr)) (s₂ : Shared) (I : Addr) (fp : List Addr) (n : Nat)
    (P : Nat → Value → Prop) (St : Nat → Heap → Prop) (S : List (Addr × Obj) → Prop) (J : Nat → List Value → List (Addr × Obj) → Prop) (news : List (Addr × Obj)) (Er : Addr → Value → Shared → Prop) : Prop where
  W : Walks prog w A I fp [I] n P St
  hsz : n ≤ sizeLine
  hI : ∀ i h, St i h → ∃ o, h.get? I = some o
  hSt : ∀ i h h' o nw, St i h → h.get? I = some o → h'.get? I = some o → (∀ b o, h₀.get? b = some o → h'.get? b = some o) → News h₀ L h' nw → S nw → St i h'
  st : St 0 s₂.heap
  hfp : ∀ b ∈ fp, b < s₂.heap.objs.size
  F : Fr h₀ L s₂.heap m
  N : News h₀ L s₂.heap news
  hIL : L ≠ I
  hI₀ : h₀.get? I = none
  off : ∀ p ∈ news, p.1 ≠ I
  hS : S news
  start : J 0 [] news
  turn : ∀ i v ys nw oI C oC D m₂ h tk, i < n → P i v → LCg.NsObj oC m₂ → m₂ x = some v → Fr h₀ L h m → News h₀ L h ((I, oI) :: (C, oC) :: (D, lcL ys) :: nw) → LCg.Off3 I C D nw → ((@Ne Nat I C) ∧ (@Ne Nat I D) ∧ (@Ne Nat C D)) → ys.length = i → J i ys nw →
    wpAny (model prog w) A (eval elt (compEnvC scope cl C env)) (LCg.CompEnd h₀ L m { s₂ with heap := h, toks := tk } I oI C oC D (lcL ys) S (fun y nw' => J (i + 1) (ys ++ [y]) nw'))
      (notedBy (model prog w) A (compEnvC scope cl C env) (Er C)) { s₂ with heap := h, toks := tk }

theorem lc_block {elt iter : Expr} {x : Str} {px : Pos} {scope : Scope} {cl : List (Str × Addr)} {pos : Pos} {s₂ : Shared} {I : Addr} {fp : List Addr} {n : Nat} {P : Nat → Value → Prop} {St : Nat → Heap → Prop} {S : List (Addr × Obj) → Prop} {news : List (Addr × Obj)}
    {J : Nat → List Value → List (Addr × Obj) → Prop} {Er : Addr → Value → Shared → Prop} {RR : Value → Addr → Result → Shared → Prop}
    (R : LcRun prog w A h₀ L m env elt x scope cl s₂ I fp n P St S J news Er)
    (hcell : ∀ y ∈ scope.names, y.2 ≠ .cell) (hkind : scope.kind = .function) (hx : scope.names.lookup x = some .local)
    (hEr : ∀ D C e s', Er C e s' → RR (.ref D) C (.error e) s')
    (hRR : ∀ D C h tk m' ys nw, Fr h₀ L h m → News h₀ L h ((D, lcL ys) :: nw) → LCg.Off1 D nw → h.Ns C m' → h₀.get? C = none → h₀.get? D = none → C ≠ L → D ≠ L → C ≠ D → (∀ p ∈ nw, p.1 ≠ C) → ys.length = n → J n ys nw → RR (.ref D) C (.ok .next) { s₂ with heap := h, toks := tk }) :
    wpAny (model prog w) A (newList []) (fun acc s₃ => wpAny (model prog w) A (newFunctionEnv scope env.globals cl [] env.qual none .none (some env)) (fun cenv s₄ =>
      codeAny (model prog w) A (.compStart (.ListComp elt [⟨.Name x px, iter, [], 0⟩] scope pos) 0 (.ref I) acc { cenv with scope := relabel scope env }) (RR acc cenv.locals) s₄) E s₃) E s₂ := by
  obtain ⟨W, hsz, hIo, hSt, st, hfp, F, N, hIL, hI₀, off, hS, start, turn⟩ := R
  refine wpAny_newObj_type (wpAny_newFunctionEnv hcell (by intro y hy; simp at hy) (fun h₁ ns₁ sb₁ => ?_) hkind)
  dsimp only at ns₁ sb₁ ⊢
  generalize eD : s₂.heap.objs.size = D at *
  generalize eH : s₂.heap.push { cls := .type "list", dict := none, data := .seq ([] : List Value).toArray } = H at ns₁ sb₁ ⊢
  generalize eC : H.objs.size = C at *
  have CD : C = D + 1 := by rw [← eC, ← eH, Heap.size_push, eD]
  have lowC : ∀ b : Nat, b < D → b ≠ C := fun b hb => by rw [CD]; omega
  have lowD : ∀ b : Nat, b < D → b ≠ D := fun b hb => Nat.ne_of_lt hb
  have nDC : D ≠ C := by rw [CD]; exact Nat.ne_of_lt (Nat.lt_succ_self D)
  have old : ∀ b o, s₂.heap.get? b = some o → h₁.get? b = some o := fun b o e => sb₁.extBut b o (lowC b (eD ▸ Heap.lt_size e)) (Heap.get?_push_of_some _ (eH ▸ Heap.get?_push_of_some _ e))
  have isD : h₁.get? D = some (lcL []) := sb₁.extBut _ _ nDC (Heap.get?_push_of_some _ (by rw [← eH, ← eD]; exact Heap.get?_push_size _ rfl))
  have new₀ : ∀ b, D ≤ b → h₀.get? b = none := fun b hb => by
    cases e : h₀.get? b with
    | none => rfl
    | some o => exact absurd (eD ▸ Heap.lt_size (F.keep b o e)) (Nat.not_lt.mpr hb)
  have D₀ := new₀ D (Nat.le_refl D)
  have C₀ := new₀ C (by rw [CD]; exact Nat.le_succ D)
  have ltL : L < D := eD ▸ F.ns.lt
  have ltI : I < D := hfp I (W.sub I (.head _))
  have ltN : ∀ p ∈ news, p.1 < D := fun p hp => eD ▸ Heap.lt_size (N p hp).1
  have nDL : D ≠ L := Ne.symm (lowD L ltL)
  have nCL : C ≠ L := Ne.symm (lowC L ltL)
  have nIC := lowC I ltI
  have nID := lowD I ltI
  have fpC : ∀ b ∈ fp, b ≠ C := fun b hb => lowC b (hfp b hb)
  have fpD : ∀ b ∈ fp, b ≠ D := fun b hb => lowD b (hfp b hb)
  have off₀ : LCg.Off3 I C D news := LCg.Off3.of fun p hp => ⟨off p hp, lowC _ (ltN p hp), lowD _ (ltN p hp)⟩
  have st₁ : St 0 h₁ := W.frame _ _ _ st fun b _ o e => old b o e
  have N₁ : News h₀ L h₁ ((D, lcL []) :: news) := fun p hp => by
    rcases List.mem_cons.mp hp with rfl | hp
    · exact ⟨isD, nDL, D₀⟩
    · exact ⟨old _ _ (N p hp).1, (N p hp).2⟩
  have loop : codeAny (model prog w) A (.compLoop (.ListComp elt [⟨.Name x px, iter, [], 0⟩] scope pos) 0 (.ref I) (.ref D) (compEnvC scope cl C env)) (RR (.ref D) C) { s₂ with heap := h₁, toks := s₂.toks + ([] : List (Str × Value)).length } := by
    refine codeAny_compLoop_tests (fun k s' => ∃ i h tk ys m' nw, s' = { s₂ with heap := h, toks := tk } ∧ i + k = n + 1 ∧ i ≤ n ∧ ys.length = i ∧ St i h ∧ Fr h₀ L h m ∧ h.Ns C m' ∧ News h₀ L h ((D, lcL ys) :: nw) ∧ LCg.Off3 I C D nw ∧ S nw ∧ J i ys nw) ?_ (n + 1)
      ⟨0, h₁, _, [], _, news, rfl, Nat.zero_add _, Nat.zero_le _, rfl, st₁, F.keeps old, ns₁, N₁, off₀, hS, start⟩
    intro k s' hh
    refine let_goal fun PP back => ?_
    obtain ⟨i, h, tk, ys, m', nw, hs', ik, hi, yl, sti, Fi, ni, Ni, offi, Si, Ji⟩ := hh
    refine back ?_
    clear back
    subst hs'
    have o3 := offi.mem
    have offD : ∀ p ∈ (D, lcL ys) :: nw, p.1 ≠ I := fun p hp => by
      rcases List.mem_cons.mp hp with rfl | hp
      · exact Ne.symm nID
      · exact (o3 p hp).1
    rcases Nat.lt_or_ge i n with lt | ge
    · refine W.item i _ _ _ lt sti fun v h₂ tk₂ Pv st₂ k₂ => ?_
      refine wpAny_assign_Name (wpAny_storeName_local (lookup_relabel_local hx) (ni.at' fun o e => k₂ _ o (by simpa using Ne.symm nIC) e) (fun h₃ n₃ s₃ => ?_) (by simp [compEnvC, relabel, hkind]))
      refine wpAny_tests_nil ?_
      simp only [if_true]
      have st₃ : St (i + 1) h₃ := W.frame _ _ _ st₂ fun b hb o e => s₃.extBut b o (fpC b hb) e
      obtain ⟨oI, eI⟩ := hIo _ _ st₃
      obtain ⟨oC, eOC, isC⟩ := LCg.ns_obj n₃
      have F₃ : Fr h₀ L h₃ m := (LCg.fr_but Fi k₂ hIL hI₀).change s₃ nCL C₀
      have N₂ := LCg.news_but Ni k₂ offD
      have N₃ : News h₀ L h₃ ((I, oI) :: (C, oC) :: (D, lcL ys) :: nw) := fun p hp => by
        rcases List.mem_cons.mp hp with rfl | hp
        · exact ⟨eI, Ne.symm hIL, hI₀⟩
        rcases List.mem_cons.mp hp with rfl | hp
        · exact ⟨eOC, nCL, C₀⟩
        refine ⟨s₃.extBut _ _ ?_ (N₂ p hp).1, (N₂ p hp).2⟩
        rcases List.mem_cons.mp hp with rfl | hp
        · exact nDC
        · exact (o3 p hp).2.1
      refine wpAny_mono (turn i v ys nw oI C oC D _ h₃ _ lt Pv isC (by simp) F₃ N₃ offi ⟨nIC, nID, Ne.symm nDC⟩ yl Ji) (fun y s₄ h₄ => ?_) fun e s₄ h₄ => ?_
      · refine let_goal fun PP back => ?_
        obtain ⟨h₄, tk₄, nw₄, hs4, F₄, N₄, off₄, S₄, J₄⟩ := h₄
        refine back ?_
        clear back
        subst hs4
        have zC := (N₄ (C, oC) (.tail _ (.head _))).1
        have zD := (N₄ (D, lcL ys) (.tail _ (.tail _ (.head _)))).1
        have N₄' : News h₀ L h₄ nw₄ := fun p hp => N₄ p (.tail _ (.tail _ (.tail _ hp)))
        have st₄ : St (i + 1) h₄ := hSt _ _ _ _ _ st₃ eI (N₄ (I, oI) (.head _)).1 F₄.keep N₄' S₄
        refine append_at (hsz := by show ys.toArray.size ≤ sizeLine; rw [List.size_toArray, yl]; exact Nat.le_trans hi hsz) zD fun h₅ s₅ e₅ => ?_
        refine ⟨n - i, by omega, i + 1, h₅, tk₄, ys ++ [y], _, nw₄, rfl, by omega, lt, by rw [List.length_append, List.length_singleton, yl], W.frame _ _ _ st₄ fun b hb o e => s₅.extBut b o (fpD b hb) e, F₄.change s₅ nDL D₀,
          (isC.ns zC).sameBut s₅ (Ne.symm nDC), fun p hp => ?_, off₄, S₄, J₄⟩
        rcases List.mem_cons.mp hp with rfl | hp
        · exact ⟨e₅.trans (congrArg some (LCg.lst_snoc ys y)), nDL, D₀⟩
        · exact ⟨s₅.extBut _ _ (off₄.mem p hp).2.2 (N₄' p hp).1, (N₄' p hp).2⟩
      · exact wpAny_mono h₄ (fun _ s₅ z => hEr D C e s₅ z) fun e' s₅ z => hEr D C e' s₅ z
    · obtain rfl : i = n := Nat.le_antisymm hi ge
      refine W.done _ _ _ sti fun h₂ tk₂ k₂ => ?_
      exact hRR D C h₂ tk₂ _ ys nw (LCg.fr_but Fi k₂ hIL hI₀) (LCg.news_but Ni k₂ offD) offi.one (ni.at' fun o e => k₂ _ o (by simpa using Ne.symm nIC) e) C₀ D₀ nCL nDL (Ne.symm nDC) (fun p hp => (o3 p hp).2.1) yl Ji
  exact codeAny_compStart_list loop (W.self 0 _ _ _ st₁ loop)
end
section
variable {prog : Program} {w : World} {A : Around} {E : Value → Shared → Prop} {s : Shared} {h₀ : Heap} {L : Addr} {m : Str → Option Value} {env : Env}
def ErW (prog : Program) (w : World) (A : Around) (E : Value → Shared → Prop) (C : Addr) (e : Value) (s' : Shared) : Prop :=
  ∃ mc, s'.heap.Ns C mc ∧ ∀ h', Heap.SameBut C s'.heap h' → ∀ cenv : Env, cenv.locals = C → wpAny (model prog w) A (PySem.passOn "comprehension.variables-let-go" e cenv : Sem Value) (fun _ _ => False) E { s' with heap := h' }
def LcFin (h₀ : Heap) (L : Addr) (m : Str → Option Value) (s₂ : Shared) (n : Nat) (J : Nat → List Value → List (Addr × Obj) → Prop) (Q : Value → Shared → Prop) : Prop :=
  ∀ D h tk ys nw, Fr h₀ L h m → News h₀ L h ((D, lcL ys) :: nw) → LCg.Off1 D nw → ys.length = n → J n ys nw → Q (.ref D) { s₂ with heap := h, toks := tk }
def LcAt (prog : Program) (w : World) (A : Around) (h₀ : Heap) (L : Addr) (m : Str → Option Value) (env : Env) (elt : Expr) (x : Str) (scope : Scope) (cl : List (Str × Addr)) (Q E : Value → Shared → Prop) (it : Value) (s₂ : Shared) : Prop :=
  ∃ I fp n P St S J news, it = .ref I ∧ LcRun prog w A h₀ L m env elt x scope cl s₂ I fp n P St S J news (ErW prog w A E) ∧ LcFin h₀ L m s₂ n J Q
def LcSrc (prog : Program) (w : World) (A : Around) (h₀ : Heap) (L : Addr) (m : Str → Option Value) (env : Env) (elt : Expr) (x : Str) (scope : Scope) (cl : List (Str × Addr)) (Q E : Value → Shared → Prop) (xv : Value) (s₁ : Shared) : Prop :=
  wpAny (model prog w) A (pyIter xv) (LcAt prog w A h₀ L m env elt x scope cl Q E) E s₁
def LcTurn (prog : Program) (w : World) (A : Around) (h₀ : Heap) (L : Addr) (m : Str → Option Value) (env : Env) (elt : Expr) (x : Str) (scope : Scope) (cl : List (Str × Addr)) (s₂ : Shared) (E : Value → Shared → Prop)
    (S : List (Addr × Obj) → Prop) (J : Nat → List Value → List (Addr × Obj) → Prop) (i : Nat) (v : Value) : Prop :=
  ∀ ys nw I oI C oC D m₂ h tk, LCg.NsObj oC m₂ → m₂ x = some v → Fr h₀ L h m → News h₀ L h ((I, oI) :: (C, oC) :: (D, lcL ys) :: nw) → LCg.Off3 I C D nw → ((@Ne Nat I C) ∧ (@Ne Nat I D) ∧ (@Ne Nat C D)) → ys.length = i → J i ys nw →
    wpAny (model prog w) A (eval elt (compEnvC scope cl C env)) (LCg.CompEnd h₀ L m { s₂ with heap := h, toks := tk } I oI C oC D (lcL ys) S (fun y nw' => J (i + 1) (ys ++ [y]) nw'))
      (notedBy (model prog w) A (compEnvC scope cl C env) (ErW prog w A E C)) { s₂ with heap := h, toks := tk }

theorem lc_gen {elt iter : Expr} {x : Str} {px : Pos} {scope : Scope} {cl : List (Str × Addr)} {pos : Pos} {Q : Value → Shared → Prop} (F₀ : Fr h₀ L s.heap m)
    (hclos : closureFor scope env = pure cl) (hcell : ∀ y ∈ scope.names, y.2 ≠ .cell) (hkind : scope.kind = .function)
    (hnames : ∀ y ∈ scope.names, y.2 = .local → scope.names.lookup y.1 = some .local) (hx : scope.names.lookup x = some .local)
    (h : wpAny (model prog w) A (eval iter env) (LcSrc prog w A h₀ L m env elt x scope cl Q E) E s)
    (hs : ∀ x, foldedSetIterable iter env x = pure x := by intro _; rfl) :
    wpAny (model prog w) A (eval (.ListComp elt [⟨.Name x px, iter, [], 0⟩] scope pos) env) Q E s := by
  rw [eval_ListComp]
  refine wpAny_comprehension_free (use := none) rfl hs hclos hkind hnames (wpAny_mono h (fun xv s₁ h₁ => wpAny_mono h₁ (fun it s₂ h₂ => ?_) fun _ _ e => e) fun _ _ e => e)
  obtain ⟨I, fp, n, P, St, S, J, news, rfl, R, fin⟩ := h₂
  refine lc_block R hcell hkind hx ?_ ?_
  · intro D C e s' he
    exact he
  · intro D C h tk m' ys nw F' N' o1 hn C₀ D₀ nCL nDL nCD offC yl Jn
    refine ⟨m', hn, fun h'' hs'' => fin D h'' tk ys nw (F'.change hs'' nCL C₀) (fun p hp => ?_) o1 yl Jn⟩
    refine ⟨hs''.extBut _ _ ?_ (N' p hp).1, (N' p hp).2⟩
    rcases List.mem_cons.mp hp with rfl | hp
    · exact Ne.symm nCD
    · exact offC p hp

section
variable {elt : Expr} {x : Str} {scope : Scope} {cl : List (Str × Addr)} {Q : Value → Shared → Prop} {news : List (Addr × Obj)}
theorem lcs_bytes {bb : Array UInt8} {tb : Tok} (J : Nat → List Value → List (Addr × Obj) → Prop) (hh : A.handled = none) (F : Fr h₀ L s.heap m) (N : News h₀ L s.heap news) (hz : bb.size ≤ 1000) (start : J 0 [] news)
    (turn : ∀ i k t, (KBw.bInts bb)[i]? = some k → 0 ≤ k → k < 256 → LcTurn prog w A h₀ L m env elt x scope cl s E (fun _ => True) J i (.int k t))
    (fin : LcFin h₀ L m s bb.size J Q) :
    LcSrc prog w A h₀ L m env elt x scope cl Q E (.bytes bb tb) s := by
  refine KBw.pyIter_bytes ?_
  refine ⟨_, _, _, _, _, fun _ => True, J, news, rfl, ⟨KBw.walks hh s.heap.objs.size bb tb, by rw [sizeLine_eq]; omega, fun i h st => ⟨_, st.choose_spec.1⟩, ?_, ⟨_, Heap.get?_push_size _ rfl, rfl, rfl⟩, fun q hq => ?_, F.push _, News.pushKeep N _, Nat.ne_of_lt F.ns.lt, next_is_new F, fun p hp => Nat.ne_of_lt (Heap.lt_size (N p hp).1), trivial, start, ?_⟩, fin⟩
  · rintro i h h' o nw ⟨o', q, r⟩ e e' _ _ _
    rw [e] at q; cases q
    exact ⟨o, e', r⟩
  · rw [List.mem_singleton.mp hq]
    show s.heap.objs.size < (s.heap.push _).objs.size
    rw [Heap.size_push]; exact Nat.lt_succ_self _
  · rintro i v ys nw oI C oC D m₂ h tk hi ⟨c, u, hc, rfl⟩ hoC hm F' N' off ne yl hJ
    have hk := KBw.ints_get hc
    have hr := KBw.ints_in (List.mem_of_getElem? hk)
    exact turn i _ u hk hr.1 hr.2 ys nw _ oI C oC D m₂ h tk hoC hm F' N' off ne yl hJ
theorem lcs_list {ax : Addr} {items : List Value} {le : Nat} (J : Nat → List Value → List (Addr × Obj) → Prop) (hh : A.handled = none) (F : Fr h₀ L s.heap m) (N : News h₀ L s.heap news) (hm : (ax, listOf items.toArray le) ∈ news) (hz : items.length ≤ 1000) (start : J 0 [] news)
    (turn : ∀ i v, items[i]? = some v → LcTurn prog w A h₀ L m env elt x scope cl s E (fun nw => (ax, listOf items.toArray le) ∈ nw) J i v)
    (fin : LcFin h₀ L m s items.length J Q) :
    LcSrc prog w A h₀ L m env elt x scope cl Q E (.ref ax) s := by
  have hl : s.heap.IsList ax items.toArray := PySem.IsL.isList (n := le) (N _ hm).1
  have hlt : ax < s.heap.objs.size := Heap.lt_size (N _ hm).1
  refine wpAny_pyIter_list hl ?_
  refine ⟨_, _, _, _, _, fun nw => (ax, listOf items.toArray le) ∈ nw, J, news, rfl, ⟨Walks.list hh s.heap.objs.size ax (Nat.ne_of_lt hlt) items.toArray, by rw [sizeLine_eq, List.size_toArray]; omega, fun i h st => ⟨_, st.1.choose_spec.1⟩, ?_, ⟨⟨_, Heap.get?_push_size _ rfl, rfl, rfl⟩, hl.push _⟩, fun q hq => ?_, F.push _, News.pushKeep N _, Nat.ne_of_lt F.ns.lt, next_is_new F, fun p hp => Nat.ne_of_lt (Heap.lt_size (N p hp).1), hm, start, ?_⟩, by rw [List.size_toArray]; exact fin⟩
  · rintro i h h' o nw ⟨⟨o', q, r⟩, _⟩ e e' _ N' hm'
    rw [e] at q; cases q
    exact ⟨⟨o, e', r⟩, PySem.IsL.isList (N' _ hm').1⟩
  · show q < (s.heap.push _).objs.size
    rw [Heap.size_push]
    rcases List.mem_cons.mp hq with rfl | hq
    · exact Nat.lt_succ_self _
    · rw [List.mem_singleton.mp hq]; exact Nat.lt_succ_of_lt hlt
  · rintro i v ys nw oI C oC D m₂ h tk hi hv hoC hm' F' N' off ne yl hJ
    exact turn i v (by simpa using hv) ys nw _ oI C oC D m₂ h tk hoC hm' F' N' off ne yl hJ
theorem lcs_range {r : Addr} {ra rb rc : Int} {t u v : Tok} {n : Nat} (J : Nat → List Value → List (Addr × Obj) → Prop) (hh : A.handled = none) (F : Fr h₀ L s.heap m) (N : News h₀ L s.heap news) (hr : IsRange s.heap r ra rb rc t u v) (hsm : Builtin.Range.small ra rb rc = true)
    (hn : Builtin.Range.rangeSize ra rb rc = ((n : Nat) : Int)) (hz : n ≤ 1000) (start : J 0 [] news)
    (turn : ∀ i t, i < n → LcTurn prog w A h₀ L m env elt x scope cl s E (fun _ => True) J i (.int (ra + i * rc) t))
    (fin : LcFin h₀ L m s n J Q) :
    LcSrc prog w A h₀ L m env elt x scope cl Q E (.ref r) s := by
  refine wpAny_pyIter_range hr hsm ?_
  refine ⟨_, _, _, _, _, fun _ => True, J, news, rfl, ⟨Walks.range hh s.heap.objs.size ra rc n, by rw [sizeLine_eq]; omega, fun i h st => ⟨_, st⟩, ?_, by show IsRangeIter _ _ _ _ _; rw [hn]; simpa using Heap.get?_push_size _ rfl, fun q hq => ?_, F.push _, News.pushKeep N _, Nat.ne_of_lt F.ns.lt, next_is_new F, fun p hp => Nat.ne_of_lt (Heap.lt_size (N p hp).1), trivial, start, ?_⟩, fin⟩
  · intro i h h' o nw st e e' _ _ _
    have st' : h.get? _ = some _ := st
    show h'.get? _ = some _
    rw [e', ← e]; exact st'
  · rw [List.mem_singleton.mp hq]
    show s.heap.objs.size < (s.heap.push _).objs.size
    rw [Heap.size_push]; exact Nat.lt_succ_self _
  · rintro i v ys nw oI C oC D m₂ h tk hi ⟨t, rfl⟩ hoC hm' F' N' off ne yl hJ
    exact turn i t hi ys nw _ oI C oC D m₂ h tk hoC hm' F' N' off ne yl hJ
end
end
section
variable {prog : Program} {w : World} {A : Around} {E : Value → Shared → Prop} {s : Shared} {h₀ : Heap} {L : Addr} {m : Str → Option Value} {env : Env}
  {elt : Expr} {x : Str} {scope : Scope} {cl : List (Str × Addr)} {Q : Value → Shared → Prop} {news : List (Addr × Obj)}
theorem lcs_str {y : Str} {ty : Tok} (J : Nat → List Value → List (Addr × Obj) → Prop) (hh : A.handled = none) (F : Fr h₀ L s.heap m) (N : News h₀ L s.heap news) (hz : y.length ≤ 1000) (start : J 0 [] news)
    (turn : ∀ i c t, y.cps[i]? = some c → LcTurn prog w A h₀ L m env elt x scope cl s E (fun _ => True) J i (.str ⟨#[c]⟩ t))
    (fin : LcFin h₀ L m s y.cps.size J Q) :
    LcSrc prog w A h₀ L m env elt x scope cl Q E (.str y ty) s := by
  have run : ∀ (T : String) (o : Obj), (s.heap.push o).IsStrIter s.heap.objs.size T y ty 0 → Walks prog w A s.heap.objs.size [s.heap.objs.size] [s.heap.objs.size] y.cps.size (SignAt y) (fun i h => h.IsStrIter s.heap.objs.size T y ty i) →
      LcAt prog w A h₀ L m env elt x scope cl Q E (.ref s.heap.objs.size) { s with heap := s.heap.push o } := by
    intro T o st W
    refine ⟨_, _, _, _, _, fun _ => True, J, news, rfl, ⟨W, Nat.le_trans hz (by rw [sizeLine_eq]; decide), fun i h st => ⟨_, st.choose_spec.1⟩, ?_, st, fun q hq => ?_, F.push _, News.pushKeep N _, Nat.ne_of_lt F.ns.lt, next_is_new F, fun p hp => Nat.ne_of_lt (Heap.lt_size (N p hp).1), trivial, start, ?_⟩, fin⟩
    · rintro i h h' o nw ⟨o', q, r⟩ e e' _ _ _
      rw [e] at q; cases q
      exact ⟨o, e', r⟩
    · rw [List.mem_singleton.mp hq]
      show s.heap.objs.size < (s.heap.push _).objs.size
      rw [Heap.size_push]; exact Nat.lt_succ_self _
    · rintro i v ys nw oI C oC D m₂ h tk hi ⟨c, u, hc, rfl⟩ hoC hm F' N' off ne yl hJ
      exact turn i c u hc ys nw _ oI C oC D m₂ h tk hoC hm F' N' off ne yl hJ
  cases ha : y.cps.all (· < 128)
  · exact wpAny_pyIter_wide ha (run "str_iterator" _ ⟨_, Heap.get?_push_size _ rfl, rfl, rfl⟩ (Walks.strWide hh _ y ty))
  · exact wpAny_pyIter_ascii ha (run "str_ascii_iterator" _ ⟨_, Heap.get?_push_size _ rfl, rfl, rfl⟩ (Walks.strAscii hh _ y ty))
end
section
variable {prog : Program} {w : World} {A : Around} {E : Value → Shared → Prop} {s : Shared} {h₀ : Heap} {L : Addr} {m : Str → Option Value} {env : Env}
def signP (p : Nat → Bool) (v : Value) : Bool := match v with | .str z _ => p (z.cps.getD 0 0) | _ => false
def signF (v r : Value) : Prop := ∃ z t t', v = .str z t ∧ r = .str z t'
theorem signs_paired {p : Nat → Bool} {y : List Nat} : ∀ {vs ys : List Value}, vs.length = y.length → (∀ (j : Nat) (v : Value), vs[j]? = some v → ∃ (c : Nat) (u : Tok), y[j]? = some c ∧ v = Value.str ⟨#[c]⟩ u) → Paired signF (vs.filter (signP p)) ys → StrsAre ys ((y.filter p).map fun c => (⟨#[c]⟩ : Str)) := by
  induction y with
  | nil =>
    intro vs ys hl _ hp
    cases vs with
    | nil => cases hp; exact .nil
    | cons _ _ => cases hl
  | cons c r ih =>
    intro vs ys hl hv hp
    cases vs with
    | nil => cases hl
    | cons v vr =>
      obtain ⟨c', u, hc, rfl⟩ := hv 0 v (by simp)
      cases hc
      have hv' : ∀ (j : Nat) (v : Value), vr[j]? = some v → ∃ (c : Nat) (u : Tok), r[j]? = some c ∧ v = Value.str ⟨#[c]⟩ u := fun j v h => by simpa using hv (j + 1) v (by simpa using h)
      have e : signP p (.str ⟨#[c]⟩ u) = p c := rfl
      rw [List.filter_cons, e] at hp
      rw [List.filter_cons]
      cases q : p c with
      | false =>
        rw [q] at hp
        simp only [Bool.false_eq_true, if_false] at hp ⊢
        exact ih (Nat.succ.inj hl) hv' hp
      | true =>
        rw [q] at hp
        simp only [if_true] at hp ⊢
        cases hp with
        | cons hF hr =>
          obtain ⟨z, t, t', e1, rfl⟩ := hF
          cases e1
          exact .cons _ _ (ih (Nat.succ.inj hl) hv' hr)
def LctSrc (prog : Program) (w : World) (A : Around) (env : Env) (elt : Expr) (x : Str) (tst : Expr) (scope : Scope) (cl : List (Str × Addr)) (p : Nat → Bool) (Q E : Value → Shared → Prop) (xv : Value) (s₁ : Shared) : Prop :=
  wpAny (model prog w) A (pyIter xv) (fun it s₂ => ∃ (I : Addr) (fp wr : List Addr) (n : Nat) (P : Nat → Value → Prop) (St : Nat → Heap → Prop), it = .ref I ∧ Walks prog w A I fp wr n P St ∧ n ≤ sizeLine ∧ St 0 s₂.heap ∧ (∀ b ∈ fp, b < s₂.heap.objs.size) ∧
      QuietOnC prog w A env scope cl x [tst] elt wr P (signP p) signF s₂ ∧
      (∀ D h' tk ys (vs : List Value), s₂.heap.get? D = none → h'.IsList D ys → h'.PlainList D ys → vs.length = n → (∀ j v, vs[j]? = some v → P j v) → Paired signF (vs.filter (signP p)) ys.toList →
        (∀ b o, b ∉ wr → s₂.heap.get? b = some o → h'.get? b = some o) → Q (.ref D) { s₂ with heap := h', toks := tk })) E s₁
theorem lct_gen {elt iter : Expr} {x : Str} {px : Pos} {tst : Expr} {scope : Scope} {cl : List (Str × Addr)} {pos : Pos} {Q : Value → Shared → Prop} (p : Nat → Bool)
    (hclos : closureFor scope env = pure cl) (hcell : ∀ y ∈ scope.names, y.2 ≠ .cell) (hkind : scope.kind = .function)
    (hnames : ∀ y ∈ scope.names, y.2 = .local → scope.names.lookup y.1 = some .local) (hx : scope.names.lookup x = some .local)
    (h : wpAny (model prog w) A (eval iter env) (LctSrc prog w A env elt x tst scope cl p Q E) E s)
    (hs : ∀ x, foldedSetIterable iter env x = pure x := by intro _; rfl) :
    wpAny (model prog w) A (eval (.ListComp elt [⟨.Name x px, iter, [tst], 0⟩] scope pos) env) Q E s := wpAny_ListComp_free (signP p) signF hclos hcell hkind hnames hx h hs
theorem lct_str {elt : Expr} {x : Str} {tst : Expr} {scope : Scope} {cl : List (Str × Addr)} {Q : Value → Shared → Prop} {y : Str} {ty : Tok} {news : List (Addr × Obj)} {s₁ : Shared} (p : Nat → Bool)
    (hh : A.handled = none) (F : Fr h₀ L s₁.heap m) (N : News h₀ L s₁.heap news) (hz : y.length ≤ 1000)
    (test : ∀ c t oC C m₂ (s₃ : Shared) (E' : Value → Shared → Prop), LCg.NsObj oC m₂ → m₂ x = some (.str ⟨#[c]⟩ t) → Fr h₀ L s₃.heap m → News h₀ L s₃.heap ((C, oC) :: news) →
      wpAny (model prog w) A (isTrue tst (compEnvC scope cl C env) (eval tst (compEnvC scope cl C env))) (fun ok s₄ => ok = p c ∧ ∃ tk', s₄ = { s₃ with toks := tk' }) E' s₃)
    (element : ∀ c t oC C m₂ (s₃ : Shared) (E' : Value → Shared → Prop), LCg.NsObj oC m₂ → m₂ x = some (.str ⟨#[c]⟩ t) → Fr h₀ L s₃.heap m → News h₀ L s₃.heap ((C, oC) :: news) →
      wpAny (model prog w) A (eval elt (compEnvC scope cl C env)) (fun r s₄ => (∃ t', r = .str ⟨#[c]⟩ t') ∧ ∃ tk', s₄ = { s₃ with toks := tk' }) E' s₃)
    (fin : ∀ D h tk ys n, Fr h₀ L h m → News h₀ L h ((D, listOf ys.toArray n) :: news) → (∀ q ∈ news, q.1 ≠ D) → StrsAre ys ((y.cps.toList.filter p).map fun c => (⟨#[c]⟩ : Str)) → Q (.ref D) { s₁ with heap := h, toks := tk }) :
    LctSrc prog w A env elt x tst scope cl p Q E (.str y ty) s₁ := by
  refine wpAny_pyIter_str fun o St W hst => ?_
  have nI : ∀ b o', s₁.heap.get? b = some o' → b ∉ [s₁.heap.objs.size] := fun b o' e h => by rw [List.mem_singleton.mp h] at e; exact absurd (Heap.lt_size e) (Nat.lt_irrefl _)
  have old : ∀ h' : Heap, (∀ b o', b ∉ [s₁.heap.objs.size] → (s₁.heap.push o).get? b = some o' → h'.get? b = some o') → ∀ b o', s₁.heap.get? b = some o' → h'.get? b = some o' :=
    fun h' hk b o' e => hk b o' (nI b o' e) (Heap.get?_push_of_some _ e)
  have led : ∀ (C : Addr) (s₃ : Shared) m₃, (s₁.heap.push o).objs.size ≤ C → s₃.heap.Ns C m₃ → (∀ b o', b ∉ [s₁.heap.objs.size] → (s₁.heap.push o).get? b = some o' → s₃.heap.get? b = some o') →
      ∃ oC, LCg.NsObj oC m₃ ∧ Fr h₀ L s₃.heap m ∧ News h₀ L s₃.heap ((C, oC) :: news) := by
    intro C s₃ m₃ hC hn hk
    obtain ⟨oC, e, q⟩ := LCg.ns_obj hn
    have hC' : s₁.heap.objs.size < C := by rw [Heap.size_push] at hC; exact hC
    refine ⟨oC, q, F.keeps (old _ hk), fun r hr => ?_⟩
    rcases List.mem_cons.mp hr with rfl | hr
    · refine ⟨e, Ne.symm (Nat.ne_of_lt (Nat.lt_trans F.ns.lt hC')), ?_⟩
      cases z : h₀.get? C with
      | none => rfl
      | some o' => exact absurd (Heap.lt_size (F.keep C o' z)) (Nat.not_lt.mpr (Nat.le_of_lt hC'))
    · exact ⟨old _ hk _ _ (N r hr).1, (N r hr).2⟩
  refine ⟨_, _, _, _, SignAt y, St, rfl, W A hh, Nat.le_trans hz (by rw [sizeLine_eq]; decide), hst, fun q hq => ?_, ⟨?_, ?_⟩, ?_⟩
  · rw [List.mem_singleton.mp hq]
    show s₁.heap.objs.size < (s₁.heap.push _).objs.size
    rw [Heap.size_push]; exact Nat.lt_succ_self _
  · rintro C i v s₃ m₃ E' hC ⟨c, u, hc, rfl⟩ hn hm hk htk
    obtain ⟨oC, q, F₃, N₃⟩ := led C s₃ m₃ hC hn hk
    rw [List.forIn_cons]
    simp only [if_true]
    refine wpAny_bind (wpAny_bind (wpAny_mono (test c u oC C m₃ s₃ E' q hm F₃ N₃) (fun ok s₄ h₄ => ?_) fun _ _ x => x))
    obtain ⟨rfl, tk', rfl⟩ := h₄
    exact wpAny_pure (wpAny_pure ⟨rfl, _, _, rfl, fun _ _ e => e⟩)
  · rintro C i v s₃ m₃ E' hC ⟨c, u, hc, rfl⟩ hp hn hm hk htk
    obtain ⟨oC, q, F₃, N₃⟩ := led C s₃ m₃ hC hn hk
    refine wpAny_mono (element c u oC C m₃ s₃ E' q hm F₃ N₃) (fun r s₄ h₄ => ?_) fun _ _ x => x
    obtain ⟨⟨t', rfl⟩, tk', rfl⟩ := h₄
    exact ⟨⟨_, _, _, rfl, rfl⟩, _, _, rfl, fun _ _ e => e⟩
  · intro D h' tk ys vs hD hl hpl hlen hP hF hk
    obtain ⟨n, hD'⟩ := hpl
    have nD : ∀ b o', s₁.heap.get? b = some o' → b ≠ D := fun b o' e z => by rw [z] at e; rw [Heap.get?_push_of_some _ e] at hD; cases hD
    refine fin D h' tk ys.toList n (F.keeps (old _ hk)) (fun r hr => ?_) (fun q hq => nD _ _ (N q hq).1) (signs_paired (by rw [hlen, Array.length_toList]) (fun j v hj => ?_) hF)
    · rcases List.mem_cons.mp hr with rfl | hr
      · refine ⟨by rw [Array.toArray_toList]; exact hD', fun z => ?_, ?_⟩
        · obtain ⟨oL, _, _, eL, _⟩ := F.ns
          exact nD _ _ eL z.symm
        · cases z : h₀.get? D with
          | none => rfl
          | some o' => exact absurd rfl (nD _ _ (F.keep D o' z))
      · exact ⟨old _ hk _ _ (N r hr).1, (N r hr).2⟩
    · obtain ⟨c, u, hc, rfl⟩ := hP j v hj
      exact ⟨c, u, by simpa using hc, rfl⟩
end
theorem funFrames_drop {h h' B : Heap} {C : Addr} : ∀ {l : List Env}, h.FunFrames B l → (∀ b, B.get? b = none → b ≠ C) → Heap.SameBut C h h' → h'.FunFrames (hideAll B [C]) l
  | [], _, _, _ => trivial
  | _ :: _, ⟨hk, ⟨L, o, hf, hn, ho, hd⟩, hr⟩, hne, hs => by
    have hn' : (hideAll B [C]).get? L = none := by
      cases q : (hideAll B [C]).get? L with
      | none => rfl
      | some o' => have := of_hideAll _ q; rw [hn] at this; cases this
    exact ⟨hk, ⟨L, o, hf, hn', hs.extBut _ _ (hne L hn) ho, hd⟩, funFrames_drop hr hne hs⟩
theorem flies_drop {base G B h h' : Heap} {l : List Env} {e D C : Addr} {oC : Obj} {x : Option Addr} {news news2 : List (Addr × Obj)} (b1 : base.StaysIn B) (bg : ∀ b o, G.get? b = some o → b ∉ l.filterMap (·.frame) → B.get? b = some o)
    (b2 : ∀ q ∈ news, B.get? q.1 = some q.2 ∧ G.get? q.1 = none) (b3 : B.StaysIn h) (b4 : B.get? e = none) (bn : G.get? e = none) (b5 : h.FunFrames B l) (b6 : TrD h B e (.ref 54) (some D) (flV x))
    (hC : (C, oC) ∈ news) (hb : base.get? C = none) (h2 : ∀ q ∈ news2, q ∈ news ∧ q.1 ≠ C) (hs : Heap.SameBut C h h') :
    ∃ B', base.StaysIn B' ∧ (∀ b o, G.get? b = some o → b ∉ l.filterMap (·.frame) → B'.get? b = some o) ∧ (∀ q ∈ news2, B'.get? q.1 = some q.2 ∧ G.get? q.1 = none) ∧ B'.StaysIn h' ∧ B'.get? e = none ∧ G.get? e = none ∧ h'.FunFrames B' l ∧ TrD h' B' e (.ref 54) (some D) (flV x) := by
  have hne : ∀ b, B.get? b = none → b ≠ C := fun b hb q => by have := (b2 _ hC).1; rw [← q, hb] at this; cases this
  have gC := (b2 _ hC).2
  have none' : ∀ b, B.get? b = none → (hideAll B [C]).get? b = none := fun b hb => by
    cases q : (hideAll B [C]).get? b with
    | none => rfl
    | some o' => have := of_hideAll _ q; rw [hb] at this; cases this
  have keepB : ∀ b o, B.get? b = some o → b ≠ C → (hideAll B [C]).get? b = some o := fun b o q n => hideAll_get _ q (by simpa using n)
  refine ⟨hideAll B [C], fun b o q => keepB b o (b1 b o q) (fun z => by rw [z, hb] at q; cases q), fun b o q nm => keepB b o (bg b o q nm) (fun z => by rw [z, gC] at q; cases q),
    fun q hq => ⟨keepB _ _ (b2 q (h2 q hq).1).1 (h2 q hq).2, (b2 q (h2 q hq).1).2⟩, fun b o q => ?_, none' e b4, bn, funFrames_drop b5 hne hs, ?_⟩
  · have q' := of_hideAll _ q
    exact hs.extBut _ _ (fun z => by rw [z, hideAll_none _ (.head _)] at q; cases q) (b3 b o q')
  · obtain ⟨oe, vs, T, oT, ts, he, h1, h2', hd, h3, hnT, hTe, hT, hdT, h4⟩ := b6
    exact ⟨oe, vs, T, oT, ts, hs.extBut _ _ (hne e b4) he, h1, h2', hd, h3, none' T hnT, hTe, hs.extBut _ _ (hne T hnT) hT, hdT, h4⟩
theorem lc_err {prog : Program} {w : World} {A₀ : Around} {E : Value → Shared → Prop} {s' : Shared} {base g G : Heap} {outer : List Env} {L e D C : Addr} {m mC : Str → Option Value} {env : Env} {oC : Obj} {news : List (Addr × Obj)} {scope : Scope} {cl : List (Str × Addr)} (news2 : List (Addr × Obj))
    (K : Below A₀ base outer g) (F : Fr g L G m) (hsm : G.UpToSlots s'.heap) (R : Flies base G (env :: outer) e D news s'.heap) (hoC : LCg.NsObj oC mC) (hC : (C, oC) ∈ news) (h2 : ∀ q ∈ news2, q ∈ news) (h3 : ∀ q ∈ news2, q.1 ≠ C)
    (hE : ∀ h', Flies base G (env :: outer) e D news2 h' → G.UpToSlots h' → E (.ref e) { s' with heap := h' }) (hf : env.frame = some L := by rfl) :
    notedBy (model prog w) (A₀.deeper env) (compEnvC scope cl C env) (ErW prog w (A₀.deeper env) E C) (.ref e) s' := by
  obtain ⟨B, b1, bg, b2, b3, b4, bn, b5, bx, b6⟩ := R
  show wpAny _ _ (noteFrame (.ref e) env) _ _ _
  refine f_note_any (Around.frames_deeper K.stack) b5 hf b6 b3 b4 fun h₁ ⟨x1, x2, x3, x4⟩ => ?_
  refine ⟨mC, hoC.ns (x1 _ _ (b2 _ hC).1), fun h'' hs cenv _ => ?_⟩
  have gC := (b2 _ hC).2
  obtain ⟨B', y1, yg, y2, y3, y4, yn, y5, y6⟩ := flies_drop (x := some L) b1 bg b2 x1 b4 bn x2 x3 hC (fresh_of_stays K.stays (kts_none F.keep gC)) (fun q hq => ⟨h2 q hq, h3 q hq⟩) hs
  refine f_passOn y3 y5 y6 fun h₄ y ⟨z1, z2, z3, z4⟩ => ?_
  refine hE h₄ ⟨B', y1, yg, y2, z1, y4, yn, z2, y, z3⟩ ?_
  intro b o hb hd
  obtain ⟨sl, q1⟩ := (hsm.trans x4) b o hb hd
  exact z4 _ _ (hs.extBut _ _ (fun z => by rw [z, gC] at hb; cases hb) q1) hd |>.elim fun sl' q => ⟨sl', q⟩
def RaiseB (w : World) (E : Value → Shared → Prop) (v : Value) (s : Shared) : Prop := ∃ e t D, v = .ref e ∧ (hd.heap_1 w.params).In s.heap ∧ s.heap.get? e = some (excD 54 t D) ∧ E (.ref e) s
theorem raiseB_intro {w : World} {E : Value → Shared → Prop} {s : Shared} {e t D L : Addr} {h₀ : Heap} {m : Str → Option Value} {news : List (Addr × Obj)} (F : Fr h₀ L s.heap m) (X : (hd.heap_1 w.params).In h₀) (N : News h₀ L s.heap news) (hm : (e, excD 54 t D) ∈ news) (h : E (.ref e) s) :
    RaiseB w E (.ref e) s := ⟨e, t, D, rfl, X.keeps F.keep, (N _ hm).1, h⟩
theorem x_raise {w : World} {A : Around} {E : Value → Shared → Prop} {s : Shared} {env : Env} {x : Expr} {pos : Pos} {Q : Flow → Shared → Prop} (hh : A.handled = none)
    (h : wpAny (model Challenge.pw_nz0115_01 w) A (eval x env) (RaiseB w E) E s) :
    wpAny (model Challenge.pw_nz0115_01 w) A (exec (.Raise (some x) none pos) env) Q E s := by
  have key : wpAny (model Challenge.pw_nz0115_01 w) A (raiseStmt env (some (do let v ← eval x env; standAt pos; pure v)) none) Q E s := by
    unfold raiseStmt
    refine wpAny_bind (wpAny_bind (wpAny_mono h (fun v s₁ h₁ => wpAny_bind (wpAny_standAt (wpAny_pure ?_))) fun _ _ x => x))
    obtain ⟨e, t, D, rfl, X, he, hE⟩ := h₁
    have hC := X 54 _ (by k_is)
    obtain ⟨hp, g, d, tk, os⟩ := s₁
    repeat (first | with_reducible refine wpAny_loadPart_at he ?_ | with_reducible refine wpAny_loadPart_at hC ?_ | (with_reducible refine wpAny_isSubtype_exc (bm := [.ref 41, .type "Exception", .type "BaseException", .type "object"]) hC ?_; rw [show ([.ref 54, .ref 41, .type "Exception", .type "BaseException", .type "object"] : List Value).contains (.type "BaseException") = true from rfl]) | wp_step)
    exact wpAny_raiseNew_none hh hE
  exact wpAny_bind (wpAny_standAt key)
theorem Flies.sub {base G : Heap} {l : List Env} {e D : Addr} {news news2 : List (Addr × Obj)} {h : Heap} (R : Flies base G l e D news h) (hs : ∀ p ∈ news2, p ∈ news) : Flies base G l e D news2 h := by
  obtain ⟨B, b1, bg, b2, r⟩ := R
  exact ⟨B, b1, bg, fun q hq => b2 q (hs q hq), r⟩
theorem news_head {h₀ h : Heap} {L : Addr} {x : Addr × Obj} {r : List (Addr × Obj)} (_ : News h₀ L h (x :: r)) : ∃ y, y = x := ⟨x, rfl⟩
theorem off1_all {D : Addr} : ∀ {l : List (Addr × Obj)}, LCg.Off1 D l → ∀ q ∈ l, q.1 ≠ D
  | [], _, _, h => nomatch h
  | _ :: _, x, p, h => by
    rcases List.mem_cons.mp h with rfl | h
    · exact x.1
    · exact off1_all x.2 p h
theorem ints_snoc {ys : List Value} {l : List Int} {k : Int} {t : Tok} (h : IntsAre ys l) : IntsAre (ys ++ [.int k t]) (l ++ [k]) := by
  induction h with
  | nil => exact .cons _ _ .nil
  | cons _ _ _ ih => exact .cons _ _ ih
def beP (n : Int) (c i : Nat) : List Int := (List.range i).map fun j => n / 256 ^ (c - 1 - j) % 256
abbrev beD (n : Int) (c : Nat) : List Int := beP n c c
theorem beP_succ (n : Int) (c i : Nat) : beP n c (i + 1) = beP n c i ++ [n / 256 ^ (c - 1 - i) % 256] := by
  unfold beP
  rw [List.range_succ, List.map_append]
  rfl
theorem beP_in (n : Int) (c i : Nat) : KBa.In (beP n c i) := by
  intro k hk
  obtain ⟨j, _, rfl⟩ := List.mem_map.1 hk
  omega
theorem beP_len (n : Int) (c i : Nat) : (beP n c i).length = i := by simp [beP]
theorem pw8 {c : Nat} (h : c ≤ 4) : (2 : Int) ^ ((8 : Int) * (c : Int)).toNat = 256 ^ c := by
  rw [show (8 : Int) * (c : Int) = ((8 * c : Nat) : Int) from (Int.natCast_mul 8 c).symm, Int.toNat_natCast, Int.pow_mul]
  rfl
theorem p256_pos {c : Nat} (h : c ≤ 4) : (0 : Int) < 256 ^ c := by
  exact Int.pow_pos (by decide)
theorem shr_hi {n k : Int} {c : Nat} (hc : c ≤ 4) (h : 0 < n.fdiv k) (hk : k = 2 ^ ((8 : Int) * (c : Int)).toNat) : 256 ^ c ≤ n := by
  rw [hk, pw8 hc, Int.fdiv_eq_ediv_of_nonneg _ (Int.le_of_lt (p256_pos hc))] at h
  have hp := p256_pos hc
  rcases Int.lt_or_le n (256 ^ c) with q | q
  · rcases Int.lt_or_le n 0 with q0 | q0
    · have : n / 256 ^ c < 0 := Int.ediv_neg_of_neg_of_pos q0 hp
      omega
    · rw [Int.ediv_eq_zero_of_lt q0 q] at h; exact absurd h (by decide)
  · exact q
theorem shr_lo {n k : Int} {c : Nat} (hc : c ≤ 4) (h0 : 0 ≤ n) (h : ¬ 0 < n.fdiv k) (hk : k = 2 ^ ((8 : Int) * (c : Int)).toNat) : n < 256 ^ c := by
  rw [hk, pw8 hc, Int.fdiv_eq_ediv_of_nonneg _ (Int.le_of_lt (p256_pos hc))] at h
  have hp := p256_pos hc
  rcases Int.lt_or_le n (256 ^ c) with q | q
  · exact q
  · have : 1 ≤ n / 256 ^ c := (Int.le_ediv_iff_mul_le hp).mpr (by omega)
    omega
theorem digit_eq {n k : Int} {c i : Nat} (hc : c ≤ 4) (hi : i < c) (hk : k = 2 ^ ((8 : Int) * ((c : Int) - 1 + (i : Int) * -1)).toNat) : Builtin.bitAnd (n.fdiv k) 255 = n / 256 ^ (c - 1 - i) % 256 := by
  have e : (8 : Int) * ((c : Int) - 1 + (i : Int) * -1) = (8 : Int) * ((c - 1 - i : Nat) : Int) := by omega
  rw [hk, e, pw8 (by omega), Int.fdiv_eq_ediv_of_nonneg _ (Int.le_of_lt (p256_pos (by omega))), bitAnd_m8]
theorem ints_snoc' {ys : List Value} {l : List Int} {k k' : Int} {t : Tok} (h : IntsAre ys l) (e : k = k') : IntsAre (ys ++ [.int k t]) (l ++ [k']) := e ▸ ints_snoc h
/-! loops by an invariant of our own over the turn's number, the frame's map and the ledger -/
def TurnEnd (h₀ : Heap) (L : Addr) (J : (Str → Option Value) → List (Addr × Obj) → Prop) (I : Addr) (oI : Obj) (s₁ : Shared) (Q : Flow → Shared → Prop) (f : Flow) (s₂ : Shared) : Prop :=
  match f with
  | .ret v => Q (.ret v) s₂
  | .brk => Q .next s₂
  | _ => ∃ h' tk m' nw, s₂ = { s₁ with heap := h', toks := tk } ∧ Fr h₀ L h' m' ∧ News h₀ L h' ((I, oI) :: nw) ∧ (∀ p ∈ nw, p.1 ≠ I) ∧ J m' nw
theorem TurnEnd.next {h₀ h' : Heap} {L : Addr} {J : (Str → Option Value) → List (Addr × Obj) → Prop} {I : Addr} {oI : Obj} {s₁ : Shared} {Q : Flow → Shared → Prop} {tk : Nat} {m' : Str → Option Value} {news : List (Addr × Obj)} (nw : List (Addr × Obj))
    (F : Fr h₀ L h' m') (N : News h₀ L h' news) (hs : ∀ p ∈ (I, oI) :: nw, p ∈ news) (ho : ∀ p ∈ nw, p.1 ≠ I) (hJ : J m' nw) : TurnEnd h₀ L J I oI s₁ Q .next { s₁ with heap := h', toks := tk } :=
  ⟨h', tk, m', nw, rfl, F, fun p hp => N p (hs p hp), ho, hJ⟩
section
variable {prog : Program} {w : World} {A : Around} {E : Value → Shared → Prop} {s : Shared} {env : Env} {h₀ : Heap} {x : Str} {body : List Stmt} {Q : Flow → Shared → Prop} {m₀ : Str → Option Value} {news : List (Addr × Obj)}
theorem loop_list {ax L : Addr} {items : List Value} {le : Nat} (J : Nat → (Str → Option Value) → List (Addr × Obj) → Prop) (hh : A.handled = none) (hL : env.locals = L)
    (F : Fr h₀ L s.heap m₀) (N : News h₀ L s.heap news) (hm : (ax, listOf items.toArray le) ∈ news) (h0 : J 0 m₀ news) (hJm : ∀ i m nw, J i m nw → (ax, listOf items.toArray le) ∈ nw)
    (turn : ∀ i v m₁ nw I oI h tk, items[i]? = some v → J i m₁ nw → (∀ p ∈ nw, p.1 ≠ I) → Fr h₀ L h (fun y => if y = x then some v else m₁ y) → News h₀ L h ((I, oI) :: nw) →
      wpAny (model prog w) A (execs body env) (TurnEnd h₀ L (J (i + 1)) I oI { s with heap := h, toks := tk } Q) E { s with heap := h, toks := tk })
    (done : ∀ m₁ nw h tk, J items.length m₁ nw → Fr h₀ L h m₁ → News h₀ L h nw → Q .next { s with heap := h, toks := tk }) :
    wpAny (model prog w) A (pyIter (.ref ax)) (fun it s₂ => LoopAtV prog w A h₀ env x body Q E it s₂) E s := by
  subst hL
  have hl : s.heap.IsList ax items.toArray := PySem.IsL.isList (n := le) (N _ hm).1
  have hlt : ax < s.heap.objs.size := Heap.lt_size (N _ hm).1
  refine wpAny_pyIter_list hl ?_
  have W := Walks.list (prog := prog) (w := w) hh s.heap.objs.size ax (Nat.ne_of_lt hlt) items.toArray
  rw [List.size_toArray] at W
  have nN : ∀ p ∈ news, p.1 ≠ s.heap.objs.size := fun p hp => Nat.ne_of_lt (Heap.lt_size (N p hp).1)
  refine ⟨_, _, _, items.length, _, _, m₀, news, J, rfl, W, ?_, ?_, fun p hp hI => nN p hp (List.mem_singleton.mp hI), ⟨⟨_, Heap.get?_push_size _ rfl, rfl, rfl⟩, hl.push _⟩, F.push _, News.pushKeep N _, h0, ?_, fun h' tk m' nw F' N' _ hJ => done m' nw h' tk hJ F' N'⟩
  · intro hm'
    rcases List.mem_cons.mp hm' with e | hm'
    · exact absurd F.ns.lt (e ▸ Nat.lt_irrefl _)
    · exact (N _ hm).2.1 (List.mem_singleton.mp hm').symm
  · intro b hb
    rw [List.mem_singleton.mp hb]
    exact next_is_new F
  · rintro i v m₁ nw s₁ own ⟨h, tk, rfl⟩ hi hP hJ hoff hsub hown hfp hst F₁ N₁
    obtain ⟨⟨oI, eI, _⟩, _⟩ := hst
    have nI : ∀ p ∈ nw, p.1 ≠ s.heap.objs.size := fun p hp q => hoff p hp (by rw [q]; exact .head _)
    have N₂ : News h₀ env.locals h ((s.heap.objs.size, oI) :: nw) := fun p hp => by
      rcases List.mem_cons.mp hp with rfl | hp
      · exact N₁ _ (List.mem_append_left _ (hfp _ (.head _) (next_is_new F) _ eI))
      · exact N₁ p (List.mem_append_right _ hp)
    refine wpAny_mono (turn i v m₁ nw _ oI h tk (by simpa using hP) hJ nI F₁ N₂) (fun f s₂ z => ?_) fun _ _ e => e
    have fin : (∃ h' tk' m' nw', s₂ = { ({ s with heap := h, toks := tk } : Shared) with heap := h', toks := tk' } ∧ Fr h₀ env.locals h' m' ∧ News h₀ env.locals h' ((s.heap.objs.size, oI) :: nw') ∧ (∀ p ∈ nw', p.1 ≠ s.heap.objs.size) ∧ J (i + 1) m' nw') →
        LoopStepU h₀ env.locals [s.heap.objs.size] own (J (i + 1)) { s with heap := h, toks := tk } .next s₂ := by
      rintro ⟨h', tk', m', nw', rfl, F', N', ho, hJ'⟩
      refine ⟨rfl, h', tk', m', nw', rfl, F', fun p hp => ?_, fun p hp hI => ho p hp (List.mem_singleton.mp hI), hJ'⟩
      rcases List.mem_append.mp hp with hp | hp
      · have e := hown p hp
        rcases List.mem_cons.mp (hsub p hp) with q | q
        · obtain ⟨a, o⟩ := p
          dsimp only at q e
          subst q
          rw [eI] at e; cases e
          exact N' _ (.head _)
        · obtain ⟨a, o⟩ := p
          dsimp only at q e
          have q' := List.mem_singleton.mp q
          subst q'
          have e2 := (N₁ _ (List.mem_append_right _ (hJm _ _ _ hJ))).1
          rw [e2] at e; cases e
          exact N' _ (.tail _ (hJm _ _ _ hJ'))
      · exact N' p (.tail _ hp)
    cases f with
    | ret v => exact .ret z
    | brk => exact .brk z
    | next => exact .next (fin z)
    | cont => exact .cont (fin z)
theorem ints_at' {vs : List Value} {ns : List Int} {i : Nat} {v : Value} (h : IntsAre vs ns) (hv : vs[i]? = some v) : ∃ k t, ns[i]? = some k ∧ v = .int k t ∧ k ∈ ns := by
  have hlt : i < ns.length := by rw [← h.length]; exact (List.getElem?_eq_some_iff.mp hv).1
  obtain ⟨t, ht⟩ := h.get i ns[i] (by simp [hlt])
  rw [hv] at ht
  exact ⟨ns[i], t, by simp [hlt], Option.some.inj ht, List.getElem_mem hlt⟩
theorem two_form {m m₀ : Str → Option Value} {a b : Str} {va : Value} (ha : m a = some va) (ho : ∀ z, z ≠ a → z ≠ b → m z = m₀ z) : m = fun z => if z = a then some va else if z = b then m b else m₀ z := by
  funext z
  by_cases h1 : z = a
  · subst h1; simp [ha]
  · by_cases h2 : z = b
    · subst h2; simp [h1]
    · simp [h1, h2, ho z h1 h2]
end

theorem m_add {prog : Program} {w : World} {A : Around} {E : Value → Shared → Prop} {s : Shared} {h₀ : Heap} {L l b : Addr} {m : Str → Option Value} {news : List (Addr × Obj)} {vs ws : List Value} {n1 n2 : Nat} {Q : Value → Shared → Prop}
    (F : Fr h₀ L s.heap m) (N : News h₀ L s.heap news) (hl : (l, listOf vs.toArray n1) ∈ news) (hb : (b, listOf ws.toArray n2) ∈ news) (hsz : vs.length + ws.length ≤ 1000)
    (h : ∀ D h', Fr h₀ L h' m → News h₀ L h' ((D, listOf (vs ++ ws).toArray 0) :: news) → (∀ p ∈ news, p.1 < D) → Q (.ref D) { s with heap := h' }) :
    wpAny (model prog w) A (binaryOp .Add (.ref l) (.ref b)) Q E s := by
  refine add_arrays F N (News.isList N hl) (News.isList N hb) (fun h' F' N' => h _ h' F' ?_ fun p hp => Heap.lt_size (N p hp).1) ?_
  · simpa using N'
  · simp only [List.size_toArray]; rw [sizeLine_eq]; omega
section
variable {prog : Program} {w : World} {A : Around} {E : Value → Shared → Prop} {s : Shared} {h₀ : Heap} {L : Addr} {m : Str → Option Value} {env : Env}
def LcFinA (h₀ : Heap) (L : Addr) (m : Str → Option Value) (y : Str) (s₂ : Shared) (n : Nat) (J : Nat → List Value → List (Addr × Obj) → Prop) (Q : Flow → Shared → Prop) : Prop :=
  ∀ D h tk ys nw, Fr h₀ L h (fun z => if z = y then some (.ref D) else m z) → News h₀ L h ((D, lcL ys) :: nw) → LCg.Off1 D nw → ys.length = n → J n ys nw → Q .next { s₂ with heap := h, toks := tk }
def LcSrcA (prog : Program) (w : World) (A : Around) (h₀ : Heap) (L : Addr) (m : Str → Option Value) (env : Env) (elt : Expr) (x : Str) (scope : Scope) (cl : List (Str × Addr)) (y : Str) (Q : Flow → Shared → Prop) (E : Value → Shared → Prop) (xv : Value) (s₁ : Shared) : Prop :=
  wpAny (model prog w) A (pyIter xv) (fun it s₂ => ∃ I fp n P St S J news, it = .ref I ∧ LcRun prog w A h₀ L m env elt x scope cl s₂ I fp n P St S J news (ErW prog w A E) ∧ LcFinA h₀ L m y s₂ n J Q) E s₁
theorem lc_asg {elt iter : Expr} {x y : Str} {px py : Pos} {scope : Scope} {cl : List (Str × Addr)} {pos spos : Pos} {Q : Flow → Shared → Prop} (F₀ : Fr h₀ L s.heap m) (hLe : env.locals = L)
    (hsw : swapsWith (.ListComp elt [⟨.Name x px, iter, [], 0⟩] scope pos) (some (.Name y py)) spos.line env = pure true)
    (hclos : closureFor scope env = pure cl) (hcell : ∀ z ∈ scope.names, z.2 ≠ .cell) (hkind : scope.kind = .function)
    (hnames : ∀ z ∈ scope.names, z.2 = .local → scope.names.lookup z.1 = some .local) (hx : scope.names.lookup x = some .local)
    (hy : env.kindOf y = some .local) (hp : (env.scope.kind == .class || (env.scope.kind == .module && env.locals != env.globals)) = false)
    (h : wpAny (model prog w) A (eval iter env) (LcSrcA prog w A h₀ L m env elt x scope cl y Q E) E s)
    (hs : ∀ x, foldedSetIterable iter env x = pure x := by intro _; rfl) :
    wpAny (model prog w) A (exec (.Assign [.Name y py] (.ListComp elt [⟨.Name x px, iter, [], 0⟩] scope pos) spos) env) Q E s := by
  subst hLe
  rw [exec_Assign_Name_used _ _ _ _ hsw]
  refine wpAny_bind (wpAny_standAt (wpAny_bind ?_))
  show wpAny _ A (do let _ ← comprehension (.ListComp elt [⟨.Name x px, iter, [], 0⟩] scope pos) scope env _ (newList []) false (eval iter env) (some (assign (.Name y py) env))) _ _ s
  refine wpAny_bind (wpAny_mono (wpAny_comprehension_free (use := some (assign (.Name y py) env)) (Q := fun _ s' => Q .next s') rfl hs hclos hkind hnames
    (wpAny_mono h (fun xv s₁ h₁ => wpAny_mono h₁ (fun it s₂ h₂ => ?_) fun _ _ e => e) fun _ _ e => e)) (fun _ s' hq => wpAny_pure (wpAny_pure hq)) fun _ _ e => e)
  obtain ⟨I, fp, n, P, St, S, J, news, rfl, R, fin⟩ := h₂
  refine lc_block R hcell hkind hx ?_ ?_
  · intro D C e s' he
    exact he
  · intro D C h tk m' ys nw F' N' o1 hn C₀ D₀ nCL nDL nCD offC yl Jn
    show wpAny _ A (assign (.Name y py) env (.ref D)) _ _ _
    refine wpAny_assign_Name (wpAny_storeName_local hy F'.ns (fun h₂ hn₂ hs₂ => ?_) hp)
    refine ⟨m', hn.sameBut hs₂ nCL, fun h'' hs'' => fin D h'' _ ys nw ((F'.set hn₂ hs₂).change hs'' nCL C₀) (fun p hp => ?_) o1 yl Jn⟩
    refine ⟨hs''.extBut _ _ ?_ ((N'.set hs₂) p hp).1, (N' p hp).2⟩
    rcases List.mem_cons.mp hp with rfl | hp
    · exact Ne.symm nCD
    · exact offC p hp
theorem lcs_strA {elt : Expr} {x yn : Str} {scope : Scope} {cl : List (Str × Addr)} {Q : Flow → Shared → Prop} {news : List (Addr × Obj)} {y : Str} {ty : Tok} (J : Nat → List Value → List (Addr × Obj) → Prop) (hh : A.handled = none) (F : Fr h₀ L s.heap m) (N : News h₀ L s.heap news) (hz : y.length ≤ 1000) (start : J 0 [] news)
    (turn : ∀ i c t, y.cps[i]? = some c → LcTurn prog w A h₀ L m env elt x scope cl s E (fun _ => True) J i (.str ⟨#[c]⟩ t))
    (fin : LcFinA h₀ L m yn s y.cps.size J Q) :
    LcSrcA prog w A h₀ L m env elt x scope cl yn Q E (.str y ty) s := by
  have run : ∀ (T : String) (o : Obj), (s.heap.push o).IsStrIter s.heap.objs.size T y ty 0 → Walks prog w A s.heap.objs.size [s.heap.objs.size] [s.heap.objs.size] y.cps.size (SignAt y) (fun i h => h.IsStrIter s.heap.objs.size T y ty i) →
      ∃ I fp n P St S J news, Value.ref s.heap.objs.size = .ref I ∧ LcRun prog w A h₀ L m env elt x scope cl { s with heap := s.heap.push o } I fp n P St S J news (ErW prog w A E) ∧ LcFinA h₀ L m yn { s with heap := s.heap.push o } n J Q := by
    intro T o st W
    refine ⟨_, _, _, _, _, fun _ => True, J, news, rfl, ⟨W, Nat.le_trans hz (by rw [sizeLine_eq]; decide), fun i h st => ⟨_, st.choose_spec.1⟩, ?_, st, fun q hq => ?_, F.push _, News.pushKeep N _, Nat.ne_of_lt F.ns.lt, next_is_new F, fun p hp => Nat.ne_of_lt (Heap.lt_size (N p hp).1), trivial, start, ?_⟩, fin⟩
    · rintro i h h' o nw ⟨o', q, r⟩ e e' _ _ _
      rw [e] at q; cases q
      exact ⟨o, e', r⟩
    · rw [List.mem_singleton.mp hq]
      show s.heap.objs.size < (s.heap.push _).objs.size
      rw [Heap.size_push]; exact Nat.lt_succ_self _
    · rintro i v ys nw oI C oC D m₂ h tk hi ⟨c, u, hc, rfl⟩ hoC hm F' N' off ne yl hJ
      exact turn i c u hc ys nw _ oI C oC D m₂ h tk hoC hm F' N' off ne yl hJ
  cases ha : y.cps.all (· < 128)
  · exact wpAny_pyIter_wide ha (run "str_iterator" _ ⟨_, Heap.get?_push_size _ rfl, rfl, rfl⟩ (Walks.strWide hh _ y ty))
  · exact wpAny_pyIter_ascii ha (run "str_ascii_iterator" _ ⟨_, Heap.get?_push_size _ rfl, rfl, rfl⟩ (Walks.strAscii hh _ y ty))
end
section
variable {prog : Program} {w : World} {A A₀ : Around} {s : Shared} {R : Result → Shared → Prop}
theorem codeC_func {body : List Stmt} {env : Env}
    (h : wpC (model prog w) (A.deeper env) (execs body env) (fun f s' => R (.ok (.ret (match f with | .ret v => v | _ => .none))) s')
      (fun e s' => wpAny (model prog w) (A.deeper env) (leaving env e) (fun _ s'' => R (.error e) s'') (fun e' s'' => R (.error e') s'') s') s) :
    codeC (model prog w) A (.func body env) R s := by
  refine codeC_of_tree ?_
  show wpC _ (A.deeper env) (do point; match ← (execs body env).onRaise (leaving env) with | .ret v => ret v | _ => ret .none) _ _ s
  refine wpC_step (wpAny_point (wpC_bind (wpC_onRaise (wpC_mono h (fun f s' h' => ?_) fun e s' h' => ?_))))
  · cases f <;> exact wpC_pure h'
  · exact h'
theorem codeC_call_function {a : Addr} {args : Args} {o : Obj} {fd : FuncData} {body : List Stmt} (hroom : A.depth < recursionLimit) (ho : s.heap.get? a = some o)
    (hd' : o.data = .func fd) (hco : fd.scope.isCoroutine = false) (hgen : fd.scope.isGenerator = false) (hbody : fd.body = .stmts body) (hcd : s.heap.CodeRec fd.code fd.qualname)
    (h : wpAny (model prog w) A.in1 (bindArgs fd args) (fun binds s₁ =>
      wpAny (model prog w) A.in1 (newFunctionEnv fd.scope fd.globals fd.closure binds (fd.qualname ++ ".<locals>.") (some a) fd.code none fd.builtins)
        (fun env s₂ => s₂.heap.NoLimit ∧ codeC (model prog w) A (.func body env) R s₂) (fun e s' => R (.error e) s') s₁) (fun e s' => R (.error e) s') s) :
    codeC (model prog w) A (.call (.ref a) args) R s := by
  refine codeC_of_tree (wpC_of ?_)
  show wpAny _ A.in1 (callAny (.ref a) args) _ _ s
  simp only [callAny]
  refine wpAny_bind (wpAny_load ho ?_)
  obtain ⟨c, oc, vs, tq, hc, hoc, hdc, hq⟩ := hcd
  simp only [hd', callFunction, hco, hgen, hbody, hc]
  rw [hc] at h
  refine wpAny_bind (m := field (.ref c) 1) (wpAny_field hoc hdc hq (wpAny_bind (wpAny_pure ?_)))
  exact wpAny_bind (wpAny_mono h (fun binds s₁ h₁ => wpAny_bind (wpAny_mono h₁ (fun env s₂ h₂ => wpAny_bind (wpAny_enterFrame h₂.1 hroom
    (wpAny_pure (And.intro rfl ⟨rfl, h₂.2⟩)))) fun _ _ h' => h')) fun _ _ h' => h')
variable {base h₀ : Heap} {outer : List Env} {L : Addr} {m : Str → Option Value} {env : Env} {news : List (Addr × Obj)} {K : Frag} {p : Program} {loose : List Str} {mean : ExcName → Option Value} {mg mb : Str → Option Value}
  {name qual : Str} {params : Arguments} {body : List Stmt} {scope : Scope} {dV kV doc pm cdv ct oc : Value} {an od : Option Addr} {osl : Array (Option Value)} {f : Addr} {args : Args} {binds : List (Str × Value)}
theorem codeC_def (B : Below A₀ base outer h₀) (F : Fr h₀ L s.heap m) (X₀ : K.In h₀) (N : News h₀ L s.heap news) (T : Top p loose mean mg mb h₀) (hA : A.frames = some (env :: outer)) (hf : env.frame = some L) (hke : env.scope.kind = .function)
    (ho : K.lookup f = some ⟨oc, od, .func (fnOf name qual params body scope dV kV doc pm an cdv ct), osl⟩) (hcd : codeIn K cdv qual = true) (hroom : A.depth < recursionLimit)
    (hbind : BindsTo s (fnOf name qual params body scope dV kV doc pm an cdv ct) args binds) (hloc : ∀ y ∈ binds, scope.names.lookup y.1 = some .local)
    (h : ∀ g L' h₁, Fr h₀ L g m → Fr g L' h₁ (fun y => binds.reverse.lookup y) → News g L' h₁ news → Below A base (env :: outer) g → K.In g → Top p loose mean mg mb g →
      wpC (model prog w) (A.deeper (envOf qual scope L' f cdv)) (execs body (envOf qual scope L' f cdv))
        (fun fl s' => LeaveK h₀ L m g R (match fl with | .ret v => v | _ => .none) s')
        (fun e s' => wpAny (model prog w) (A.deeper (envOf qual scope L' f cdv)) (leaving (envOf qual scope L' f cdv) e) (fun _ s'' => R (.error e) s'') (fun e' s'' => R (.error e') s'') s')
        { s with heap := h₁, toks := s.toks + binds.length })
    (hco : scope.isCoroutine = false) (hgen : scope.isGenerator = false) (hk : scope.kind = .function)
    (hcell : ∀ x ∈ scope.names, x.2 ≠ .cell) : codeC (model prog w) A (.call (.ref f) args) R s := by
  have X := X₀.keeps F.keep
  obtain ⟨FG, BG, st, lv⟩ := groundX (R := R) B F N hA hf hke
  refine codeC_call_function hroom (X _ _ ho) rfl hco hgen rfl (codeRec_of X hcd) (hbind _ _ _ _ ?_)
  refine wpAny_newFunctionEnv hcell hloc (fun h₁ hns hsb => ?_) hk
  have hk₁ : ∀ b o, s.heap.get? b = some o → h₁.get? b = some o := fun b o e => hsb.extBut b o (Nat.ne_of_lt (Heap.lt_size e)) (Heap.get?_push_of_some _ e)
  refine ⟨(T.nolimit.keeps F.keep).fresh _ hsb, codeC_func ?_⟩
  exact wpC_mono (h _ s.heap.objs.size h₁ FG ⟨hns, fun b o e => hk₁ b o (of_hideAll _ e), Nat.le_of_eq (hideAll_size _ _)⟩
    (fun p hp => ⟨hk₁ _ _ (N p hp).1, Nat.ne_of_lt (Heap.lt_size (N p hp).1), hideAll_none _ (List.mem_map_of_mem hp)⟩) BG (X₀.keeps st) (T.keeps st)) (fun fl s' hl => lv _ _ hl) fun _ _ y => y
end

theorem wpC_letA {α : Type} {M : Model} {A : Around} {t : Sem α} {Q : α → Shared → Prop} {E : Value → Shared → Prop} {s : Shared} (h : let ak := A; wpC M ak t Q E s) : wpC M A t Q E s := h
theorem wpC_letE {α : Type} {M : Model} {A : Around} {t : Sem α} {Q : α → Shared → Prop} {E : Value → Shared → Prop} {s : Shared} (h : let ek := E; wpC M A t Q ek s) : wpC M A t Q E s := h
theorem wpC_letQ {α : Type} {M : Model} {A : Around} {t : Sem α} {Q : α → Shared → Prop} {E : Value → Shared → Prop} {s : Shared} (h : let qk := Q; wpC M A t qk E s) : wpC M A t Q E s := h
abbrev baO (b : Array UInt8) : Obj := { cls := .type "bytearray", data := .bytearray b 0 }
theorem take_eq {id : String} {b : Array UInt8} {t : Tok} : Builtin.Bytes.takeBufferQuiet? id (.bytes b t) 0 = pure (some (b, none)) := by
  have e : Builtin.Bytes.takeBuffer? id (.bytes b t) 0 = pure (some (b, none)) := by
    unfold Builtin.Bytes.takeBuffer?
    rw [KBy.special_eq KBy.look_buffer, KBy.own_buffer]
    simp only [pure_bind, Bool.not_true, Bool.false_eq_true, if_false]
    rw [show ((0 : Int) == Builtin.Bytes.fullReadOnly) = false by decide, KBy.buffer_eq]
    rfl
  unfold Builtin.Bytes.takeBufferQuiet?
  rw [e]
  rfl
section
variable {prog : Program} {w : World} {A : Around} {s : Shared} {E : Value → Shared → Prop}
theorem wpC_checkResize {BA : Addr} {b0 : Array UInt8} {Q : Unit → Shared → Prop} (hg : A.guards = some []) (ho : s.heap.get? BA = some (baO b0)) (h : Q () s) : wpC (model prog w) A (Builtin.Bytes.checkResize (.ref BA)) Q E s := by
  unfold Builtin.Bytes.checkResize
  refine wpC_bind (wpC_bind (nd_exported hg ?_))
  show wpC _ _ (Builtin.Bytes.exportsOf (.ref BA) >>= fun n => pure (decide (n > 0))) _ E s
  refine wpC_step (wpAny_bind (wpAny_load ho (wpAny_pure (wpC_pure ?_))))
  exact wpC_pure h
theorem ext_tree {BA : Addr} {b0 b : Array UInt8} {t : Tok} {Q : Fin → Shared → Prop} (hg : A.guards = some []) (ho : s.heap.get? BA = some (baO b0)) (hz : b0.size + b.size ≤ 1000)
    (h : Q (.done (.ret .none)) { s with heap := s.heap.update BA (Obj.mapBytearray (· ++ b)) }) :
    wpC (model prog w) A (Builtin.«bytearray.extend» ⟨[.ref BA, .bytes b t], []⟩) Q E s := by
  unfold Builtin.«bytearray.extend»
  show wpC _ _ (specialOf (.bytes b t) "__buffer__" >>= fun r => _) _ _ s
  refine wpC_step ?_
  rw [KBy.special_eq KBy.look_buffer]
  refine wpAny_pure ?_
  refine wpC_step (wpAny_pure ?_)
  simp only [Option.isSome_some, if_true]
  refine wpC_step (wpAny_rule ?_)
  have hp : ∀ {α : Type} {f : Array UInt8 → Sem α} {Q' : α → Shared → Prop}, wpC (model prog w) A (f b0) Q' E s → wpC (model prog w) A (Builtin.Bytes.payload (.ref BA) >>= f) Q' E s := by
    intro α f Q' h'
    refine wpC_step ?_
    unfold Builtin.Bytes.payload Builtin.Bytes.payload?
    exact wpAny_bind (wpAny_bind (wpAny_load ho (wpAny_pure (wpAny_pure h'))))
  refine hp ?_
  rw [take_eq]
  refine wpC_step (wpAny_pure ?_)
  show wpC _ _ (if (!b.isEmpty) = true then (Builtin.Bytes.checkResize (.ref BA) >>= fun _ => (Builtin.Bytes.write (.ref BA) (· ++ b) >>= fun _ => ret .none)) else (Builtin.Bytes.write (.ref BA) (· ++ b) >>= fun _ => ret .none)) Q E s
  have fin : wpC (model prog w) A (Builtin.Bytes.write (.ref BA) (· ++ b) >>= fun _ => ret .none) Q E s := by
    refine wpC_of (wpAny_bind ?_)
    show wpAny _ _ (updateBytearray BA (· ++ b)) _ _ _
    unfold updateBytearray
    refine wpAny_bind (wpAny_load ho ?_)
    refine wpAny_bind (wpAny_update ho (wpAny_lookBehind (o := baO (b0 ++ b)) (Heap.get?_update_self _ ho rfl) ?_ (wpAny_pure h)))
    show (if (b0 ++ b).size > sizeLine then some "bytearray:memory" else none) = none
    rw [if_neg]
    rw [sizeLine_eq, Array.size_append]; omega
  by_cases hb : (!b.isEmpty) = true
  · rw [if_pos hb]; exact wpC_bind (wpC_checkResize hg ho fin)
  · rw [if_neg hb]; exact fin
end
section
variable {M : Model} {A : Around} {E : Value → Shared → Prop} {s : Shared}
theorem wpC_keep {α : Type} {vs : List Value} {m : Sem α} {Q : α → Shared → Prop} (h : wpC M A m Q E s) : wpC M A (m.keep vs) Q E s := fun Γ p hΓ hn => by rw [Sem.wp_keep]; exact h Γ p hΓ hn
theorem wpC_tail {t : Sem Value} {Q : Value → Shared → Prop} (h : wpC M A t Q E s) : wpC M A (t >>= fun r => holding [r] point >>= fun _ => pure r) Q E s :=
  wpC_bind (wpC_mono h (fun _ _ hr => wpC_step (wpAny_holding (wpAny_point (wpC_pure hr)))) fun _ _ x => x)
theorem callWithC_of {P : Heap → Prop} {pos : Pos} {f : Value} {first : List Value} {args : List (Bool × Sem Value)} {keywords : List (Option Str × Sem Value)} {Q : Value → Shared → Prop} (hplain : (args.any (·.1) || keywords.any (·.1.isNone)) = false)
    (hk : ∀ h, P h → ∃ k, (k = Keeper.frame ∨ k = Keeper.machine ∨ k = Keeper.boundFrame) ∧ Looks M h (keeperOf f) k)
    (h : wpAny M A (evalArgs f true args keywords) (fun a s₁ => P s₁.heap ∧ wpC M A (call f (first ++ a.pos) a.kw) Q E s₁) E s) : wpC M A (callWith pos f first args keywords) Q E s := by
  unfold callWith
  refine wpC_bind (wpC_holding (wpC_of (wpAny_mono h (fun a s₁ h₁ => wpC_step (wpAny_standAt ?_)) fun _ _ x => x)))
  obtain ⟨k, hk', L⟩ := hk _ h₁.1
  simp only [hplain]
  refine wpC_step (L.here ?_)
  have marked (mk : Value) : wpC M A (callMarked mk f (first ++ a.pos) a.kw) Q E s₁ := by unfold callMarked; exact wpC_keep h₁.2
  rcases hk' with rfl | rfl | rfl <;> dsimp only <;> first | exact wpC_tail h₁.2 | (split <;> first | exact wpC_tail h₁.2 | exact wpC_tail (marked _))
theorem methodCallC {env : Env} {o : Expr} {name : Str} {apos pos : Pos} {args : List Expr} {kws : List Keyword} {pl : Sem Bool} {Q : Value → Shared → Prop}
    (h : wpAny M A (eval o env) (fun ov s₁ => wpAny M A (getMethod ov name pl) (fun fx s₂ => wpC M A (callWith pos fx.1 fx.2 (backTo pos (starEach args env)) (backToKw pos (keywordEach kws env))) Q E s₂) E s₁) E s)
    (he : eval (.Call (.Attribute o name apos) args kws pos) env = (do
      let ov ← eval o env
      standAt apos.atName
      let (f, first) ← holding [ov] (getMethod ov name pl)
      callWith pos f first (backTo pos (starEach args env)) (backToKw pos (keywordEach kws env))) := by rfl) :
    wpC M A (eval (.Call (.Attribute o name apos) args kws pos) env) Q E s := by
  rw [he]
  exact wpC_step (wpAny_mono h (fun ov s₁ h₁ => wpC_step (wpAny_standAt (wpC_step (wpAny_holding (wpAny_mono h₁ (fun fx s₂ h₂ => h₂) fun _ _ x => x))))) fun _ _ x => x)
theorem nameCallC {env : Env} {x : Str} {p pos : Pos} {args : List Expr} {kws : List Keyword} {Q : Value → Shared → Prop}
    (h : wpAny M A (eval (.Name x p) env) (fun f s₁ => wpC M A (callWith pos f [] (backTo pos (starEach args env)) (backToKw pos (keywordEach kws env))) Q E s₁) E s) :
    wpC M A (eval (.Call (.Name x p) args kws pos) env) Q E s := wpC_step h
end
section
variable {prog : Program} {w : World} {A : Around} {E : Value → Shared → Prop} {s : Shared}
theorem codeC_call_builtin {id : String} {args : Args} {b : Builtin} {R : Result → Shared → Prop} (hq : plainId id = true) (hd : Builtin.Bytes.decodersThatHold.contains id = false) (hb : entryFor table id = some b)
    (h : wpAny (model prog w) A.in1 (checkBuiltinCall id args) (fun _ s₁ => wpC (model prog w) A.in1 (b args)
      (fun fin s' => match fin with | .done f => R (.ok f) s' | .again c' => c'.quiet = true ∧ decd c' = false ∧ codeC (model prog w) A c' R s') (fun e s' => R (.error e) s') s₁)
      (fun e s' => R (.error e) s') s) : codeC (model prog w) A (.call (.builtin id) args) R s := by
  refine codeC_of_tree ?_
  show wpC _ A.in1 (do checkBuiltinCall id args; again (.builtin id args)) _ _ s
  refine wpC_step (wpAny_mono h (fun _ s₁ h₁ => wpC_pure (And.intro (plainId_quiet hq args) ⟨hd, codeC_of_tree ?_⟩)) fun _ _ h' => h')
  show wpC _ _ (match entryFor table id with | some b => b args | none => unsupported ((withoutEnding? id "#data").getD id)) _ _ s₁
  rw [hb, Around.under_plainId hq args]; exact h₁
theorem slot_ba_extend : Slot "bytearray" "extend" "bytearray.extend" :=
  .of (owner := "bytearray") (n := "extend") (by rw [typeLookup_type, builtinLookup_eq_fast]; kernel_rfl) (by decide +kernel) (by decide +kernel) (by decide +kernel)
    (by first | exact .inl (by decide +kernel) | exact .inr (by decide +kernel)) (by rw [isSubtype_type]; kernel_rfl)
theorem entry_ba_extend : entryFor table "bytearray.extend" = some Builtin.«bytearray.extend» := entryFor_of_tree (by kernel_rfl)
theorem args_ba_extend (a b : Value) : argsOk "bytearray.extend" ⟨[a, b], []⟩ := by unfold argsOk; kernel_rfl
theorem call_extend {BA : Addr} {b0 b : Array UInt8} {t : Tok} {Q : Value → Shared → Prop} (hg : A.guards = some []) (ho : s.heap.get? BA = some (baO b0)) (hz : b0.size + b.size ≤ 1000)
    (h : Q .none { s with heap := s.heap.update BA (Obj.mapBytearray (· ++ b)) }) : wpC (model prog w) A (call (.builtin "bytearray.extend") [.ref BA, .bytes b t]) Q E s := by
  refine wpC_call (codeC_call_builtin slot_ba_extend.plain (by decide +kernel) entry_ba_extend ?_)
  exact slot_ba_extend.check _ _ _ _ _ _ _ _ ⟨_, ho, rfl⟩ (args_ba_extend _ _) (ext_tree hg ho hz h)
end
section
variable {M : Model} {A : Around} {E : Value → Shared → Prop} {s : Shared} {env : Env}
theorem execsC_cons {st : Stmt} {rest : List Stmt} {Q : Flow → Shared → Prop} (h : wpC M A (exec st env) (fun f s' => match f with | .next => wpC M A (execs rest env) Q E s' | f => Q f s') E s) : wpC M A (execs (st :: rest) env) Q E s := fun Γ p hΓ hn => by
  rw [execs_cons, Sem.wp_bind']
  refine Sem.wp_mono M Γ _ (fun f p' s' h' => ?_) (fun _ _ _ h' => h') _ _ (h Γ p hΓ hn)
  cases f <;> first | exact h' Γ p' hΓ hn | exact h'
theorem exprC {e : Expr} {pos : Pos} {Q : Flow → Shared → Prop} (h : wpC M A (eval e env) (fun v s' => match v with | .ref _ => False | _ => Q .next s') E s)
    (hi : interactive env = false := by rfl) (hs : swapsWith e none pos.line env = pure false := by rfl) : wpC M A (exec (.Expr e pos) env) Q E s := by
  rw [exec_Expr env e pos hi hs]
  refine wpC_step (wpAny_standAt (wpC_bind (wpC_mono h (fun v s' h' => ?_) fun _ _ x => x)))
  have hv : ∀ a, v ≠ .ref a := fun a hva => by subst hva; exact h'
  rw [dropValue_plain hv]
  refine wpC_pure ?_
  cases v <;> first | exact h' | exact (hv _ rfl).elim
theorem ifC {test : Expr} {body orelse : List Stmt} {pos : Pos} {Q : Flow → Shared → Prop}
    (h : wpC M A (isTrue test env (eval test env)) (fun b s₂ => if b then wpC M A (execs body env) Q E s₂ else wpC M A (execs orelse env) Q E s₂) E s) : wpC M A (exec (.If test body orelse pos) env) Q E s := fun Γ p hΓ hn => by
  simp only [exec_If, Sem.wp_bind', Sem.wp_cmd_standAt]
  refine Sem.wp_mono M Γ _ (fun b p₂ s₂ h₂ => ?_) (fun _ _ _ h' => h') _ _ (h Γ _ hΓ hn)
  cases b <;> exact h₂ Γ p₂ hΓ hn
theorem tryC {body orelse : List Stmt} {h₀ : ExceptHandler} {hs : List ExceptHandler} {pos : Pos} {Q : Flow → Shared → Prop}
    (h : wpC M A (execs body env) (fun f s₁ => match f with | .next => wpC M A (execs orelse env) Q E s₁ | f => Q f s₁)
      (fun e s₁ => wpAny M A (noteFrame e env) (fun _ s₂ => wpAny M A (setFlight e none) (fun _ s₃ => wpAny M A (handleBy e env (h₀ :: hs)) Q E s₃) E s₂) E s₁) s) :
    wpC M A (exec (.Try body (h₀ :: hs) orelse [] pos) env) Q E s := by
  rw [arm_exec_Try]
  refine wpC_step (wpAny_standAt ?_)
  unfold tryStmt
  simp only [List.isEmpty_nil, if_true, List.isEmpty_cons, Bool.false_and, Bool.false_eq_true, if_false]
  refine wpC_bind (wpC_attempt (wpC_mono h (fun f s₁ h₁ => ?_) fun e s₁ h₁ => ?_))
  · cases f <;> first | exact h₁ | exact wpC_pure h₁
  · exact wpC_of (wpAny_bind (wpAny_mono h₁ (fun _ _ h₂ => wpAny_bind h₂) fun _ _ x => x))
end
theorem plainAttrs_ba : PlainAttrs "bytearray" :=
  ⟨⟨"bytearray.__getattribute__", by rw [typeLookup_type, builtinLookup_eq_fast]; kernel_rfl, by decide +kernel⟩, by rw [typeLookup_type, builtinLookup_eq_fast]; kernel_rfl⟩
theorem type_ba_extend : typeOf (.builtin "bytearray.extend") = pure (.type "method_descriptor") := by show builtinType _ = _; rw [builtinType_eq_fast]; kernel_rfl
section
variable {prog : Program} {w : World} {A : Around} {E : Value → Shared → Prop} {s : Shared} {h₀ : Heap} {L BA : Addr} {m : Str → Option Value} {news news' : List (Addr × Obj)} {b0 : Array UInt8}
theorem baMethod {pl : Sem Bool} {Q : Value × List Value → Shared → Prop} (N : News h₀ L s.heap news) (hm : (BA, baO b0) ∈ news) (h : Q (.builtin "bytearray.extend", [.ref BA]) s) :
    wpAny (model prog w) A (getMethod (.ref BA) (Str.ofString "extend") pl) Q E s :=
  getMethod_builtin ⟨_, (N _ hm).1, rfl⟩ plainAttrs_ba slot_ba_extend type_ba_extend (fun a e => by cases e; exact ⟨_, (N _ hm).1, rfl⟩) h
theorem extendK {b : Array UInt8} {t : Tok} {Q : Value → Shared → Prop} (F : Fr h₀ L s.heap m) (N : News h₀ L s.heap news) (U : Upd BA (baO b0) (baO (b0 ++ b)) news news') (hg : A.guards = some []) (hz : b0.size + b.size ≤ 1000)
    (h : ∀ h', Fr h₀ L h' m → News h₀ L h' news' → Q .none { s with heap := h' }) : wpC (model prog w) A (call (.builtin "bytearray.extend") [.ref BA, .bytes b t]) Q E s := by
  obtain ⟨pre, post, rfl, rfl, a, b'⟩ := U.split
  have z := N (BA, baO b0) (List.mem_append.mpr (.inr (.head _)))
  refine call_extend hg z.1 hz (h _ (F.change (Heap.SameBut.update ..) z.2.1 z.2.2) (news_set N a b' (Heap.SameBut.update ..) (Heap.get?_update_self _ z.1 rfl)))
theorem callWithC_builtin {env : Env} {pos : Pos} {id : String} {first : List Value} {e : Expr} {Q : Value → Shared → Prop}
    (h : wpAny (model prog w) A (eval e env) (fun v s₁ => wpC (model prog w) A (call (.builtin id) (first ++ [v])) Q E s₁) E s)
    (he : backTo pos (starEach [e] env) = [(false, eval e env)] := by rfl) : wpC (model prog w) A (callWith pos (.builtin id) first (backTo pos (starEach [e] env)) (backToKw pos (keywordEach [] env))) Q E s := by
  rw [he]
  exact callWithC_of (P := fun _ => True) rfl (fun h _ => ⟨.machine, .inr (.inl rfl), Looks.of_pure rfl⟩) (Calls.evalArgs_plain (Calls.spliced_cons (wpAny_mono h (fun _ _ h₁ => Calls.spliced_nil ⟨trivial, h₁⟩) fun _ _ e => e)))
end
theorem bed_size (n : Int) (c : Nat) : (byteArr (beD n c)).size = c := by rw [← KBw.ints_length, KBa.ints_make (beP_in n c c), beP_len]
section
variable {prog : Program} {w : World} {A₀ A : Around} {s : Shared} {base h₀ g₀ : Heap} {L : Addr} {m : Str → Option Value} {env : Env} {news : List (Addr × Obj)} {K : Frag} {p : Program} {loose : List Str} {mean : ExcName → Option Value} {mg mb : Str → Option Value}
    {R : Result → Shared → Prop} {name qual : Str} {params : Arguments} {body : List Stmt} {scope : Scope} {dV kV doc pm cdv ct oc : Value} {an od : Option Addr} {osl : Array (Option Value)} {f : Addr} {args : Args} {binds : List (Str × Value)}
/-- entering a def whose body catches, from a frame at the bottom: the ground of the caller and how it comes back -/
theorem ksx_enter (B : Below A₀ base [] h₀) (F : Fr h₀ L s.heap m) (N : News h₀ L s.heap news) (hA : A.frames = some [env]) (hf : env.frame = some L) (hke : env.scope.kind = .function) :
    Fr h₀ L (hideAll s.heap (news.map (·.1))) m ∧ Below A base [env] (hideAll s.heap (news.map (·.1))) ∧ h₀.StaysIn (hideAll s.heap (news.map (·.1))) ∧
      ∀ v s', LeaveS0 ([env].filterMap (·.frame)) h₀ L m (hideAll s.heap (news.map (·.1))) R v s' → R (.ok (.ret v)) s' := by
  obtain ⟨FG, BG, st, _⟩ := groundX (R := R) B F N hA hf hke
  refine ⟨FG, BG, st, fun v s' hl => ?_⟩
  obtain ⟨g', L', m', news', T', F', N', k⟩ := hl
  have hfm : [env].filterMap (·.frame) = [L] := by simp [hf]
  rw [hfm] at T'
  have nL₀ : h₀.get? L = none := kts_self F
  obtain ⟨oL, es, ep, hL, hLd, hLk, hLf⟩ := FG.ns
  obtain ⟨sl, hs⟩ := T'.up hL
  refine k ⟨⟨_, es, ep, F'.keep _ _ hs, hLd, hLk, hLf⟩, fun b o e => F'.keep b o (T'.other b o (st b o e) (fun q => by
    rw [List.mem_singleton.mp q, nL₀] at e
    cases e)), F.above⟩ fun p hp => ⟨(N' p hp).1, fun q => ?_, ?_⟩
  · have := (N' p hp).2.2; rw [q, hs] at this; cases this
  · cases q : h₀.get? p.1 with
    | none => rfl
    | some o =>
      obtain ⟨sl', hs'⟩ := T'.up (st _ _ q)
      have := (N' p hp).2.2
      rw [hs'] at this
      cases this
theorem codeA_defS (B : Below A₀ base [] h₀) (F : Fr h₀ L s.heap m) (X₀ : K.In h₀) (N : News h₀ L s.heap news) (T : Top p loose mean mg mb h₀) (hA : A.frames = some [env]) (hf : env.frame = some L) (hke : env.scope.kind = .function)
    (ho : K.lookup f = some ⟨oc, od, .func (fnOf name qual params body scope dV kV doc pm an cdv ct), osl⟩) (hcd : codeIn K cdv qual = true) (hroom : A.depth < recursionLimit)
    (hbind : BindsTo s (fnOf name qual params body scope dV kV doc pm an cdv ct) args binds) (hloc : ∀ y ∈ binds, scope.names.lookup y.1 = some .local)
    (h : ∀ g L' h₁, Fr h₀ L g m → Fr g L' h₁ (fun y => binds.reverse.lookup y) → News g L' h₁ news → Below A base [env] g → K.In g → Top p loose mean mg mb g →
      wpAny (model prog w) (A.deeper (envOf qual scope L' f cdv)) (execs body (envOf qual scope L' f cdv))
        (fun fl s' => LeaveS0 ([env].filterMap (·.frame)) h₀ L m g R (match fl with | .ret v => v | _ => .none) s')
        (fun e s' => wpAny (model prog w) (A.deeper (envOf qual scope L' f cdv)) (leaving (envOf qual scope L' f cdv) e) (fun _ s'' => R (.error e) s'') (fun e' s'' => R (.error e') s'') s')
        { s with heap := h₁, toks := s.toks + binds.length })
    (hco : scope.isCoroutine = false) (hgen : scope.isGenerator = false) (hk : scope.kind = .function)
    (hcell : ∀ x ∈ scope.names, x.2 ≠ .cell) : codeAny (model prog w) A (.call (.ref f) args) R s := by
  have X := X₀.keeps F.keep
  obtain ⟨FG, BG, st, lv⟩ := ksx_enter (R := R) B F N hA hf hke
  refine codeAny_call_def (fd := fnOf name qual params body scope dV kV doc pm an cdv ct) (body := body) (binds := binds) hroom (X _ _ ho) rfl (T.nolimit.keeps F.keep) (codeRec_of X hcd) rfl hbind hcell hloc (fun h₁ hns hk₁ => ?_) hco hgen hk
  exact wpAny_mono (h _ s.heap.objs.size h₁ FG ⟨hns, fun b o e => hk₁ b o (of_hideAll _ e), Nat.le_of_eq (hideAll_size _ _)⟩
    (fun p hp => ⟨hk₁ _ _ (N p hp).1, Nat.ne_of_lt (Heap.lt_size (N p hp).1), hideAll_none _ (List.mem_map_of_mem hp)⟩) BG (X₀.keeps st) (T.keeps st)) (fun fl s' hl => lv _ _ hl) fun _ _ y => y
theorem codeC_defS (B : Below A₀ base [] h₀) (F : Fr h₀ L s.heap m) (X₀ : K.In h₀) (N : News h₀ L s.heap news) (T : Top p loose mean mg mb h₀) (hA : A.frames = some [env]) (hf : env.frame = some L) (hke : env.scope.kind = .function)
    (ho : K.lookup f = some ⟨oc, od, .func (fnOf name qual params body scope dV kV doc pm an cdv ct), osl⟩) (hcd : codeIn K cdv qual = true) (hroom : A.depth < recursionLimit)
    (hbind : BindsTo s (fnOf name qual params body scope dV kV doc pm an cdv ct) args binds) (hloc : ∀ y ∈ binds, scope.names.lookup y.1 = some .local)
    (h : ∀ g L' h₁, Fr h₀ L g m → Fr g L' h₁ (fun y => binds.reverse.lookup y) → News g L' h₁ news → Below A base [env] g → K.In g → Top p loose mean mg mb g →
      wpC (model prog w) (A.deeper (envOf qual scope L' f cdv)) (execs body (envOf qual scope L' f cdv))
        (fun fl s' => LeaveS0 ([env].filterMap (·.frame)) h₀ L m g R (match fl with | .ret v => v | _ => .none) s')
        (fun e s' => wpAny (model prog w) (A.deeper (envOf qual scope L' f cdv)) (leaving (envOf qual scope L' f cdv) e) (fun _ s'' => R (.error e) s'') (fun e' s'' => R (.error e') s'') s')
        { s with heap := h₁, toks := s.toks + binds.length })
    (hco : scope.isCoroutine = false) (hgen : scope.isGenerator = false) (hk : scope.kind = .function)
    (hcell : ∀ x ∈ scope.names, x.2 ≠ .cell) : codeC (model prog w) A (.call (.ref f) args) R s := by
  have X := X₀.keeps F.keep
  obtain ⟨FG, BG, st, lv⟩ := ksx_enter (R := R) B F N hA hf hke
  refine codeC_call_function hroom (X _ _ ho) rfl hco hgen rfl (codeRec_of X hcd) (hbind _ _ _ _ ?_)
  refine wpAny_newFunctionEnv hcell hloc (fun h₁ hns hsb => ?_) hk
  have hk₁ : ∀ b o, s.heap.get? b = some o → h₁.get? b = some o := fun b o e => hsb.extBut b o (Nat.ne_of_lt (Heap.lt_size e)) (Heap.get?_push_of_some _ e)
  refine ⟨(T.nolimit.keeps F.keep).fresh _ hsb, codeC_func ?_⟩
  exact wpC_mono (h _ s.heap.objs.size h₁ FG ⟨hns, fun b o e => hk₁ b o (of_hideAll _ e), Nat.le_of_eq (hideAll_size _ _)⟩
    (fun p hp => ⟨hk₁ _ _ (N p hp).1, Nat.ne_of_lt (Heap.lt_size (N p hp).1), hideAll_none _ (List.mem_map_of_mem hp)⟩) BG (X₀.keeps st) (T.keeps st)) (fun fl s' hl => lv _ _ hl) fun _ _ y => y
end
theorem subCallC {M : Model} {A : Around} {E : Value → Shared → Prop} {s : Shared} {env : Env} {o i : Expr} {p pos : Pos} {args : List Expr} {kws : List Keyword} {Q : Value → Shared → Prop}
    (h : wpAny M A (eval (.Subscript o i p) env) (fun f s₁ => wpC M A (callWith pos f [] (backTo pos (starEach args env)) (backToKw pos (keywordEach kws env))) Q E s₁) E s) :
    wpC M A (eval (.Call (.Subscript o i p) args kws pos) env) Q E s := wpC_step h
theorem callWithC_M {M : Model} {A : Around} {E : Value → Shared → Prop} {s : Shared} {env : Env} {K : Frag} {h₀ : Heap} {L q g : Addr} {self : Value} {news : List (Addr × Obj)} {pos : Pos} {e : Expr} {Q : Value → Shared → Prop}
    (_N : News h₀ L s.heap news) (_q : (q, methodObj (.ref g) self) ∈ news) (hf : fnIn K g = true)
    (h : wpAny M A (eval e env) (fun v s₁ => MethP K q g self s₁.heap ∧ wpC M A (call (.ref q) [v]) Q E s₁) E s)
    (he : backTo pos (starEach [e] env) = [(false, eval e env)] := by rfl) : wpC M A (callWith pos (.ref q) [] (backTo pos (starEach [e] env)) (backToKw pos (keywordEach [] env))) Q E s := by
  rw [he]
  exact callWithC_of (P := MethP K q g self) rfl (keeps_M hf) (Calls.evalArgs_plain (Calls.spliced_cons (wpAny_mono h (fun _ _ h₁ => Calls.spliced_nil h₁) fun _ _ e => e)))
theorem call_methC {prog : Program} {w : World} {A : Around} {E : Value → Shared → Prop} {s : Shared} {q : Addr} {f self : Value} {pos : List Value} {Q : Value → Shared → Prop} {h₀ : Heap} {L : Addr} {news : List (Addr × Obj)} (N : News h₀ L s.heap news) (hq : (q, methodObj f self) ∈ news)
    (h : codeC (model prog w) A (.call f ⟨self :: pos, []⟩) (fun r s' => match r with | .ok (.ret v) => Q v s' | .ok _ => False | .error e => E e s') s) : wpC (model prog w) A (call (.ref q) pos) Q E s := by
  refine wpC_call (codeC_of_tree (wpC_of ?_))
  obtain ⟨hh, g, dr, t, os⟩ := s
  show wpAny _ _ (callAny (.ref q) _) _ _ _
  have ho := (N _ hq).1
  dsimp only at ho
  refine nd_load ho ?_
  cases f <;> exact wpAny_pure ⟨rfl, rfl, h⟩
section
variable {prog : Program} {w : World} {A : Around} {s : Shared}
theorem codeC_forLoop {R : Result → Shared → Prop} {target : Expr} {it : Value} {body : List Stmt} {env : Env} (I : Nat → Shared → Prop)
    (turn : ∀ n s, I n s → wpAny (model prog w) A (pyNext it) (fun r s₁ => match r with
      | none => R (.ok .next) s₁
      | some v => wpAny (model prog w) A (assign target env v) (fun _ s₂ => wpC (model prog w) A (execs body env) (fun f s₃ => match f with
          | .next | .cont => ∃ m, m < n ∧ I m s₃
          | .brk => R (.ok .next) s₃
          | .ret v => R (.ok (.ret v)) s₃) (fun _ _ => False) s₂) (fun _ _ => False) s₁) (fun _ _ => False) s)
    (ht : ∀ v, letOwnedTupleGo target it v = pure () := by intro _; rfl) : ∀ (n : Nat) (s : Shared), I n s → codeC (model prog w) A (.forLoop target it body [] env) R s := by
  intro n
  induction n using Nat.strongRecOn with
  | _ n ih =>
    intro s h
    refine codeC_of_tree ?_
    show wpC _ A ((forTurn target it body [] env).onRaise (fun x => do noteFrame x env; theTreesLotGoes x)) _ _ s
    refine wpC_onRaise (wpC_mono (E := fun _ _ => False) ?_ (fun _ _ q => q) fun _ _ q => q.elim)
    simp only [forTurn]
    refine wpC_step (wpAny_standAt (wpC_step (wpAny_onRaise (wpAny_mono (turn n s h) (fun r s₁ h₁ => ?_) fun _ _ q => q.elim))))
    cases r with
    | none =>
      refine wpC_pure ⟨rfl, rfl, codeC_of (codeAny_block (wpAny_execs_nil h₁))⟩
    | some v =>
      refine wpC_step (wpAny_of_eq (ht v) ?_)
      refine wpC_step (wpAny_mono h₁ (fun _ s₂ h₂ => wpC_bind (wpC_mono h₂ (fun f s₃ h₃ => ?_) fun _ _ q => q)) fun _ _ q => q)
      cases f with
      | next => obtain ⟨m, hm, hi⟩ := h₃; exact wpC_pure ⟨rfl, rfl, ih m hm s₃ hi⟩
      | cont => obtain ⟨m, hm, hi⟩ := h₃; exact wpC_pure ⟨rfl, rfl, ih m hm s₃ hi⟩
      | brk => exact wpC_pure h₃
      | ret v => exact wpC_pure h₃
end
section
variable {prog : Program} {w : World} {A : Around} {E : Value → Shared → Prop} {s : Shared}
theorem forC_gen {target iter : Expr} {body : List Stmt} {env : Env} {pos : Pos} {Q : Flow → Shared → Prop}
    (h : wpAny (model prog w) A (eval iter env) (fun x s₁ => wpAny (model prog w) A (pyIter x) (fun it s₂ =>
      codeC (model prog w) A (.forLoop target it body [] env) (fun r s' => match r with | .ok f => Q f s' | .error _ => False) s₂) E s₁) E s)
    (hs : ∀ x, foldedSetIterable iter env x = pure x := by intro _; rfl) : wpC (model prog w) A (exec (.For target iter body [] pos) env) Q E s := by
  rw [PySem.exec_For]
  refine wpC_step (wpAny_standAt (wpC_step (wpAny_mono h (fun x s₁ h₁ => wpC_step (wpAny_of_eq (hs x) (wpC_step (wpAny_standAt (wpC_step (wpAny_holding (wpAny_mono h₁ (fun it s₂ h₂ => ?_) fun _ _ q => q))))))) fun _ _ q => q)))
  unfold runOwn
  refine wpC_onRaise (wpC_run rfl (codeC_mono h₂ fun r s' q => ?_))
  cases r with
  | ok f => exact q
  | error e => exact q.elim
/-- a range walked at wpC by an own invariant over the turn's number, the frame's map and the ledger -/
theorem loopC_range {env : Env} {x : Str} {px : Pos} {body : List Stmt} {Q : Flow → Shared → Prop} {h₀ : Heap} {L I : Addr} {m₀ : Str → Option Value} {news : List (Addr × Obj)} {ra rc : Int} {n : Nat}
    (J : Nat → (Str → Option Value) → List (Addr × Obj) → Prop) (hh : A.handled = none) (hL : env.locals = L) (hx : env.kindOf x = some .local)
    (hp : (env.scope.kind == .class || (env.scope.kind == .module && env.locals != env.globals)) = false)
    (W : Walks prog w A I [I] [I] n (fun i v => ∃ t, v = .int (ra + i * rc) t) (fun i h => IsRangeIter h I (ra + i * rc) (n - i) rc)) (hst : IsRangeIter s.heap I ra n rc) (hI₀ : h₀.get? I = none) (hIL : L ≠ I)
    (F : Fr h₀ L s.heap m₀) (N : News h₀ L s.heap news) (hoff : ∀ p ∈ news, p.1 ≠ I) (h0 : J 0 m₀ news)
    (turn : ∀ i t m₁ nw oI h tk, i < n → oI.cls = .type "range_iterator" → J i m₁ nw → (∀ p ∈ nw, p.1 ≠ I) → Fr h₀ L h (fun y => if y = x then some (.int (ra + i * rc) t) else m₁ y) → News h₀ L h ((I, oI) :: nw) →
      wpC (model prog w) A (execs body env) (TurnEnd h₀ L (J (i + 1)) I oI { s with heap := h, toks := tk } Q) (fun _ _ => False) { s with heap := h, toks := tk })
    (done : ∀ m₁ nw h tk, J n m₁ nw → Fr h₀ L h m₁ → News h₀ L h nw → Q .next { s with heap := h, toks := tk }) :
    codeC (model prog w) A (.forLoop (.Name x px) (.ref I) body [] env) (fun r s' => match r with | .ok f => Q f s' | .error _ => False) s := by
  subst hL
  have nLI : env.locals ∉ [I] := fun q => hIL (List.mem_singleton.mp q)
  refine codeC_forLoop (fun k s' => ∃ h' tk m' nw i, s' = { s with heap := h', toks := tk } ∧ IsRangeIter h' I (ra + (i : Nat) * rc) ((n : Int) - (i : Nat)) rc ∧ Fr h₀ env.locals h' m' ∧ News h₀ env.locals h' nw ∧ (∀ p ∈ nw, p.1 ≠ I) ∧ J i m' nw ∧ i ≤ n ∧ k = n + 1 - i) ?_ (by intro _; rfl) (n + 1) s
    ⟨s.heap, s.toks, m₀, news, 0, rfl, by simpa using hst, F, N, hoff, h0, Nat.zero_le _, rfl⟩
  rintro k s' ⟨h', tk, m', nw, i, rfl, hst', F', N', ho', hJ, hi, rfl⟩
  have next : ∀ h₁ : Heap, (∀ b o, b ∉ [I] → h'.get? b = some o → h₁.get? b = some o) → Fr h₀ env.locals h₁ m' ∧ News h₀ env.locals h₁ nw := fun h₁ hk₁ =>
    ⟨⟨F'.ns.at' fun o e => hk₁ _ o nLI e, fun b o e => hk₁ b o (fun q => by rw [List.mem_singleton.mp q, hI₀] at e; cases e) (F'.keep b o e), F'.above⟩, fun p hp => ⟨hk₁ _ _ (fun q => ho' p hp (List.mem_singleton.mp q)) (N' p hp).1, (N' p hp).2⟩⟩
  by_cases hlt : i < n
  · refine W.item i _ _ _ hlt hst' fun v h₁ tk₁ hP hst₁ hk₁ => ?_
    obtain ⟨t, rfl⟩ := hP
    obtain ⟨F₁, N₁⟩ := next h₁ hk₁
    refine wpAny_assign_Name (wpAny_storeName_local hx F₁.ns (fun h₂ hn₂ hs₂ => ?_) hp)
    have F₂ := F₁.set hn₂ hs₂
    have hst₂ : IsRangeIter h₂ I (ra + ((i + 1 : Nat) : Int) * rc) ((n : Int) - ((i + 1 : Nat) : Int)) rc := W.frame (i + 1) _ _ hst₁ fun b hb o e => (hs₂.2 b fun q => nLI (q ▸ hb)).trans e
    obtain ⟨oI, eI, hcl, back⟩ : ∃ o : Obj, h₂.get? I = some o ∧ o.cls = .type "range_iterator" ∧ ∀ h' : Heap, h'.get? I = some o → IsRangeIter h' I (ra + ((i + 1 : Nat) : Int) * rc) ((n : Int) - ((i + 1 : Nat) : Int)) rc := ⟨_, hst₂, rfl, fun _ e => e⟩
    refine wpC_mono (turn i t m' nw oI h₂ (tk₁ + 1) hlt hcl hJ ho' F₂ (fun p hp => ?_)) (fun f s₃ h₃ => ?_) fun _ _ e => e
    · rcases List.mem_cons.mp hp with rfl | hp
      · exact ⟨eI, Ne.symm hIL, hI₀⟩
      · exact (N₁.set hs₂) p hp
    · have fin : (∃ h' tk' m₂ nw₂, s₃ = { s with heap := h', toks := tk' } ∧ Fr h₀ env.locals h' m₂ ∧ News h₀ env.locals h' ((I, oI) :: nw₂) ∧ (∀ p ∈ nw₂, p.1 ≠ I) ∧ J (i + 1) m₂ nw₂) → ∃ m, m < n + 1 - i ∧ ∃ h' tk m' nw j, s₃ = { s with heap := h', toks := tk } ∧ IsRangeIter h' I (ra + (j : Nat) * rc) ((n : Int) - (j : Nat)) rc ∧ Fr h₀ env.locals h' m' ∧ News h₀ env.locals h' nw ∧ (∀ p ∈ nw, p.1 ≠ I) ∧ J j m' nw ∧ j ≤ n ∧ m = n + 1 - j := by
        rintro ⟨h', tk', m₂, nw₂, rfl, F₃, N₃, ho₃, hJ₃⟩
        exact ⟨n + 1 - (i + 1), by omega, h', tk', m₂, nw₂, i + 1, rfl, back _ (N₃ _ (.head _)).1, F₃, fun p hp => N₃ p (.tail _ hp), ho₃, hJ₃, hlt, rfl⟩
      cases f with
      | ret v => exact h₃
      | brk => exact h₃
      | next => exact fin h₃
      | cont => exact fin h₃
  · have hin : i = n := by omega
    subst hin
    refine W.done _ _ _ hst' fun h₁ tk₁ hk₁ => ?_
    obtain ⟨F₁, N₁⟩ := next h₁ hk₁
    exact done m' nw h₁ tk₁ hJ F₁ N₁
end
section
variable {prog : Program} {w : World} {A₀ A : Around} {s : Shared} {base h₀ g₀ : Heap} {L : Addr} {m : Str → Option Value} {env : Env} {news : List (Addr × Obj)} {K : Frag} {p : Program} {loose : List Str} {mean : ExcName → Option Value} {mg mb : Str → Option Value}
    {R : Result → Shared → Prop} {name qual : Str} {params : Arguments} {body : List Stmt} {scope : Scope} {dV kV doc pm cdv ct oc : Value} {an od : Option Addr} {osl : Array (Option Value)} {f : Addr} {args : Args} {binds : List (Str × Value)}
theorem codeA_defSC (B : Below A₀ base [] h₀) (F : Fr h₀ L s.heap m) (X₀ : K.In h₀) (N : News h₀ L s.heap news) (T : Top p loose mean mg mb h₀) (hA : A.frames = some [env]) (hf : env.frame = some L) (hke : env.scope.kind = .function)
    (ho : K.lookup f = some ⟨oc, od, .func (fnOf name qual params body scope dV kV doc pm an cdv ct), osl⟩) (hcd : codeIn K cdv qual = true) (hroom : A.depth < recursionLimit)
    (hbind : BindsTo s (fnOf name qual params body scope dV kV doc pm an cdv ct) args binds) (hkind : (binds.all fun y => scope.names.lookup y.1 == some .local || scope.names.lookup y.1 == some .cell) = true)
    (hnd : ((cellsFrom 0 scope.names []).map (·.1)).Nodup)
    (h : ∀ g L' h₁ tk cells, Fr h₀ L g m → Fr g L' h₁ (bindL (envOfC qual scope L' f cdv).kindOf binds fun _ => none) → News g L' h₁ (cells ++ news) →
      CellsAre (bindC (envOfC qual scope L' f cdv).kindOf binds fun _ => none) (cellsFrom (L' + 1) scope.names []) cells → Below A base [env] g → K.In g → Top p loose mean mg mb g → (∀ p ∈ news, p.1 < L') →
      wpAny (model prog w) (A.deeper (envOfC qual scope L' f cdv)) (execs body (envOfC qual scope L' f cdv))
        (fun fl s' => LeaveS0 ([env].filterMap (·.frame)) h₀ L m g R (match fl with | .ret v => v | _ => .none) s')
        (fun e s' => wpAny (model prog w) (A.deeper (envOfC qual scope L' f cdv)) (leaving (envOfC qual scope L' f cdv) e) (fun _ s'' => R (.error e) s'') (fun e' s'' => R (.error e') s'') s')
        { s with heap := h₁, toks := tk })
    (hco : scope.isCoroutine = false) (hgen : scope.isGenerator = false) (hk : scope.kind = .function) : codeAny (model prog w) A (.call (.ref f) args) R s := by
  have X := X₀.keeps F.keep
  obtain ⟨FG, BG, st, lv⟩ := ksx_enter (R := R) B F N hA hf hke
  refine codeAny_call_function hroom (X _ _ ho) rfl hco hgen rfl (codeRec_of X hcd) (hbind _ _ _ _ ?_)
  refine wpAny_newFunctionEnv_cells hk (kindsX hkind _) fun env' he s' x => ?_
  subst he
  refine ⟨(T.nolimit.keeps F.keep).keeps x.toInCall.keep, codeAny_func ?_⟩
  obtain ⟨h₁, tk, rfl, _⟩ := x.done
  have hk₁ := x.toInCall.keep
  obtain ⟨cells, NC, Y⟩ := Cl.news (h₀ := s.heap) (Nat.le_refl _) fun n c hm => ⟨x.cell n c (lookup_of_mem_nodup (cellsFrom_names scope.names 0 (s.heap.objs.size + 1) [] [] rfl ▸ hnd) hm), x.above n c hm⟩
  refine wpAny_mono (h _ s.heap.objs.size h₁ tk cells FG ⟨x.toInCall.ns, fun b o e => hk₁ b o (of_hideAll _ e), Nat.le_of_eq (hideAll_size _ _)⟩ (fun p hp => ?_) Y BG (X₀.keeps st) (T.keeps st) (fun p hp => Heap.lt_size (N p hp).1)) (fun fl s' hl => lv _ _ hl) fun _ _ y => y
  rcases List.mem_append.mp hp with hp | hp
  · refine ⟨(NC p hp).1, (NC p hp).2.1, ?_⟩
    cases q : (hideAll s.heap (news.map (·.1))).get? p.1 with
    | none => rfl
    | some o => have := of_hideAll _ q; rw [(NC p hp).2.2] at this; cases this
  · exact ⟨hk₁ _ _ (N p hp).1, Nat.ne_of_lt (Heap.lt_size (N p hp).1), hideAll_none _ (List.mem_map_of_mem hp)⟩
end
section
variable {M : Model} {A : Around} {E : Value → Shared → Prop} {s : Shared} {h₀ : Heap} {L : Addr} {m : Str → Option Value} {news : List (Addr × Obj)} {env : Env}
theorem name_goesX {n : Str} {pos : Pos} {Q : Unit → Shared → Prop} (F : Fr h₀ L s.heap m) (N : News h₀ L s.heap news)
    (h : ∀ h' v, Fr h₀ L h' (fun x => if x = n then v else m x) → News h₀ L h' news → Q () { s with heap := h', toks := s.toks + 1 })
    (hl : env.kindOf n = some .local := by rfl) (hL : env.locals = L := by rfl) (hp : (env.scope.kind == .class || (env.scope.kind == .module && env.locals != env.globals)) = false := by rfl) :
    wpAny M A (do bindName env n .none; unbindBehindTheSuite env n pos) Q E s := by
  subst hL
  exact wpAny_nameGoes_keeps hl F.ns hp fun h' v hn hs => h h' v (F.set hn hs) (N.set hs)
end
theorem decd_of {id : String} (h : Builtin.Bytes.decodersThatHold.contains id = false) (args : Args) : decd (.builtin id args) = false := h
theorem decd_tc (args : Args) : decd (.builtin "type.__call__" args) = false := decd_of (by decide +kernel) args
section
variable {prog : Program} {w : World} {A : Around} {s : Shared}
theorem codeC_call_builtin_at {id : String} {args : Args} {b : Builtin} {R : Result → Shared → Prop} (hq : (Code.builtin id args).quiet = true) (hd : decd (.builtin id args) = false) (hb : entryFor table id = some b)
    (h : wpAny (model prog w) (A.under (.call (.builtin id) args)) (checkBuiltinCall id args) (fun _ s₁ => wpC (model prog w) (A.under (.builtin id args)) (b args)
      (fun fin s' => match fin with | .done f => R (.ok f) s' | .again c' => c'.quiet = true ∧ decd c' = false ∧ codeC (model prog w) A c' R s') (fun e s' => R (.error e) s') s₁)
      (fun e s' => R (.error e) s') s) : codeC (model prog w) A (.call (.builtin id) args) R s := by
  refine codeC_of_tree ?_
  show wpC _ _ (do checkBuiltinCall id args; again (.builtin id args)) _ _ s
  refine wpC_step (wpAny_mono h (fun _ s₁ h₁ => wpC_pure (And.intro hq ⟨hd, codeC_of_tree ?_⟩)) fun _ _ h' => h')
  show wpC _ _ (match entryFor table id with | some b => b args | none => unsupported ((withoutEnding? id "#data").getD id)) _ _ s₁
  rw [hb]; exact h₁
end
section
variable {prog : Program} {w : World} {A : Around} {K : Frag} {C : Addr} {R : Result → Shared → Prop} {h : Heap} {g : Array GenState} {d : Drawn} {t : Nat} {os : OsState}
/-- an own class called at wpC: the object stands, then its __init__ -/
theorem make_coreC {rest : List Value} {kw : List (Str × Value)} {init : Value} (Y : Makes (model prog w) h C) (hi : Looks (model prog w) h (typeLookup (.ref C) "__init__") (some init))
    (hb : ∀ self, Looks (model prog w) h (bindSpecial init self) (init, [self])) (hne : (some init != some (Value.builtin "object.__init__")) = true ∨ (rest = [] ∧ kw = []))
    (hq : codeC (model prog w) (A.under (.builtin "type.__call__" ⟨.ref C :: rest, kw⟩)) (.call init ⟨.ref (h.objs.size + 1) :: rest, kw⟩) (InitBack (h.objs.size + 1) R) ⟨(h.push emptyDict).push (instObj C h.objs.size), g, d, t, os⟩) :
    codeC (model prog w) A (.call (.ref C) ⟨rest, kw⟩) R ⟨h, g, d, t, os⟩ := by
  have Y' := Y
  obtain ⟨⟨oc, od, cd, sl, hC, e1, e2, e4⟩, made, base, self, top, call, typ⟩ := Y
  refine codeC_of_tree (wpC_of ?_)
  show wpAny _ _ (callAny (.ref C) _) _ _ _
  refine nd_load hC ?_
  show wpAny _ _ (callAny.viaDunder (.ref C) _) _ _ _
  unfold callAny.viaDunder
  refine wpAny_bind (call.at ?_)
  dsimp only
  rw [tc_bind]
  refine wpAny_bind (wpAny_pure (wpAny_bind (wpAny_pure ?_)))
  refine wpAny_pure (a := Fin.again (.call (.builtin "type.__call__") ⟨.ref C :: rest, kw⟩)) (And.intro rfl ⟨rfl, ?_⟩)
  refine codeC_call_builtin_at (Code.quiet_builtin _ (by decide +kernel)) (decd_tc _) entry_typeCall (check_slot tc_kind tc_split typ (tc_args _ _ _) ?_)
  unfold Builtin.«type.__call__»
  have hm : Looks (model prog w) h (mroOf (.ref C)) cd.mro := ((Looks.ld (part := none) hC).andThen .now).andThen .now
  show wpC _ _ (mroOf (.ref C) >>= fun l => _) _ _ _
  refine wpC_step (hm.at ?_)
  rw [e4]
  show wpC _ _ (Bind.madeBy (.ref C) >>= fun l => _) _ _ _
  refine wpC_step (made.at ?_)
  show wpC _ _ (pure (Value.builtin "object.__new__") >>= fun l => _) _ _ _
  refine wpC_step (wpAny_pure ?_)
  refine wpC_step (wpAny_holding (wpAny_call ?_))
  refine new_K Y' hi hne ?_
  have k : ∀ b o, h.get? b = some o → ((h.push emptyDict).push (instObj C h.objs.size)).get? b = some o := fun b o e => Heap.get?_push_of_some _ (Heap.get?_push_of_some _ e)
  have hx : ((h.push emptyDict).push (instObj C h.objs.size)).get? (h.objs.size + 1) = some (instObj C h.objs.size) := by heap_get
  have t1 : Looks (model prog w) ((h.push emptyDict).push (instObj C h.objs.size)) (typeOf (.ref (h.objs.size + 1))) (.ref C) := (Looks.ld hx).andThen .now
  have s1 := self.keeps k
  have i1 := hi.keeps k
  have b1 := (hb (.ref (h.objs.size + 1))).keeps k
  dsimp only
  refine wpC_step ?_
  unfold isInstance
  refine wpAny_bind (t1.at (s1.at ?_))
  show wpC _ _ (holding _ (callSpecial? _ _ _ _) >>= fun l => _) _ _ _
  refine wpC_bind (wpC_holding ?_)
  unfold callSpecial? specialOf
  refine wpC_step (wpAny_bind (t1.at (i1.at ?_)))
  refine wpC_holding (wpC_step (b1.at ?_))
  refine wpC_bind (wpC_call (codeC_mono hq fun r s' z => ?_))
  rcases r with e | (v | _ | _ | _) <;> first | exact z | exact z.elim | skip
  obtain ⟨rfl, z⟩ := z
  exact wpC_pure (wpC_pure z)
end
section
variable {prog : Program} {w : World} {A : Around} {E : Value → Shared → Prop} {s : Shared} {K : Frag} {C L : Addr} {h₀ : Heap} {m : Str → Option Value} {news : List (Addr × Obj)} {Q : Value → Shared → Prop}
theorem call_clsC {pos : List Value} {kw : List (Str × Value)} {fI : Addr} (F : Fr h₀ L s.heap m) (X₀ : K.In h₀) (N : News h₀ L s.heap news) (hm : makesIn K C = true) (hi : findIn K (.ref C) "__init__" = some (some (.ref fI))) (hf : isFn K (.ref fI) = true)
    (h : ∀ x dx h', Fr h₀ L h' m → News h₀ L h' ((x, instObj C dx) :: (dx, dictOf [] 0) :: news) → (∀ p ∈ news, p.1 < dx) → dx < x →
      codeC (model prog w) (A.under (.builtin "type.__call__" ⟨.ref C :: pos, kw⟩)) (.call (.ref fI) ⟨.ref x :: pos, kw⟩) (InitBack x fun r s' => match r with | .ok (.ret v) => Q v s' | .ok _ => False | .error e => E e s') { s with heap := h' }) :
    wpC (model prog w) A (call (.ref C) pos kw) Q E s := by
  refine wpC_call ?_
  have X := X₀.keeps F.keep
  obtain ⟨hh, g, d, t, os⟩ := s
  refine make_coreC (makes_of X hm) (looks_findIn X hi) (fun self => bind_fn X self (beq_iff_eq.mp hf)) (.inl rfl) (h _ hh.objs.size _ ((F.push _).push _) ?_ (fun p hp => Heap.lt_size (N p hp).1) (Nat.lt_succ_self _))
  have := (N.push F emptyDict).push (F.push _) (instObj C hh.objs.size)
  rwa [Heap.size_push] at this
end
section
variable {M : Model} {A : Around} {E : Value → Shared → Prop} {s : Shared} {env : Env}
theorem attrC {o attr pos' value pos} {Q : Flow → Shared → Prop}
    (h : wpC M A (eval value env) (fun v s₁ => wpAny M A (eval o env) (fun ov s₂ => wpAny M A (setAttr ov attr v) (fun _ => Q .next) E s₂) E s₁) E s)
    (hs : swapsWith value (some (.Attribute o attr pos')) pos.line env = pure false := by rfl) : wpC M A (exec (.Assign [.Attribute o attr pos'] value pos) env) Q E s := fun Γ p hΓ hn => by
  simp only [plainObj_exec_Assign_Attribute o attr pos' value pos hs, assign_Attribute, Sem.wp_bind', Sem.wp_holding, Sem.wp_cmd_standAt, Sem.wp_release, Sem.wp_pure']
  exact Sem.wp_mono M Γ _ (fun v p₁ s₁ h₁ => Sem.wp_mono M Γ _ (fun ov _ s₂ h₂ => h₂ Γ _ hΓ) (fun _ _ _ h' => h') _ _ (h₁ Γ p₁ hΓ)) (fun _ _ _ h' => h') _ _ (h Γ _ hΓ hn)
theorem tupassC {elts k tpos value pos} {Q : Flow → Shared → Prop}
    (h : wpC M A (eval value env) (fun v s₁ => wpAny M A (assign (.Tuple elts k tpos) env v) (fun _ => Q .next) E s₁) E s)
    (hs : swapsWithSole [.Tuple elts k tpos] value pos.line env = pure false := by rfl)
    (hw : swappedStores [.Tuple elts k tpos] value env = pure none := by rfl) :
    wpC M A (exec (.Assign [.Tuple elts k tpos] value pos) env) Q E s := by
  rw [PyProof.Rows.exec_Assign]
  refine wpC_step (wpAny_standAt ?_)
  rw [hs]
  refine wpC_step (wpAny_pure ?_)
  rw [if_neg (by decide)]
  refine wpC_bind (wpC_mono h (fun v s₁ h₁ => ?_) fun _ _ x => x)
  rw [hw]
  refine wpC_step (wpAny_pure ?_)
  show wpC M A (do assignAll v [assign (.Tuple elts k tpos) env]; pure .next) Q E s₁
  exact wpC_step (wpAny_mono h₁ (fun _ _ x => wpC_pure x) fun _ _ x => x)
theorem tupC {e : Expr} {rest : List Expr} {x1 : Nat} {pos : Pos} {Q : Value → Shared → Prop}
    (h : wpC M A (eval e env) (fun v s₁ => wpAny M A (spliced (backTo pos (starEach rest env))) (fun l s₂ => wpAny M A (newTuple (v :: l)) Q E s₂) E s₁) E s)
    (he : starEach (e :: rest) env = (false, eval e env) :: starEach rest env := by rfl) : wpC M A (eval (.Tuple (e :: rest) x1 pos) env) Q E s := by
  rw [arm_eval_Tuple, he]
  refine wpC_step (wpAny_standAt (wpC_bind ?_))
  show wpC M A (spliced ((false, eval e env) :: backTo pos (starEach rest env))) _ E s
  unfold spliced
  refine wpC_bind (wpC_mono h (fun v s₁ h₁ => ?_) fun _ _ x => x)
  refine wpC_step (wpAny_pure ?_)
  exact wpC_step (wpAny_holding (wpAny_mono h₁ (fun l s₂ h₂ => wpC_pure (wpC_of h₂)) fun _ _ x => x))
theorem orC {x : Expr} {rest : List Expr} {Q : Bool → Shared → Prop}
    (h : wpC M A (isTrue x env (eval x env)) (fun b s₁ => if b then Q true s₁ else wpC M A (allTrue .Or rest env) Q E s₁) E s) : wpC M A (allTrue .Or (x :: rest) env) Q E s := by
  show wpC M A (do match BoolOp.Or, ← isTrue x env (eval x env) with | .And, false => pure false | .Or, true => pure true | _, _ => allTrue .Or rest env) Q E s
  refine wpC_bind (wpC_mono h (fun b s₁ h₁ => ?_) fun _ _ x => x)
  cases b
  · exact h₁
  · exact wpC_pure h₁
theorem boolopC {op : BoolOp} {values : List Expr} {pos : Pos} {whole : Sem Value} {Q : Bool → Shared → Prop} (h : wpC M A (allTrue op values env) Q E s) :
    wpC M A (isTrue (.BoolOp op values pos) env whole) Q E s := by rw [arm_isTrue_BoolOp]; exact h
theorem cmpC {l op r pos whole} {Q : Bool → Shared → Prop}
    (h : wpC M A (eval l env) (fun a s₁ => wpAny M A (eval r env) (fun b s₂ => wpAny M A (compareOp op a b)
      (fun c s₃ => wpAny M A (truthy c) Q E s₃) E s₂) E s₁) E s)
    (hm : behindInMarks op r = false := by with_unfolding_all rfl) : wpC M A (isTrue (.Compare l [op] [r] pos) env whole) Q E s := fun Γ p hΓ hn => by
  simp only [isTrue_Compare1, markedBehindIn_of_false hm, Sem.wp_bind', Sem.wp_holding, Sem.wp_cmd_standAt, Sem.wp_operate]
  exact Sem.wp_mono M Γ _ (fun a p₁ s₁ h₁ => Sem.wp_mono M Γ _ (fun b _ s₂ h₂ => Sem.wp_mono M Γ _ (fun c p₃ s₃ h₃ => h₃ Γ p₃ hΓ)
    (fun _ _ _ h' => h') _ _ (h₂ Γ _ hΓ)) (fun _ _ _ h' => h') _ _ (h₁ Γ p₁ hΓ)) (fun _ _ _ h' => h') _ _ (h Γ p hΓ hn)
end
section
variable {prog : Program} {w : World} {A : Around} {E : Value → Shared → Prop} {s : Shared} {K : Frag}
/-- a call with no argument, at wpC -/
theorem callC0 {pos : Pos} {env : Env} {f : Value} {first : List Value} {Q : Value → Shared → Prop} {k : Keeper} (hk : k = Keeper.frame ∨ k = Keeper.machine ∨ k = Keeper.boundFrame) (L : Looks (model prog w) s.heap (keeperOf f) k)
    (h : wpC (model prog w) A (call f (first ++ [])) Q E s) : wpC (model prog w) A (callWith pos f first (backTo pos (starEach [] env)) (backToKw pos (keywordEach [] env))) Q E s :=
  callWithC_of (P := fun h' => h' = s.heap) rfl (fun h' e => by subst e; exact ⟨k, hk, L⟩) (evalArgs_nil3 ⟨rfl, h⟩)
end
theorem mro_ba : mroOf (.type "bytearray") = pure [.type "bytearray", .type "object"] := by rw [mroOf_type]; kernel_rfl
theorem lookup_ba_new : typeLookup (.type "bytearray") "__new__" = pure (some (.builtin "bytearray.__new__")) := by rw [typeLookup_type, builtinLookup_eq_fast]; kernel_rfl
theorem sub_ba : isSubtype (.type "bytearray") (.type "bytearray") = pure true := by rw [isSubtype_type]; kernel_rfl
theorem slot_ba_init : Slot "bytearray" "__init__" "bytearray.__init__" :=
  .of (owner := "bytearray") (n := "__init__") (by rw [typeLookup_type, builtinLookup_eq_fast]; kernel_rfl) (by decide +kernel) (by decide +kernel) (by decide +kernel)
    (by first | exact .inl (by decide +kernel) | exact .inr (by decide +kernel)) (by rw [isSubtype_type]; kernel_rfl)
theorem called_ba : TypeCalled "bytearray" "bytearray.__new__" "bytearray.__init__" :=
  ⟨by decide +kernel, by decide +kernel, ⟨_, _, mro_ba⟩, madeBy_type mro_ba lookup_ba_new (by decide +kernel), by decide +kernel, sub_ba, slot_ba_init⟩
theorem newCall_ba : checkBuiltinCall "bytearray.__new__" ⟨[.type "bytearray"], []⟩ = pure () := by kernel_rfl
theorem entry_ba_new : entryFor table "bytearray.__new__" = some Builtin.«list.__new__» := entryFor_alias (id' := "list.__new__") (by kernel_rfl) (by first | rfl | decide +kernel) (by decide +kernel) (by kernel_rfl)
theorem entry_ba_init : entryFor table "bytearray.__init__" = some Builtin.«bytearray.__init__» := entryFor_of_tree (by kernel_rfl)
theorem plain_ba_new : plainId "bytearray.__new__" = true := by decide +kernel
theorem args_ba_init (a : Value) : argsOk "bytearray.__init__" ⟨[a], []⟩ := by unfold argsOk; kernel_rfl
theorem typeCall_ba : checkTypeCall "bytearray" ⟨[], []⟩ = pure () := by kernel_rfl
theorem look_ba_release : typeLookup (.type "bytearray") "__release_buffer__" = pure (some (.builtin "bytearray.__release_buffer__")) := by rw [typeLookup_type, builtinLookup_eq_fast]; kernel_rfl
theorem opt_ba : Builtin.Bytes.bindOptional "bytearray.__init__" "bytearray" ["source", "encoding", "errors"] [] [] = pure [none, none, none] := by kernel_rfl
set_option maxRecDepth 1000000 in
set_option maxHeartbeats 4000000 in
theorem owner_ba_new : ("bytearray.__new__".splitOn ".__new__").headD "" = "bytearray" := by simp +decide [String.splitOn, String.splitOnAux]
section
variable {prog : Program} {w : World} {A : Around} {E : Value → Shared → Prop} {s : Shared}
theorem code_ba_new {Q₁ : Value → Shared → Prop}
    (h : Q₁ (.ref s.heap.objs.size) { s with heap := s.heap.push (baO #[]) }) :
    codeAny (model prog w) A (.call (.builtin "bytearray.__new__") ⟨[.type "bytearray"], []⟩) (wants Q₁ E) s := by
  refine codeAny_of_tree ?_
  show wpAny _ A.in1 (do checkBuiltinCall "bytearray.__new__" ⟨[.type "bytearray"], []⟩; again (.builtin "bytearray.__new__" ⟨[.type "bytearray"], []⟩)) _ _ s
  refine wpAny_bind (wpAny_of_eq newCall_ba (wpAny_pure ⟨plainId_quiet plain_ba_new _, codeAny_builtin_stack entry_ba_new rfl fun p st => ?_⟩))
  rw [Around.under_plainId plain_ba_new _]
  have hsub := sub_ba
  have hown := owner_ba_new
  obtain ⟨hp, g, d, tk, os⟩ := s
  simp only [hown]
  wp_walk
  exact h
theorem ownRel_ba {BA : Addr} {b0 : Array UInt8} {Q : Bool → Shared → Prop} (ho : s.heap.get? BA = some (baO b0)) (h : Q false s) : wpAny (model prog w) A (Builtin.Bytes.ownRelease (.ref BA)) Q E s := by
  have hT : s.TypeIs (.ref BA) "bytearray" := ⟨_, ho, rfl⟩
  unfold Builtin.Bytes.ownRelease Builtin.Bytes.slotIsOwn
  refine wpAny_bind (wpAny_bind (wpAny_specialOf hT look_ba_release ?_))
  have key : ∀ x : String, x = "bytearray" → wpAny (model prog w) A (isInstance (.ref BA) (.type x)) (fun b s' => wpAny (model prog w) A (pure (!b)) Q E s') E s := fun x hx => by
    rw [hx]
    unfold isInstance
    refine wpAny_bind (wpAny_typeOf hT ?_)
    rw [sub_ba]
    exact wpAny_pure (wpAny_pure h)
  show wpAny _ _ (if (!("bytearray.__release_buffer__".endsWith ("." ++ "__release_buffer__"))) = true then pure false else isInstance (.ref BA) (.type ("bytearray.__release_buffer__".dropRight ("__release_buffer__".length + 1)))) _ _ _
  rw [if_neg (by decide +kernel)]
  exact key _ (by decide +kernel)
theorem init_tree {BA : Addr} {Q : Fin → Shared → Prop} (hg : A.guards = some []) (ho : s.heap.get? BA = some (baO #[]))
    (h : Q (.done (.ret .none)) { s with heap := s.heap.update BA (Obj.mapBytearray fun _ => #[]) }) : wpC (model prog w) A (Builtin.«bytearray.__init__» ⟨[.ref BA], []⟩) Q E s := by
  unfold Builtin.«bytearray.__init__»
  show wpC _ _ (Builtin.Bytes.ownRelease (.ref BA) >>= fun r => _) _ _ s
  refine wpC_step (ownRel_ba ho ?_)
  show wpC _ _ (Builtin.Bytes.bindOptional "bytearray.__init__" "bytearray" ["source", "encoding", "errors"] [] [] >>= fun r => _) _ _ s
  rw [opt_ba]
  refine wpC_step (wpAny_pure ?_)
  show wpC _ _ (Builtin.Bytes.checkCodecArg "bytearray.__init__" "bytearray" "encoding" none >>= fun r => _) _ _ s
  rw [show Builtin.Bytes.checkCodecArg "bytearray.__init__" "bytearray" "encoding" none = pure () from rfl]
  refine wpC_step (wpAny_pure ?_)
  show wpC _ _ (Builtin.Bytes.checkCodecArg "bytearray.__init__" "bytearray" "errors" none >>= fun r => _) _ _ s
  rw [show Builtin.Bytes.checkCodecArg "bytearray.__init__" "bytearray" "errors" none = pure () from rfl]
  refine wpC_step (wpAny_pure ?_)
  refine wpC_bind (wpC_bind (nd_exported hg ?_))
  show wpC _ _ (Builtin.Bytes.exportsOf (.ref BA) >>= fun n => pure (decide (n > 0))) _ E s
  refine wpC_step (wpAny_bind (wpAny_load ho (wpAny_pure (wpC_pure ?_))))
  rw [if_neg (by decide)]
  refine wpC_of (wpAny_bind ?_)
  show wpAny _ _ (updateBytearray BA fun _ => #[]) _ _ _
  unfold updateBytearray
  refine wpAny_bind (wpAny_load ho ?_)
  refine wpAny_bind (wpAny_update ho (wpAny_lookBehind (o := baO #[]) (Heap.get?_update_self _ ho rfl) ?_ (wpAny_pure ?_)))
  · show (if (#[] : Array UInt8).size > sizeLine then some "bytearray:memory" else none) = none
    rw [if_neg (by rw [sizeLine_eq]; decide)]
  exact h
theorem codeC_builtin {id : String} {args : Args} {b : Builtin} {R : Result → Shared → Prop} (hb : entryFor table id = some b)
    (h : wpC (model prog w) (A.under (.builtin id args)) (b args)
      (fun fin s' => match fin with | .done f => R (.ok f) s' | .again c' => c'.quiet = true ∧ decd c' = false ∧ codeC (model prog w) A c' R s') (fun e s' => R (.error e) s') s) :
    codeC (model prog w) A (.builtin id args) R s := by
  refine codeC_of_tree ?_
  show wpC _ _ (match entryFor table id with | some b => b args | none => unsupported ((withoutEnding? id "#data").getD id)) _ _ s
  rw [hb]; exact h
theorem wpC_iteN {α : Type} {M : Model} {c : Prop} [Decidable c] {a b : Sem α} {Q : α → Shared → Prop} (hc : ¬ c) (h : wpC M A b Q E s) : wpC M A (if c then a else b) Q E s := by rw [if_neg hc]; exact h
theorem callBA {Q : Value → Shared → Prop} (hg : A.guards = some [])
    (h : ∀ s₁, s₁ = ({ s with heap := (s.heap.push (baO #[])).update s.heap.objs.size (Obj.mapBytearray fun _ => #[]) } : Shared) → Q (.ref s.heap.objs.size) s₁) :
    wpC (model prog w) A (call (.type "bytearray") []) Q E s := by
  obtain ⟨c, tl, hmro⟩ := called_ba.mro
  have hmade := called_ba.made
  have hsub := called_ba.sub
  have hli := called_ba.init.lookup
  refine wpC_call (codeC_of_tree (wpC_of ?_))
  show wpAny _ _ (callAny (.type "bytearray") _) _ _ _
  refine wpAny_pure ⟨Code.quiet_builtin _ (by decide +kernel), decd_tc _, codeC_builtin F.entry_type_call ?_⟩
  rw [Around.under_plain (weight_type_call_type "bytearray" [] []) (units_type_call_type "bytearray" [] [])]
  unfold Builtin.«type.__call__»
  dsimp only
  refine wpC_iteN (by decide) ?_
  refine wpC_iteN (fun e => Bool.noConfusion (e.symm.trans called_ba.canCreate)) ?_
  refine wpC_step (wpAny_of_eq typeCall_ba ?_)
  refine wpC_step (wpAny_of_eq hmro ?_)
  refine wpC_iteN (fun e => Bool.noConfusion (e : false = true)) ?_
  refine wpC_step (wpAny_of_eq hmade ?_)
  show wpC _ _ (pure (Value.builtin "bytearray.__new__") >>= fun l => _) _ _ _
  refine wpC_step (wpAny_pure ?_)
  refine wpC_step (wpAny_holding (wpAny_call (codeAny_mono (code_ba_new (Q₁ := fun v s' => v = .ref s.heap.objs.size ∧ s' = { s with heap := s.heap.push (baO #[]) }) (E := fun _ _ => False) ⟨rfl, rfl⟩) fun r s₁ hr => ?_)))
  rcases r with e | (v | _ | _ | _) <;> first | exact (hr : False).elim | skip
  obtain ⟨rfl, rfl⟩ := hr
  have ho : (s.heap.push (baO #[])).get? s.heap.objs.size = some (baO #[]) := Heap.get?_push_size _ rfl
  have hT : ({ s with heap := s.heap.push (baO #[]) } : Shared).TypeIs (.ref s.heap.objs.size) "bytearray" := ⟨_, ho, rfl⟩
  dsimp only
  refine wpC_step ?_
  unfold isInstance
  refine wpAny_bind (wpAny_typeOf hT ?_)
  rw [hsub]
  refine wpAny_pure ?_
  show wpC _ _ (holding _ (callSpecial? _ _ _ _) >>= fun l => _) _ _ _
  refine wpC_bind (wpC_holding ?_)
  unfold callSpecial?
  refine wpC_step (wpAny_specialOf hT hli ?_)
  refine wpC_holding (wpC_step (wpAny_of_eq (called_ba.init.bind _) ?_))
  refine wpC_bind (wpC_call (codeC_call_builtin called_ba.init.plain (by decide +kernel) entry_ba_init (called_ba.init.check _ _ _ _ _ _ _ _ hT (args_ba_init _) ?_)))
  refine init_tree hg ho ?_
  exact wpC_pure (wpC_pure (h _ rfl))
end
theorem ss_layAll : ∀ ns : List Str, (∀ z ∈ ns, PyData.strOk z = true) → PyData.canLayAll0 (ns.map PyData.str) = true
  | [], _ => rfl
  | x :: r, h => by simp [PyData.canLayAll0, PyData.canLay0, h x (.head _), ss_layAll r fun z hz => h z (.tail _ hz)]
theorem ss_depthAll : ∀ ns : List Str, PyData.depthAll (ns.map PyData.str) = 0
  | [] => rfl
  | _ :: r => by simp [PyData.depthAll, PyData.depth, ss_depthAll r]
theorem ss_shaped (ns : List Str) (h : ∀ z ∈ ns, PyData.strOk z = true) : SeqAt.shaped (.list (ns.map PyData.str)) = true := by
  simp [SeqAt.shaped, PyData.canLay0, PyData.depth, ss_layAll ns h, ss_depthAll]
theorem ss_sameNil : ∀ ns : List Str, PyData.eqv (.list (ns.map PyData.str)) (.list []) = decide (ns = [])
  | [] => by simp [PyData.eqv, PyData.eqvAll]
  | _ :: _ => by simp [PyData.eqv, PyData.eqvAll]
theorem ss_carried : ∀ {vs : List Value} {ns : List Str}, StrsAre vs ns → CarriedAll vs (ns.map PyData.str)
  | _, _, .nil => .nil
  | _, _, .cons _ t r => .cons (.str _ t) (ss_carried r)
theorem ne_strs_nil {prog : Program} {w : World} {A : Around} {E : Value → Shared → Prop} {s : Shared} {a b : Addr} {xs : List Value} {ns : List Str} {Q : Value → Shared → Prop}
    (ha : s.heap.IsList a xs.toArray) (hb : s.heap.IsList b #[]) (hi : StrsAre xs ns) (hok : ∀ z ∈ ns, PyData.strOk z = true) (hu : A.units + 64 < cLine) (h : Q (.bool (!decide (ns = []))) s) :
    wpAny (model prog w) A (compareOp .NotEq (.ref a) (.ref b)) Q E s := by
  refine ne_dataH (reads_newData ha (ss_carried hi)) (reads_newData (ys := []) hb .nil) (ss_shaped _ hok) (ss_shaped [] fun _ h => nomatch h) hu ?_
  rw [ss_sameNil]; exact h
theorem tag_hi {l : List Nat} {g : Nat → Str} (h : ¬ (l.filter fun c => decide (255 < c)).map g = []) : ∃ c ∈ l, 256 ≤ c := by
  by_cases q : ∃ c ∈ l, 256 ≤ c
  · exact q
  · refine absurd ?_ h
    rw [List.map_eq_nil_iff, List.filter_eq_nil_iff]
    intro c hc hd
    exact q ⟨c, hc, of_decide_eq_true hd⟩
theorem tag_lo {l : List Nat} {g : Nat → Str} (h : (l.filter fun c => decide (255 < c)).map g = []) : ∀ c ∈ l, c < 256 := by
  rw [List.map_eq_nil_iff, List.filter_eq_nil_iff] at h
  intro c hc
  exact Nat.lt_of_not_le fun q => h c hc (decide_eq_true q)
theorem codes_in {x : Str} (h : ∀ c ∈ x.cps.toList, c < 256) (i : Nat) : KBa.In ((KStt.codes x).take i) := by
  intro k hk
  obtain ⟨c, hc, rfl⟩ := List.mem_map.mp (List.mem_of_mem_take hk)
  have := h c hc
  omega
theorem codes_snoc {ys : List Value} {x : Str} {i c : Nat} {t : Tok} (h : IntsAre ys ((KStt.codes x).take i)) (hc : x.cps[i]? = some c) : IntsAre (ys ++ [.int c t]) ((KStt.codes x).take (i + 1)) := by
  have e : (KStt.codes x)[i]? = some (c : Int) := by
    show (x.cps.toList.map fun (c : Nat) => (c : Int))[i]? = _
    rw [List.getElem?_map, Array.getElem?_toList, hc]; rfl
  rw [List.take_add_one, e]
  exact ints_snoc h
theorem codes_all (x : Str) : (KStt.codes x).take x.cps.size = KStt.codes x := List.take_of_length_le (by rw [KStt.codes_length]; exact Nat.le_refl _)
theorem all_ne_of_allLt2 {d e : Nat} {l : List (Addr × Obj)} (h : AllLt d l) (he : d < e) : ∀ p ∈ l, p.1 ≠ e := by
  induction l with
  | nil => exact fun _ hp => nomatch hp
  | cons q r ih =>
    intro p hp
    rcases List.mem_cons.mp hp with rfl | hp
    · exact Nat.ne_of_lt (Nat.lt_trans h.1 he)
    · exact ih h.2 p hp
theorem p256_ne (n : Nat) : (256 : Int) ^ n ≠ 0 := Int.pow_ne_zero (by decide)
theorem digit_f {n k : Int} {c i : Nat} (hi : i < c) (hk : k = 256 ^ ((c : Int) - 1 - (0 + (i : Int) * 1)).toNat) : (n.fdiv k).fmod 256 = n / 256 ^ (c - 1 - i) % 256 := by
  have e : ((c : Int) - 1 - (0 + (i : Int) * 1)).toNat = c - 1 - i := by rw [Int.zero_add, Int.mul_one]; exact toNat_sub2 c i
  rw [hk, e, Int.fdiv_eq_ediv_of_nonneg _ (Int.pow_nonneg (by decide)), Int.fmod_eq_emod_of_nonneg _ (by decide)]
inductive BysAre : List Value → List (Array UInt8) → Prop
  | nil : BysAre [] []
  | cons {vs bs} (b : Array UInt8) (t : Tok) : BysAre vs bs → BysAre (.bytes b t :: vs) (b :: bs)
theorem BysAre.length : ∀ {vs bs}, BysAre vs bs → vs.length = bs.length
  | _, _, .nil => rfl
  | _, _, .cons _ _ r => by rw [List.length_cons, List.length_cons, r.length]
theorem bys_get : ∀ {vs : List Value} {bs : List (Array UInt8)} {i : Nat}, BysAre vs bs → (h : i < bs.length) → ∃ u, vs[i]? = some (.bytes bs[i] u)
  | _, _, 0, .cons b u _, _ => ⟨u, rfl⟩
  | _, _, i + 1, .cons b u r, h => by
    obtain ⟨u', hu⟩ := bys_get (i := i) r (Nat.lt_of_succ_lt_succ h)
    exact ⟨u', by simpa using hu⟩
theorem range_step {x i n : Nat} {rest : List Nat} (e : x :: rest = List.range' i (n - i)) : x = i ∧ i < n ∧ rest = List.range' (i + 1) (n - (i + 1)) := by
  cases h : n - i with
  | zero => rw [h] at e; cases e
  | succ m =>
    rw [h, List.range'_succ] at e
    injection e with e1 e2
    exact ⟨e1, by omega, by rw [e2, show n - (i + 1) = m by omega]⟩
theorem bys_fold : ∀ (bs : List (Array UInt8)) (k : Nat) (a : Array UInt8), (bs.zipIdx k).foldl (fun out (x : Array UInt8 × Nat) => (if x.2 > 0 then out ++ (#[] : Array UInt8) else out) ++ x.1) a = bs.foldl (· ++ ·) a
  | [], _, _ => rfl
  | b :: r, k, a => by
    rw [List.zipIdx_cons, List.foldl_cons, List.foldl_cons, bys_fold r]
    congr 1
    split <;> simp
theorem bys_joined (bs : List (Array UInt8)) : Builtin.Bytes.joined #[] bs = bs.foldl (· ++ ·) #[] := bys_fold bs 0 #[]
theorem bys_size_go : ∀ {bs : List (Array UInt8)} (a : Array UInt8), (∀ b ∈ bs, b.size ≤ 100) → (bs.foldl (· ++ ·) a).size ≤ a.size + 100 * bs.length
  | [], _, _ => by simp
  | b :: r, a, h => by
    have := bys_size_go (bs := r) (a ++ b) fun x hx => h x (.tail _ hx)
    have hb := h b (.head _)
    rw [Array.size_append] at this
    rw [List.foldl_cons, List.length_cons]
    omega
theorem bys_size {bs : List (Array UInt8)} (h : ∀ b ∈ bs, b.size ≤ 100) : (bs.foldl (· ++ ·) #[]).size ≤ 100 * bs.length := by
  have := bys_size_go #[] h
  simpa using this
theorem bys_long_go : ∀ {bs : List (Array UInt8)} (k : Nat), (∀ b ∈ bs, b.size ≤ 100) → bs.foldl (fun (n : Nat) b => n + b.size) k ≤ k + 100 * bs.length
  | [], _, _ => by simp
  | b :: r, k, h => by
    have := bys_long_go (bs := r) (k + b.size) fun x hx => h x (.tail _ hx)
    have hb := h b (.head _)
    rw [List.foldl_cons, List.length_cons]
    omega
theorem bys_long {bs : List (Array UInt8)} {k : Nat} (hz : bs.length ≤ 100) (h : ∀ b ∈ bs, b.size ≤ 100) (hk : k ≤ 1000) : Builtin.Bytes.tooLong (bs.toArray.foldl (fun (n : Nat) b => n + b.size) k) = false := by
  have := bys_long_go k h
  unfold Builtin.Bytes.tooLong
  rw [← Array.foldl_toList, sizeLine_eq]
  simp only [gt_iff_lt, decide_eq_false_iff_not]
  omega
theorem joinLet_none {prog : Program} {w : World} {A : Around} {E : Value → Shared → Prop} {keep : List Value} {Q : Unit → Shared → Prop} : ∀ {taken : List (Value × Option Value)} {s : Shared}, (∀ q ∈ taken, q.2 = none ∧ q.1.onHeap = false) → Q () s →
    wpAny (model prog w) A (Builtin.Bytes.joinLetGo taken keep) Q E s
  | [], _, _, h => wpAny_pure h
  | (x, u) :: r, s, ht, h => by
    obtain ⟨e1, _⟩ := ht (x, u) (.head _)
    dsimp only at e1
    subst e1
    unfold Builtin.Bytes.joinLetGo
    exact wpAny_bind (wpAny_letGo (joinLet_none (fun q hq => ht q (.tail _ hq)) h))
theorem bjoin_tree {prog : Program} {w : World} {A : Around} {E : Value → Shared → Prop} {s : Shared} {l : Addr} {vs : List Value} {bs : List (Array UInt8)} {n : Nat} {t : Tok} {Q : PySem.Fin → Shared → Prop}
    (ho : s.heap.get? l = some (listOf vs.toArray n)) (hb : BysAre vs bs) (hz : bs.length ≤ 100) (hz2 : ∀ b ∈ bs, b.size ≤ 100)
    (h : ∀ t' tk, Q (.done (.ret (.bytes (bs.foldl (· ++ ·) #[]) t'))) { s with toks := tk }) :
    wpAny (model prog w) A (Builtin.«bytes.join» ⟨[.bytes #[] t, .ref l], []⟩) Q E s := by
  have hT : s.TypeIs (.ref l) "list" := ⟨_, ho, rfl⟩
  unfold Builtin.«bytes.join» Builtin.Bytes.joinM
  refine wpAny_bind (wpAny_of_eq (show selfAndOne _ ⟨[Value.bytes #[] t, Value.ref l], []⟩ = pure (Value.bytes #[] t, Value.ref l) from rfl) ?_)
  refine wpAny_bind ?_
  show wpAny _ _ (Builtin.Bytes.joinItems (.ref l)) _ _ _
  unfold Builtin.Bytes.joinItems
  refine wpAny_bind (wpAny_typeOf hT ?_)
  show wpAny _ _ (pure (Value.ref l)) _ _ _
  refine wpAny_pure ?_
  refine wpAny_bind (wpAny_seqItems ho rfl ?_)
  dsimp only
  rw [if_pos (by rfl)]
  have hlen := hb.length
  rcases vs with _ | ⟨v, _ | ⟨v2, r⟩⟩
  · cases hb
    show wpAny _ _ (bind (forIn _ _ _) _) _ _ _
    refine wpAny_bind ?_
    rw [Std.Legacy.Range.forIn_eq_forIn_range']
    refine wpAny_forIn_list _ (fun rest b s' => rest = [] ∧ b = ((#[] : Array (Array UInt8)), ([] : List (Value × Option Value))) ∧ s' = s) _ ?turn0 ?fin0 _ _ ?start0
    case start0 => exact ⟨by simp [Std.Legacy.Range.size], rfl, rfl⟩
    case turn0 =>
      intro x rest b s' hh
      exact nomatch hh.1
    case fin0 =>
      intro b s' hh
      rw [hh.2.1, hh.2.2]
      refine wpAny_bind (wpAny_of_eq (show Builtin.Bytes.payload (Value.bytes #[] t) = pure #[] from rfl) ?_)
      rw [if_neg (by decide)]
      show wpAny _ _ (bind (mkBytes (Builtin.Bytes.joined #[] [])) _) _ _ _
      refine wpAny_bind (wpAny_mkBytes (b := #[]) ?_ (Nat.zero_le _))
      refine wpAny_bind (wpAny_holding (wpAny_point ?_))
      refine wpAny_bind (joinLet_none (fun _ hq => nomatch hq) ?_)
      exact wpAny_pure (h _ _)
  · cases hb with
    | cons b u r =>
      cases r
      refine wpAny_bind (wpAny_of_eq (show typeOf (Value.bytes b u) = pure (.type "bytes") from rfl) ?_)
      show wpAny _ _ (rule _ >>= fun _ => _) _ _ _
      refine wpAny_bind (wpAny_rule ?_)
      have := h u s.toks
      simp only [List.foldl_cons, List.foldl_nil, Array.empty_append] at this
      exact wpAny_pure this
  · show wpAny _ _ (bind (forIn _ _ _) _) _ _ _
    refine wpAny_bind ?_
    rw [Std.Legacy.Range.forIn_eq_forIn_range']
    refine wpAny_forIn_list _ (fun rest b s' => ∃ i, rest = List.range' i (bs.length - i) ∧ i ≤ bs.length ∧ b.1.toList = bs.take i ∧ (∀ q ∈ b.2, q.2 = none ∧ q.1.onHeap = false) ∧ s' = s) _ ?turn ?fin _ _ ?start
    case start => exact ⟨0, by simp [Std.Legacy.Range.size, ← hlen], Nat.zero_le _, rfl, (fun _ hq => (nomatch hq)), rfl⟩
    case turn =>
      intro x rest b s' hh
      refine let_goal fun PP back => ?_
      obtain ⟨i, e, hi, hp, ht, hs'⟩ := hh
      refine back ?_
      clear back
      subst hs'
      have hst := range_step e
      have hix := hst.1
      have hlt := hst.2.1
      have hr := hst.2.2
      subst hix
      obtain ⟨u, hu⟩ := bys_get hb hlt
      have hany : (b.2.any fun x => x.1.onHeap) = false := by
        rw [List.any_eq_false]
        intro q hq
        rw [(ht q hq).2]
        decide
      refine wpAny_bind (wpAny_seqItems ho rfl ?_)
      dsimp only
      rw [hany, if_neg (by decide)]
      have hget : (v :: v2 :: r).toArray.getD x Value.none = Value.bytes bs[x] u := by
        rw [Array.getD_eq_getD_getElem?, List.getElem?_toArray, hu]
        rfl
      rw [hget, take_eq]
      refine wpAny_bind (wpAny_holding (wpAny_pure ?_))
      dsimp only
      refine wpAny_bind (wpAny_seqItems ho rfl ?_)
      dsimp only
      rw [if_neg (by simp)]
      refine wpAny_pure ?_
      refine ⟨x + 1, hr, hlt, ?_, ?_, rfl⟩
      · dsimp only
        rw [Array.toList_push, hp, List.take_add_one, List.getElem?_eq_getElem hlt]
        rfl
      · intro q hq
        rcases List.mem_append.mp hq with hq | hq
        · exact ht q hq
        · rw [List.mem_singleton.mp hq]; exact ⟨rfl, rfl⟩
    case fin =>
      intro b s' hh
      refine let_goal fun PP back => ?_
      obtain ⟨i, e, hi, hp, ht, hs'⟩ := hh
      refine back ?_
      clear back
      subst hs'
      have hin : i = bs.length := by
        have := congrArg List.length e
        rw [List.length_range'] at this
        simp only [List.length_nil] at this
        omega
      rw [hin, List.take_length] at hp
      obtain ⟨parts, taken⟩ := b
      obtain ⟨pl⟩ := parts
      dsimp only at hp ht
      subst hp
      refine wpAny_bind (wpAny_of_eq (show Builtin.Bytes.payload (Value.bytes #[] t) = pure #[] from rfl) ?_)
      rw [if_neg (by rw [bys_long hz hz2 (by simp)]; decide)]
      show wpAny _ _ (bind (mkBytes (Builtin.Bytes.joined #[] _)) _) _ _ _
      rw [bys_joined]
      have hz' : 100 * pl.length ≤ sizeLine := by rw [sizeLine_eq]; omega
      refine wpAny_bind (wpAny_mkBytes ?_ (Nat.le_trans (bys_size hz2) hz'))
      refine wpAny_bind (wpAny_holding (wpAny_point ?_))
      refine wpAny_bind (joinLet_none ht ?_)
      exact wpAny_pure (h _ _)
theorem slot_bytes_join : Slot "bytes" "join" "bytes.join" :=
  .of (owner := "bytes") (n := "join") (by rw [typeLookup_type, builtinLookup_eq_fast]; kernel_rfl) (by decide +kernel) (by decide +kernel) (by decide +kernel)
    (by first | exact .inl (by decide +kernel) | exact .inr (by decide +kernel)) (by rw [isSubtype_type]; kernel_rfl)
theorem type_bytes_join : typeOf (.builtin "bytes.join") = pure (.type "method_descriptor") := by show builtinType _ = _; rw [builtinType_eq_fast]; kernel_rfl
theorem entry_bytes_join : entryFor table "bytes.join" = some Builtin.«bytes.join» := entryFor_of_tree (by kernel_rfl)
theorem args_bytes_join (a b : Value) : argsOk "bytes.join" ⟨[a, b], []⟩ := by unfold argsOk; kernel_rfl
theorem bjoin_method {M : Model} {A : Around} {E : Value → Shared → Prop} {s : Shared} {b : Array UInt8} {t : Tok} {pl : Sem Bool} {Q : Value × List Value → Shared → Prop} (h : Q (.builtin "bytes.join", [.bytes b t]) s) : wpAny M A (getMethod (.bytes b t) "join" pl) Q E s := by
  with_reducible exact KBd.method_of (.bytes b t) (typeIs_bytes _ _ _) slot_bytes_join type_bytes_join KBd.noRef h
theorem bjoin_call {prog : Program} {w : World} {A : Around} {E : Value → Shared → Prop} {s : Shared} {l : Addr} {vs : List Value} {bs : List (Array UInt8)} {n : Nat} {t : Tok} {Q : Value → Shared → Prop}
    (ho : s.heap.get? l = some (listOf vs.toArray n)) (hb : BysAre vs bs) (hz : bs.length ≤ 100) (hz2 : ∀ b ∈ bs, b.size ≤ 100)
    (h : ∀ t' tk, Q (.bytes (bs.foldl (· ++ ·) #[]) t') { s with toks := tk }) :
    wpAny (model prog w) A (call (.builtin "bytes.join") [.bytes #[] t, .ref l]) Q E s := by
  refine wpAny_call_entry slot_bytes_join (typeIs_bytes _ _ _) entry_bytes_join ?_ (args_bytes_join _ _)
  exact bjoin_tree ho hb hz hz2 fun t' tk => ⟨_, rfl, h t' tk⟩
theorem slot_bexc_ga : Slot "BaseException" "__getattribute__" "BaseException.__getattribute__" :=
  .of (owner := "BaseException") (n := "__getattribute__") (by rw [typeLookup_type, builtinLookup_eq_fast]; kernel_rfl) (by decide +kernel) (by decide +kernel) (by decide +kernel)
    (by first | exact .inl (by decide +kernel) | exact .inr (by decide +kernel)) (by rw [isSubtype_type]; kernel_rfl)
theorem kind_bexc_ga : builtinKind "BaseException.__getattribute__" = some .slot := by decide +kernel
theorem split_bexc_ga : splitId "BaseException.__getattribute__" = some ("BaseException", "__getattribute__") := by decide +kernel
section
variable {prog : Program} {w : World} {A : Around} {E : Value → Shared → Prop} {s : Shared} {K : Frag} {x C : Addr} {ox : Obj} {es : List DictEntry} {n : Nat} {name : Str} {expr : Bool} {v : Value}
theorem x_getattr {Q : Value → Shared → Prop} (X : K.In s.heap) (I : InstAt s.heap x ox C (some (dictOf es n))) (hga : findIn K (.ref C) "__getattribute__" = some (some (.builtin "BaseException.__getattribute__"))) (hgr : findIn K (.ref C) "__getattr__" = some none)
    (hp : excOver K C = true) (hf : findObj K C (some (dictOf es n)) name = some (.value v)) (hh : handedIn v = true) (h : Q v { s with toks := s.toks + 1 }) : wpAny (model prog w) A (getAttr (.ref x) name expr) Q E s := by
  have L0 := I.type (M := model prog w)
  have L1 := looks_findIn (M := model prog w) X hga
  have L2 := looks_findIn (M := model prog w) X hgr
  have L3 := looks_find (M := model prog w) X I hf
  obtain ⟨cd, hc, ho⟩ := any_some hp
  obtain ⟨hd, ho⟩ := Bool.and_eq_true_iff.mp ho
  have ho := beq_iff_eq.mp ho
  have sub : Looks (model prog w) s.heap (isInstance (.ref x) (.type "BaseException")) true := L0.andThen (looks_mroIn X (by unfold mroIn; rw [hc, Option.bind_some, ho]; rfl))
  obtain ⟨hh', g, d, t, os⟩ := s
  unfold getAttr getAttrBy
  refine wpAny_bind (wpAny_mkText (wpAny_holding (wpAny_bind (L0.at (wpAny_bind (L1.at ?_))))))
  show wpAny _ _ (getAttrByItsOwn _ _ _ _ _ _) _ _ _
  unfold getAttrByItsOwn hookBefore
  refine wpAny_bind ?_
  show wpAny _ _ (typeLookup (.ref C) "__getattr__") _ _ _
  refine L2.at ?_
  refine wpAny_bind (wpAny_attempt (wpAny_holding ?_))
  unfold callGetattribute
  rw [show (expr && onTheHeap (Value.builtin "BaseException.__getattribute__")) = false by cases expr <;> rfl]
  show wpAny _ _ (boundAndCalled _ _ _) _ _ _
  unfold boundAndCalled
  rw [slot_bexc_ga.bind]
  refine wpAny_bind (wpAny_pure (wpAny_call ?_))
  refine codeAny_call_builtin slot_bexc_ga.plain F.entry_bexc_ga (@check_slot (model prog w) _ _ _ "BaseException.__getattribute__" "BaseException" "__getattribute__" (.ref x) [.str name t] [] _ kind_bexc_ga split_bexc_ga sub (F.args_bexc_ga _ _) ?_)
  unfold Builtin.«object.__getattribute__»
  refine wpAny_bind (wpAny_pure (wpAny_bind (wpAny_pure (wpAny_bind (L0.at (wpAny_bind (L3.at ?_)))))))
  refine wpAny_pure ?_
  show wpAny _ _ (handedOut v) _ _ _
  rw [handedOut_of hh]
  exact wpAny_pure h
end
theorem slot_ba_len : Slot "bytearray" "__len__" "bytearray.__len__" :=
  .of (owner := "bytearray") (n := "__len__") (by rw [typeLookup_type, builtinLookup_eq_fast]; kernel_rfl) (by decide +kernel) (by decide +kernel) (by decide +kernel)
    (by first | exact .inl (by decide +kernel) | exact .inr (by decide +kernel)) (by rw [isSubtype_type]; kernel_rfl)
theorem entry_ba_len : entryFor table "bytearray.__len__" = some Builtin.«bytearray.__len__» := entryFor_of_tree (by kernel_rfl)
theorem args_ba_len (a : Value) : argsOk "bytearray.__len__" ⟨[a], []⟩ := by unfold argsOk; kernel_rfl
theorem ba_no_bytes : typeLookup (.type "bytearray") "__bytes__" = pure none := by rw [typeLookup_type, builtinLookup_eq_fast]; kernel_rfl
theorem ba_no_index : typeLookup (.type "bytearray") "__index__" = pure none := by rw [typeLookup_type, builtinLookup_eq_fast]; kernel_rfl
theorem ba_buffer : typeLookup (.type "bytearray") "__buffer__" = pure (some (.builtin "bytearray.__buffer__")) := by rw [typeLookup_type, builtinLookup_eq_fast]; kernel_rfl
theorem ba_release : typeLookup (.type "bytearray") "__release_buffer__" = pure (some (.builtin "bytearray.__release_buffer__")) := by rw [typeLookup_type, builtinLookup_eq_fast]; kernel_rfl
theorem ba_sub : isSubtype (.type "bytearray") (.type "bytearray") = pure true := by rw [isSubtype_type]; kernel_rfl
section
variable {prog : Program} {w : World} {A : Around} {E : Value → Shared → Prop} {s : Shared}
theorem ba_payload {BA : Addr} {b : Array UInt8} {Q : Array UInt8 → Shared → Prop} (ho : s.heap.get? BA = some (baO b)) (h : Q b s) : wpAny (model prog w) A (Builtin.Bytes.payload (.ref BA)) Q E s := by
  unfold Builtin.Bytes.payload Builtin.Bytes.payload?
  exact wpAny_bind (wpAny_bind (wpAny_load ho (wpAny_pure (wpAny_pure h))))
theorem len_ba {BA : Addr} {b : Array UInt8} {Q : Value → Shared → Prop} (ho : s.heap.get? BA = some (baO b)) (hfit : b.size ≤ 1000)
    (h : Q (.int b.size (s.toks + 1)) { s with toks := s.toks + 1 + 1 }) : wpAny (model prog w) A (call (.builtin "len") [.ref BA]) Q E s := by
  have hT : s.TypeIs (.ref BA) "bytearray" := ⟨_, ho, rfl⟩
  refine Calls.call_function_entry kind_len plain_len entry_len (args_len1 _) ?_
  unfold Builtin.«len»
  refine wpAny_bind (m := oneArg "len" _) (wpAny_pure ?_)
  refine wpAny_bind (m := callSpecial? (.ref BA) (Str.ofString "__len__")) (wpAny_callSpecial?_slot (name := Str.ofString "__len__") hT slot_ba_len
    (wpAny_call_entry slot_ba_len hT entry_ba_len ?_ (args_ba_len _)))
  unfold Builtin.«bytearray.__len__»
  refine wpAny_bind (wpAny_of_eq (show slotArgs "__len__" 0 ⟨[Value.ref BA], []⟩ = pure (Value.ref BA, []) from rfl) ?_)
  refine wpAny_bind (ba_payload ho ?_)
  refine wpAny_bind (wpAny_mkInt (wpAny_pure ⟨_, rfl, ?_⟩))
  refine wpAny_bind (wpAny_holding (wpAny_pure ?_))
  refine wpAny_bind (wpAny_letGo ?_)
  show wpAny _ _ (if ((b.size : Nat) : Int) < 0 then _ else _) _ _ _
  rw [if_neg (by omega)]
  show wpAny _ _ (if ((b.size : Nat) : Int) ≥ 2 ^ 63 then _ else _) _ _ _
  rw [if_neg (by omega)]
  exact wpAny_bind (wpAny_mkInt (wpAny_pure ⟨_, rfl, h⟩))
theorem own_ba {BA : Addr} {b : Array UInt8} {nm : String} {id : String} {Q : Bool → Shared → Prop} (ho : s.heap.get? BA = some (baO b)) (hl : typeLookup (.type "bytearray") (nm : Str) = pure (some (.builtin id))) (he : id.endsWith ("." ++ nm) = true) (hd : id.dropRight (nm.length + 1) = "bytearray") (h : Q true s) :
    wpAny (model prog w) A (Builtin.Bytes.slotIsOwn (.ref BA) nm) Q E s := by
  have hT : s.TypeIs (.ref BA) "bytearray" := ⟨_, ho, rfl⟩
  unfold Builtin.Bytes.slotIsOwn
  refine wpAny_bind (wpAny_specialOf hT hl ?_)
  try dsimp only
  rw [he, hd]
  refine bm_if_false rfl ?_
  exact wpAny_isInstance hT ba_sub h
theorem bytes_ba_new {BA : Addr} {b : Array UInt8} {Q : Value → Shared → Prop} (ho : s.heap.get? BA = some (baO b)) (hz : b.size ≤ 1000)
    (hQ : ∀ t k, Q (.bytes b t) { s with toks := k }) :
    codeAny (model prog w) A (.call (.builtin "bytes.__new__") ⟨[.type "bytes", .ref BA], []⟩) (wants Q E) s := by
  refine codeAny_of_tree ?_
  show wpAny _ A.in1 (do checkBuiltinCall "bytes.__new__" ⟨[.type "bytes", .ref BA], []⟩; again (.builtin "bytes.__new__" ⟨[.type "bytes", .ref BA], []⟩)) _ _ s
  refine wpAny_bind (wpAny_of_eq (F.bm_newCall _) (wpAny_pure ⟨plainId_quiet F.bm_plain _, codeAny_builtin F.bm_entry ?_⟩))
  rw [Around.under_plainId F.bm_plain _]
  have hT : s.TypeIs (.ref BA) "bytearray" := ⟨_, ho, rfl⟩
  unfold Builtin.«bytes.__new__»
  refine wpAny_bind (wpAny_of_eq (a := true) rfl ?_)
  refine bm_if_false rfl ?_
  refine wpAny_bind (wpAny_of_eq F.bm_sub ?_)
  refine bm_if_false rfl ?_
  refine wpAny_bind (wpAny_of_eq (F.bm_bind _) ?_)
  refine wpAny_bind (wpAny_of_eq (a := ()) rfl ?_)
  refine wpAny_bind (wpAny_of_eq (a := ()) rfl ?_)
  refine bm_if_false rfl ?_
  refine wpAny_bind (wpAny_specialOf hT ba_no_bytes ?_)
  refine wpAny_bind (wpAny_bind ?_)
  show wpAny _ _ (load BA >>= _) _ _ _
  refine wpAny_bind (wpAny_load ho ?_)
  refine wpAny_pure (wpAny_pure ?_)
  refine bm_if_false rfl ?_
  refine wpAny_bind (wpAny_specialOf hT ba_no_index ?_)
  refine bm_if_true rfl ?_
  first
    | show wpAny _ _ (Builtin.Bytes.buffer? "bytes.__new__" (.ref BA) true >>= _) _ _ _
    | (refine wpAny_bind ?_; show wpAny _ _ (Builtin.Bytes.buffer? "bytes.__new__" (.ref BA) true >>= _) _ _ _)
  refine wpAny_bind ?_
  unfold Builtin.Bytes.buffer?
  refine wpAny_bind (wpAny_specialOf hT ba_buffer ?_)
  try dsimp only
  refine wpAny_bind (own_ba ho ba_buffer (by decide +kernel) (by decide +kernel) ?_)
  refine bm_if_false rfl ?_
  refine wpAny_bind (wpAny_specialOf hT ba_buffer ?_)
  try dsimp only
  unfold Builtin.Bytes.ownRelease
  refine wpAny_bind (wpAny_bind (own_ba ho ba_release (by decide +kernel) (by decide +kernel) (wpAny_pure ?_)))
  refine bm_if_false rfl ?_
  refine wpAny_bind (ba_payload ho (wpAny_pure ?_))
  refine wpAny_bind (wpAny_rule ?_)
  refine wpAny_bind (wpAny_mkBytes ?_ (by rw [sizeLine_eq]; omega))
  show wpAny _ _ (if (Value.type "bytes" == Value.type "bytes") = true then _ else _) _ _ _
  refine bm_if_true rfl ?_
  exact wpAny_pure (hQ _ _)
theorem call_bytes_ba {BA : Addr} {b : Array UInt8} {Q : Value → Shared → Prop} (ho : s.heap.get? BA = some (baO b)) (hz : b.size ≤ 1000)
    (hQ : ∀ t k, Q (.bytes b t) { s with toks := k }) : wpAny (model prog w) A (call (.type "bytes") [.ref BA]) Q E s := by
  refine callType_codes (Q₁ := fun obj s₁ => s₁.TypeIs obj "bytes" ∧ Q obj s₁) F.bm_called (F.bm_typeCall _) F.entry_object_init
    (bytes_ba_new ho hz fun t k => ⟨PySem.W.typeIs_bytes _ _ _, hQ t k⟩) fun obj s₁ h₁ => ?_
  exact ⟨h₁.1, F.args_object_init_2 obj _, object_init_meets F.bm_called.init.lookup F.bm_called.made (by decide) prog w A.in1 _ s₁ ⟨h₁.1, rfl, h₁.2⟩⟩
theorem int_no_bytes : typeLookup (.type "int") "__bytes__" = pure none := by rw [typeLookup_type, builtinLookup_eq_fast]; kernel_rfl
theorem int_index : typeLookup (.type "int") "__index__" = pure (some (.builtin "int.__index__")) := by rw [typeLookup_type, builtinLookup_eq_fast]; kernel_rfl
theorem bytes_int_new {n : Int} {u : Tok} {Q : Value → Shared → Prop} (h0 : 0 ≤ n) (h1 : n ≤ 1000)
    (hQ : ∀ t k, Q (.bytes (Array.replicate n.toNat 0) t) { s with toks := k }) :
    codeAny (model prog w) A (.call (.builtin "bytes.__new__") ⟨[.type "bytes", .int n u], []⟩) (wants Q E) s := by
  refine codeAny_of_tree ?_
  show wpAny _ A.in1 (do checkBuiltinCall "bytes.__new__" ⟨[.type "bytes", .int n u], []⟩; again (.builtin "bytes.__new__" ⟨[.type "bytes", .int n u], []⟩)) _ _ s
  refine wpAny_bind (wpAny_of_eq (F.bm_newCall _) (wpAny_pure ⟨plainId_quiet F.bm_plain _, codeAny_builtin F.bm_entry ?_⟩))
  rw [Around.under_plainId F.bm_plain _]
  have hT : s.TypeIs (.int n u) "int" := rfl
  unfold Builtin.«bytes.__new__»
  refine wpAny_bind (wpAny_of_eq (a := true) rfl ?_)
  refine bm_if_false rfl ?_
  refine wpAny_bind (wpAny_of_eq F.bm_sub ?_)
  refine bm_if_false rfl ?_
  refine wpAny_bind (wpAny_of_eq (F.bm_bind _) ?_)
  refine wpAny_bind (wpAny_of_eq (a := ()) rfl ?_)
  refine wpAny_bind (wpAny_of_eq (a := ()) rfl ?_)
  refine bm_if_false rfl ?_
  refine wpAny_bind (wpAny_specialOf hT int_no_bytes ?_)
  dsimp only
  refine wpAny_bind (wpAny_of_eq (a := false) rfl ?_)
  refine bm_if_false rfl ?_
  refine wpAny_bind (wpAny_specialOf hT int_index ?_)
  refine bm_if_false rfl ?_
  refine wpAny_bind (wpAny_attempt (wpAny_of_eq (a := n) rfl ?_))
  dsimp only
  refine bm_if_false ?_ ?_
  · unfold Builtin.Bytes.fitsIndex
    simp; omega
  rw [if_neg (by omega)]
  rw [if_neg (by omega)]
  refine bm_if_false ?_ ?_
  · unfold Builtin.Bytes.tooLong
    rw [sizeLine_eq]; simp; omega
  refine wpAny_bind (wpAny_rule ?_)
  refine wpAny_bind (wpAny_mkBytes ?_ (by rw [sizeLine_eq, Array.size_replicate]; omega))
  show wpAny _ _ (if (Value.type "bytes" == Value.type "bytes") = true then _ else _) _ _ _
  refine bm_if_true rfl ?_
  exact wpAny_pure (hQ _ _)
theorem call_bytes_int {n : Int} {u : Tok} {Q : Value → Shared → Prop} (h0 : 0 ≤ n) (h1 : n ≤ 1000)
    (hQ : ∀ t k, Q (.bytes (Array.replicate n.toNat 0) t) { s with toks := k }) : wpAny (model prog w) A (call (.type "bytes") [.int n u]) Q E s := by
  refine callType_codes (Q₁ := fun obj s₁ => s₁.TypeIs obj "bytes" ∧ Q obj s₁) F.bm_called (F.bm_typeCall _) F.entry_object_init
    (bytes_int_new h0 h1 fun t k => ⟨PySem.W.typeIs_bytes _ _ _, hQ t k⟩) fun obj s₁ h₁ => ?_
  exact ⟨h₁.1, F.args_object_init_2 obj _, object_init_meets F.bm_called.init.lookup F.bm_called.made (by decide) prog w A.in1 _ s₁ ⟨h₁.1, rfl, h₁.2⟩⟩
end
theorem item_int {prog : Program} {w : World} {A : Around} {E : Value → Shared → Prop} {s : Shared} {h₀ : Heap} {L D : Addr} {news : List (Addr × Obj)} {vs : List Value} {l : List Int} {e i : Nat} {k : Int} {u : Tok} {value slice : Expr} {Q : Value → Shared → Prop}
    (N : News h₀ L s.heap news) (hm : (D, listOf vs.toArray e) ∈ news) (hi : IntsAre vs l) (hk : l[i]? = some k) (hz : l.length ≤ 100) (h : ∀ t, Q (.int k t) s)
    (hs : subscripted slice false (.ref D) (.int (i : Nat) u) = operate [.ref D, .int (i : Nat) u] (getItem (.ref D) (.int (i : Nat) u)) := by with_unfolding_all rfl) :
    wpAny (model prog w) A (subscriptTail value slice (.ref D) (.int (i : Nat) u)) Q E s := by
  have hlt : i < l.length := (List.getElem?_eq_some_iff.mp hk).1
  obtain ⟨t, ht⟩ := hi.get i k hk
  have hl : s.heap.IsList D vs.toArray := PySem.IsL.isList (n := e) (N _ hm).1
  exact PyProof.Rows.tail_any hl.typeIs PySem.F.slot_list_getitem.lookup (wpAny_getItem_list hl (by omega) (by omega) (x := .int k t) (by simpa using ht) (h t)) hs
/-! enumerate over a made list by an invariant of our own -/
def TurnEnd2 (h₀ : Heap) (L : Addr) (J : (Str → Option Value) → List (Addr × Obj) → Prop) (Ie Il : Addr) (oe ol : Obj) (s₁ : Shared) (Q : Flow → Shared → Prop) (f : Flow) (s₂ : Shared) : Prop :=
  match f with
  | .ret v => Q (.ret v) s₂
  | .brk => Q .next s₂
  | _ => ∃ h' tk m' nw, s₂ = { s₁ with heap := h', toks := tk } ∧ Fr h₀ L h' m' ∧ News h₀ L h' ((Ie, oe) :: (Il, ol) :: nw) ∧ (∀ p ∈ nw, p.1 ≠ Ie ∧ p.1 ≠ Il) ∧ J m' nw
theorem TurnEnd2.next {h₀ h' : Heap} {L : Addr} {J : (Str → Option Value) → List (Addr × Obj) → Prop} {Ie Il : Addr} {oe ol : Obj} {s₁ : Shared} {Q : Flow → Shared → Prop} {tk : Nat} {m' : Str → Option Value} {news : List (Addr × Obj)} (nw : List (Addr × Obj))
    (F : Fr h₀ L h' m') (N : News h₀ L h' news) (hs : ∀ p ∈ (Ie, oe) :: (Il, ol) :: nw, p ∈ news) (ho : ∀ p ∈ nw, p.1 ≠ Ie ∧ p.1 ≠ Il) (hJ : J m' nw) : TurnEnd2 h₀ L J Ie Il oe ol s₁ Q .next { s₁ with heap := h', toks := tk } :=
  ⟨h', tk, m', nw, rfl, F, fun p hp => N p (hs p hp), ho, hJ⟩
section
variable {prog : Program} {w : World} {A : Around} {E : Value → Shared → Prop} {s : Shared} {env : Env} {h₀ : Heap} {body : List Stmt} {Q : Flow → Shared → Prop} {m₀ : Str → Option Value} {news : List (Addr × Obj)}
theorem loop_enum {elts : List Expr} {k : Nat} {pos : Pos} {l L : Addr} {items : List Value} {le : Nat} (J : Nat → (Str → Option Value) → List (Addr × Obj) → Prop) (hh : A.handled = none) (hL : env.locals = L)
    (F : Fr h₀ L s.heap m₀) (N : News h₀ L s.heap news) (hm : (l, listOf items.toArray le) ∈ news) (h0 : J 0 m₀ news) (hJm : ∀ i m nw, J i m nw → (l, listOf items.toArray le) ∈ nw)
    (turn : ∀ i v t T m₁ nw Ie Il oe ol h tk, items[i]? = some v → J i m₁ nw → oe.cls = .type "enumerate" → ol.cls = .type "list_iterator" → (∀ p ∈ nw, p.1 ≠ Ie ∧ p.1 ≠ Il) → IsTup h T #[.int ((i : Nat) : Int) t, v] → Fr h₀ L h m₁ → News h₀ L h ((Ie, oe) :: (Il, ol) :: nw) →
      wpAny (model prog w) A (assign (.Tuple elts k pos) env (.ref T)) (fun _ s₂ => wpAny (model prog w) A (execs body env) (TurnEnd2 h₀ L (J (i + 1)) Ie Il oe ol { s with heap := h, toks := tk } Q) E s₂) E { s with heap := h, toks := tk })
    (done : ∀ m₁ nw h tk, J items.length m₁ nw → Fr h₀ L h m₁ → News h₀ L h nw → Q .next { s with heap := h, toks := tk }) :
    wpAny (model prog w) A (call (.type "enumerate") [.ref l]) (fun xv s₁ => wpAny (model prog w) A (pyIter xv) (fun it s₂ => TurnsAt prog w A h₀ env (.Tuple elts k pos) body Q E it s₂) E s₁) E s := by
  subst hL
  have hax := N _ hm
  have hl : s.heap.IsList l items.toArray := PySem.IsL.isList (n := le) hax.1
  have hlt : l < s.heap.objs.size := Heap.lt_size hax.1
  have hLs : env.locals < s.heap.objs.size := F.ns.lt
  refine call_enumerate_list hl fun h' hE hI hsz hk => ?_
  refine wpAny_pyIter_enum hE ?_
  have nN : ∀ p ∈ news, p.1 < s.heap.objs.size := fun p hp => Heap.lt_size (N p hp).1
  have W := KTurns.ofWalksU (elts := elts) (k := k) (pos := pos) (WalksT.enumerate (prog := prog) (w := w) hh (s.heap.objs.size + 1) s.heap.objs.size l (Nat.succ_ne_self _) (ktu_ne 1 hlt) (Nat.ne_of_lt hlt) items.toArray).toU
  rw [List.size_toArray] at W
  refine ⟨_, _, _, _, _, _, _, m₀, news, J, rfl, W, ?_, ?_, ?_, ⟨⟨.none, hE⟩, hI, hl.at fun o x => hk _ _ x⟩, F.keeps hk, N.grown hk, h0, ?_, fun h' tk m' nw F' N' _ hJ => done m' nw h' tk hJ F' N'⟩
  · intro hI'
    have hb' : env.locals = s.heap.objs.size + 1 ∨ env.locals = s.heap.objs.size ∨ env.locals = l := by simpa using hI'
    rcases hb' with e | e | e
    · exact ktu_ne 1 hLs e
    · exact Nat.ne_of_lt hLs e
    · exact hax.2.1 e.symm
  · intro b hb
    have hb' : b = s.heap.objs.size + 1 ∨ b = s.heap.objs.size := by simpa using hb
    rcases hb' with rfl | rfl
    · exact ktu_new F (Nat.le_add_right _ _)
    · exact ktu_new F (Nat.le_refl _)
  · intro p hp hI'
    have hb' : p.1 = s.heap.objs.size + 1 ∨ p.1 = s.heap.objs.size := by simpa using hI'
    have hlp := nN p hp
    rcases hb' with e | e
    · exact ktu_ne 1 hlp e
    · exact Nat.ne_of_lt hlp e
  · rintro i v m₁ nw h₁ tk₁ own hi hP hJ hoff hown hget hall hst F₁ N₁
    obtain ⟨T, vals, rfl, ⟨t, x, hx, rfl⟩, hT⟩ := hP
    obtain ⟨⟨old, he⟩, ⟨oi, hoi, hic, _⟩, _⟩ := hst
    obtain ⟨oe, h1, h2⟩ : ∃ oe : Obj, h₁.get? (s.heap.objs.size + 1) = some oe ∧ oe.cls = .type "enumerate" := ⟨_, he, rfl⟩
    have n1 : h₀.get? (s.heap.objs.size + 1) = none := ktu_new F (Nat.le_add_right _ _)
    have n2 : h₀.get? s.heap.objs.size = none := ktu_new F (Nat.le_refl _)
    have hoff' : ∀ p ∈ nw, p.1 ≠ s.heap.objs.size + 1 ∧ p.1 ≠ s.heap.objs.size := fun p hp => ⟨fun e => hoff p hp (by rw [e]; exact .head _), fun e => hoff p hp (by rw [e]; exact .tail _ (.head _))⟩
    have N₂ : News h₀ env.locals h₁ ((s.heap.objs.size + 1, oe) :: (s.heap.objs.size, oi) :: nw) := fun p hp => by
      rcases List.mem_cons.mp hp with rfl | hp
      · exact N₁ _ (List.mem_append_left _ (hall _ (.head _) n1 _ h1))
      rcases List.mem_cons.mp hp with rfl | hp
      · exact N₁ _ (List.mem_append_left _ (hall _ (.tail _ (.head _)) n2 _ hoi))
      · exact N₁ p (List.mem_append_right _ hp)
    have fin : ∀ s₃, (∃ h' tk m' nw', s₃ = { ({ s with heap := h₁, toks := tk₁ } : Shared) with heap := h', toks := tk } ∧ Fr h₀ env.locals h' m' ∧ News h₀ env.locals h' ((s.heap.objs.size + 1, oe) :: (s.heap.objs.size, oi) :: nw') ∧ (∀ p ∈ nw', p.1 ≠ s.heap.objs.size + 1 ∧ p.1 ≠ s.heap.objs.size) ∧ J (i + 1) m' nw') →
        LoopStepU h₀ env.locals [s.heap.objs.size + 1, s.heap.objs.size] own (J (i + 1)) { s with heap := h₁, toks := tk₁ } .next s₃ := by
      rintro s₃ ⟨h', tk, m', nw', rfl, F', N', ho, hJ'⟩
      refine ⟨rfl, h', tk, m', nw', rfl, F', ?_, fun p hp hI => ?_, hJ'⟩
      · rintro ⟨pa, po⟩ hp
        rcases List.mem_append.mp hp with hp | hp
        · have e : h₁.get? pa = some po := hget _ hp
          have hb' : pa = s.heap.objs.size + 1 ∨ pa = s.heap.objs.size ∨ pa = l := by simpa using hown _ hp
          rcases hb' with rfl | rfl | rfl
          · obtain rfl := Option.some.inj (h1.symm.trans e)
            exact N' _ (.head _)
          · obtain rfl := Option.some.inj (hoi.symm.trans e)
            exact N' _ (.tail _ (.head _))
          · have e2 := (N₁ _ (List.mem_append_right _ (hJm _ _ _ hJ))).1
            obtain rfl := Option.some.inj (e2.symm.trans e)
            exact N' _ (.tail _ (.tail _ (hJm _ _ _ hJ')))
        · exact N' _ (.tail _ (.tail _ hp))
      · have hb' : p.1 = s.heap.objs.size + 1 ∨ p.1 = s.heap.objs.size := by simpa using hI
        rcases hb' with e | e
        · exact (ho p hp).1 e
        · exact (ho p hp).2 e
    refine wpAny_mono (turn i x t T m₁ nw _ _ oe oi h₁ tk₁ (by simpa using hx) hJ h2 hic hoff' hT F₁ N₂) (fun _ s₂ z => wpAny_mono z (fun f s₃ y => ?_) fun _ _ e => e) fun _ _ e => e
    cases f with
    | ret v => exact .ret y
    | brk => exact .brk y
    | next => exact .next (fin _ y)
    | cont => exact .cont (fin _ y)
end
section
variable {prog : Program} {w : World} {A : Around} {E : Value → Shared → Prop} {s : Shared} {env : Env} {h₀ : Heap} {body : List Stmt} {Q : Flow → Shared → Prop} {m₀ : Str → Option Value} {news : List (Addr × Obj)} {L : Addr} {x : Str} {px : Pos}
/-- a range by an own invariant, its target a name of any kind -/
theorem loop_rangeT {r : Addr} {ra rb rc : Int} {t u v : Tok} {n : Nat} (J : Nat → (Str → Option Value) → List (Addr × Obj) → Prop) (hh : A.handled = none) (hL : env.locals = L)
    (F : Fr h₀ L s.heap m₀) (N : News h₀ L s.heap news) (hr : IsRange s.heap r ra rb rc t u v) (hsm : Builtin.Range.small ra rb rc = true) (hn : Builtin.Range.rangeSize ra rb rc = ((n : Nat) : Int)) (h0 : J 0 m₀ news)
    (turn : ∀ i t m₁ nw I oI h tk, i < n → oI.cls = .type "range_iterator" → J i m₁ nw → (∀ p ∈ nw, p.1 ≠ I) → Fr h₀ L h m₁ → News h₀ L h ((I, oI) :: nw) →
      wpAny (model prog w) A (assign (.Name x px) env (.int (ra + i * rc) t)) (fun _ s₂ => wpAny (model prog w) A (execs body env) (TurnEnd h₀ L (J (i + 1)) I oI { s with heap := h, toks := tk } Q) E s₂) E { s with heap := h, toks := tk })
    (done : ∀ m₁ nw h tk, J n m₁ nw → Fr h₀ L h m₁ → News h₀ L h nw → Q .next { s with heap := h, toks := tk }) :
    wpAny (model prog w) A (pyIter (.ref r)) (fun it s₂ => TurnsAt prog w A h₀ env (.Name x px) body Q E it s₂) E s := by
  subst hL
  refine wpAny_pyIter_range hr hsm ?_
  have F' := F.push { cls := .type "range_iterator", data := .fields #[rawInt ra, rawInt (Builtin.Range.rangeSize ra rb rc), rawInt rc] }
  have W := KTurns.ofWalks (target := .Name x px) (Walks.range (prog := prog) (w := w) hh s.heap.objs.size ra rc n) (fun i v s' Q' E' _ q => wpAny_pure q)
  have nN : ∀ p ∈ news, p.1 ≠ s.heap.objs.size := fun p hp => Nat.ne_of_lt (Heap.lt_size (N p hp).1)
  refine ⟨_, _, _, _, _, _, _, m₀, news, J, rfl, W, ?_, ?_, fun p hp hI => nN p hp (List.mem_singleton.mp hI), ?_, F', News.pushKeep N _, h0, ?_, fun h' tk m' nw F' N' _ hJ => done m' nw h' tk hJ F' N'⟩
  · intro hI
    exact absurd F.ns.lt ((List.mem_singleton.mp hI) ▸ Nat.lt_irrefl _)
  · intro b hb
    rw [List.mem_singleton.mp hb]
    exact next_is_new F
  · show IsRangeIter _ _ _ _ _
    rw [hn]
    simpa using Heap.get?_push_size _ rfl
  · rintro i v m₁ nw h₁ tk₁ own hi ⟨t', rfl⟩ hJ hoff hown hget hall hst F₁ N₁
    obtain ⟨oI, eI, hcl⟩ : ∃ o : Obj, h₁.get? s.heap.objs.size = some o ∧ o.cls = .type "range_iterator" := ⟨_, hst, rfl⟩
    have n1 : h₀.get? s.heap.objs.size = none := next_is_new F
    have hoff' : ∀ p ∈ nw, p.1 ≠ s.heap.objs.size := fun p hp e => hoff p hp (by rw [e]; exact .head _)
    have N₂ : News h₀ env.locals h₁ ((s.heap.objs.size, oI) :: nw) := fun p hp => by
      rcases List.mem_cons.mp hp with rfl | hp
      · exact N₁ _ (List.mem_append_left _ (hall _ (.head _) n1 _ eI))
      · exact N₁ p (List.mem_append_right _ hp)
    have fin : ∀ s₃, (∃ h' tk m' nw', s₃ = { ({ s with heap := h₁, toks := tk₁ } : Shared) with heap := h', toks := tk } ∧ Fr h₀ env.locals h' m' ∧ News h₀ env.locals h' ((s.heap.objs.size, oI) :: nw') ∧ (∀ p ∈ nw', p.1 ≠ s.heap.objs.size) ∧ J (i + 1) m' nw') →
        LoopStepU h₀ env.locals [s.heap.objs.size] own (J (i + 1)) { s with heap := h₁, toks := tk₁ } .next s₃ := by
      rintro s₃ ⟨h', tk, m', nw', rfl, F', N', ho, hJ'⟩
      refine ⟨rfl, h', tk, m', nw', rfl, F', ?_, fun p hp hI => ho p hp (List.mem_singleton.mp hI), hJ'⟩
      rintro ⟨pa, po⟩ hp
      rcases List.mem_append.mp hp with hp | hp
      · have e : h₁.get? pa = some po := hget _ hp
        have hb' : pa = s.heap.objs.size := by simpa using hown _ hp
        subst hb'
        obtain rfl := Option.some.inj (eI.symm.trans e)
        exact N' _ (.head _)
      · exact N' _ (.tail _ hp)
    refine wpAny_mono (turn i t' m₁ nw _ oI h₁ tk₁ hi hcl hJ hoff' F₁ N₂) (fun _ s₂ z => wpAny_mono z (fun f s₃ y => ?_) fun _ _ e => e) fun _ _ e => e
    cases f with
    | ret v => exact .ret y
    | brk => exact .brk y
    | next => exact .next (fin _ y)
    | cont => exact .cont (fin _ y)
end
theorem k_known : PySem.Challenge.rw_nz0115_01.foot = 9 ∧ hd.heap_1 = hd.heap_1 := by w_top off; k_fill; exact ⟨rfl, rfl⟩
theorem zs1 : True := by w_top off; trivial
section Z1
local macro_rules | `(tactic| k_lt $h) => kltT h.getId.eraseMacroScopes
local macro_rules | `(tactic| k_ne) => kneT
local macro_rules | `(tactic| k_mem) => `(tactic| k_lt kmem)
local macro_rules | `(tactic| ktr_room) => rmT []
local macro_rules | `(tactic| ktr_units) => `(tactic| ktr_room)
local macro_rules | `(tactic| k_room) => `(tactic| ktr_room)
local macro_rules | `(tactic| k_units) => `(tactic| ktr_room)
local macro_rules | `(tactic| units_room) => `(tactic| ktr_room)
local macro_rules | `(tactic| ktr_rel) => relT
local macro_rules | `(tactic| ktn_open) => opnT
local macro_rules | `(tactic| k_all) => allT
local macro_rules | `(tactic| walk_at $s) => lines s [
  ("setItem ref int", here (sq (dfl (alt [sq (shA "setItem _ (Value.int 1 _) _") (whole (fill "m_set1" "aau_")), sq (shA "setItem _ (Value.int 2 _) _") (whole (fill "m_set2" "aau_"))])) (sq (ins 3) swp))),
  ("binaryOp FloorDiv int int", divT),
  ("call builtin:list.pop", popT),
  ("call builtin:len", here (sq (shA "call (Value.builtin _) (List.cons (Value.ref _) List.nil)") (dfl (whole (fill "m_len" "amH_"))))),
  ("subscriptTail", here (sq (shA "subscriptTail _ _ (Value.ref _) (Value.int _ _)") (sq (dfl (whole (fill "m_item" "amHHH_w"))) (ins 2))))]
section Z2
local macro_rules | `(tactic| walk_at $s) => foldM s
section Z3
local macro_rules | `(tactic| walk_at $s) => lines s [
  ("call ref", cl 54 "tf_c" "aaaaaeRS_" 14),
  ("exec Raise some none", here (rf "x_raise rfl ?_")),
  ("RaiseB", here (dfl (whole (fill "raiseB_intro" "aaam_")))),
  ("leaving ref", leaveT)]
theorem draw_c {w : World} {mean : ExcName → Option Value} {mg mb : Str → Option Value} {dp un : Nat} {gd : Option (List Code)} {cn : Str} {cs : Scope} {a : Addr} {ccd : Value} {cl : List (Str × Addr)} {outer : List Env} {A₀ : Around} {base h₀ : Heap} {L : Addr} {m : Str → Option Value} {s : Shared} {Q E : Value → Shared → Prop}
    {P C : Addr} {oP oC : Obj} {rest : List (Addr × Obj)} {many : Int} {tk : Tok}
    (B : Below A₀ base outer h₀) (F : Fr h₀ L s.heap m) (X : (hd.heap_1 w.params).In h₀)
    (N : News h₀ L s.heap ((P, oP) :: (C, oC) :: rest))
    (T : Top vw (looseW vw [Str.ofString "ShapeError"]) mean mg mb h₀) (hk : cs.kind = .function)
    (hpen : Pen oP oC C) (hmany : 0 < many) (hne : @Ne Nat P C) (hP : ∀ p ∈ rest, p.1 ≠ P) (hC : ∀ p ∈ rest, p.1 ≠ C)
    (hdp : dp < 500) (hun : un < 5000)
    (ret : ∀ r t h' tk' oP' oC', 0 ≤ r → r < many → Pen oP' oC' C → Fr h₀ L h' m → News h₀ L h' ((P, oP') :: (C, oC') :: rest) → Q (.int r t) { s with heap := h', toks := tk' }) :
    wpAny (model Challenge.pw_nz0115_01 w) (ktrTop dp un gd cn cs L a ccd cl outer) (call (.ref 283) [.ref P, .int many tk]) Q E s := by
  obtain ⟨n, d, t1, t2, e1, e2, vs, ns, rfl, rfl, hi, hz⟩ := hpen
  refine wpAny_call ?_
  k_dflt ktr_enter
  refine wpAny_letA ?_; intro ak
  k_steps
  all_goals (refine' ret _ _ _ _ _ _ ?r1 ?r2 ?r3 ?r4 ?r5; (case r4 => k_asm); (case r5 => first | k_asm | exact news_tail (by k_asm)); (case r1 => exact Int.fmod_nonneg_of_pos _ hmany); (case r2 => exact Int.fmod_lt_of_pos _ hmany); (case r3 => exact Pen.of (by assumption) (by assumption)))
theorem draw_u {w : World} {mean : ExcName → Option Value} {mg mb : Str → Option Value} {dp un : Nat} {gd : Option (List Code)} {cn : Str} {cs : Scope} {a : Addr} {ccd : Value} {cl : List (Str × Addr)} {outer : List Env} {A₀ : Around} {base h₀ : Heap} {L : Addr} {m : Str → Option Value} {s : Shared} {Q E : Value → Shared → Prop}
    {P C : Addr} {oP oC : Obj} {news r1 rest : List (Addr × Obj)} {many : Int} {tk : Tok}
    (B : Below A₀ base outer h₀) (F : Fr h₀ L s.heap m) (X : (hd.heap_1 w.params).In h₀)
    (N : News h₀ L s.heap news)
    (T : Top vw (looseW vw [Str.ofString "ShapeError"]) mean mg mb h₀) (hk : cs.kind = .function)
    (hpen : Pen oP oC C) (U1 : Pull P oP news r1) (U2 : Pull C oC r1 rest) (hmany : 0 < many) (hne : @Ne Nat P C) (hP : ∀ p ∈ rest, p.1 ≠ P) (hC : ∀ p ∈ rest, p.1 ≠ C)
    (hdp : dp < 500) (hun : un < 5000)
    (ret : ∀ r t h' tk' oP' oC', 0 ≤ r → r < many → Pen oP' oC' C → Fr h₀ L h' m → News h₀ L h' ((P, oP') :: (C, oC') :: rest) → Q (.int r t) { s with heap := h', toks := tk' }) :
    wpAny (model Challenge.pw_nz0115_01 w) (ktrTop dp un gd cn cs L a ccd cl outer) (call (.ref 283) [.ref P, .int many tk]) Q E s :=
  draw_c B F X (news_sub N (sub_cons (U1.sub _ (.head _)) fun p hp => U1.sub p (.tail _ (U2.sub p hp)))) T hk hpen hmany hne hP hC hdp hun ret
theorem zs2 : True := by w_top off; trivial
section Z4
local macro_rules | `(tactic| walk_at $s) => lines s [
  ("call ref", cl 283 "draw_u" "aaaaaeHnnqqAARS_" 11)]
theorem pick_c {w : World} {mean : ExcName → Option Value} {mg mb : Str → Option Value} {dp un : Nat} {gd : Option (List Code)} {cn : Str} {cs : Scope} {a : Addr} {ccd : Value} {cl : List (Str × Addr)} {outer : List Env} {A₀ : Around} {base h₀ : Heap} {L : Addr} {m : Str → Option Value} {s : Shared} {Q E : Value → Shared → Prop}
    {P C S : Addr} {oP oC : Obj} {rest : List (Addr × Obj)} {items : List Value} {e : Nat}
    (B : Below A₀ base outer h₀) (F : Fr h₀ L s.heap m) (X : (hd.heap_1 w.params).In h₀)
    (N : News h₀ L s.heap ((P, oP) :: (C, oC) :: (S, listOf items.toArray e) :: rest))
    (T : Top vw (looseW vw [Str.ofString "ShapeError"]) mean mg mb h₀) (hk : cs.kind = .function)
    (hpen : Pen oP oC C) (hmany : 0 < items.length) (hz : items.length ≤ 100) (hne : @Ne Nat P C) (hSP : @Ne Nat S P) (hSC : @Ne Nat S C) (hP : ∀ p ∈ rest, p.1 ≠ P) (hC : ∀ p ∈ rest, p.1 ≠ C)
    (hdp : dp < 499) (hun : un < 4900)
    (ret : ∀ v h' tk' oP' oC', v ∈ items → Pen oP' oC' C → Fr h₀ L h' m → News h₀ L h' ((P, oP') :: (C, oC') :: (S, listOf items.toArray e) :: rest) → Q v { s with heap := h', toks := tk' }) :
    wpAny (model Challenge.pw_nz0115_01 w) (ktrTop dp un gd cn cs L a ccd cl outer) (call (.ref 290) [.ref P, .ref S]) Q E s := by
  refine wpAny_call ?_
  k_dflt ktr_enter
  refine wpAny_letA ?_; intro ak
  k_steps
  refine' ret _ _ _ _ _ ?r1 ?r2 ?r3 ?r4
  case r3 => k_asm
  case r4 => exact news_sub (by k_asm) (by ktr_rel)
  all_goals with_reducible assumption
theorem zs3 : True := by w_top off; trivial
end Z4
theorem zr1 {p : Program} {w : World} {A : Around} {e : Env} {Q : Flow → Shared → Prop} {E : Value → Shared → Prop} {s : Shared} (h : wpAny (model p w) A (execs [] e) Q E s) : wpAny (model p w) A (execs [] e) Q E s := by
  w_top off
  first | (walk1; fail) | exact h
section Z5
local macro_rules | `(tactic| k_inst) => fill "inst_exc" "am"
local macro_rules | `(tactic| ks_enter) => ent "ks_code_super" "aaaaaffeiiRxL_drrr" "fe" 10
local macro_rules | `(tactic| walk_at $s) => lines s [
  ("getMethod ref", here (sq (shA "getMethod (Value.ref _) (PySem.Str.ofString %__init__) _") (sq (dfl (fill "k_super_exc" "aaammijid_")) (ins 5)))),
  ("callWith ref", here (dfl (whole (fill "k_callWith_mw" "am_")))),
  ("And", here (sq (shw "And (Eq _ (some (mwO _))) _") (sq (rf "And.intro (News.get !a !m) ?_") `(tactic| try dsimp only [List.nil_append, List.cons_append])))),
  ("call ref", here (sq (dfl (whole (fill "k_call_mw" "aaamUb_"))) dsN)),
  ("setAttr ref", here (dfl (alt [sq (whole (fill "x_set_first" "aaariiU_" "aU")) dsN, sq (whole (fill "x_set_next" "aaariimmrbpu_" "ampu")) (ins 3)])))]
theorem tf_c {w : World} {mean : ExcName → Option Value} {mg mb : Str → Option Value} {dp un : Nat} {gd : Option (List Code)} {cn : Str} {cs : Scope} {a : Addr} {ccd : Value} {cl : List (Str × Addr)} {outer : List Env} {A₀ : Around} {base h₀ : Heap} {L : Addr} {m : Str → Option Value} {s : Shared} {Q E : Value → Shared → Prop}
    {x : Str} {tx tn : Tok} {n : Int} {news : List (Addr × Obj)}
    (B : Below A₀ base outer h₀) (F : Fr h₀ L s.heap m) (X : (hd.heap_1 w.params).In h₀)
    (N : News h₀ L s.heap news)
    (T : Top vw (looseW vw [Str.ofString "ShapeError"]) mean mg mb h₀) (hk : cs.kind = .function)
    (hdp : dp < 500) (hun : un < 5000)
    (ret : ∀ e D t h' tk' h1 k1 h2 k2, Fr h₀ L h' m → News h₀ L h' ((e, excD 54 t D) :: (D, dictOf [⟨h1, .str "what" k1, .str x tx⟩, ⟨h2, .str "at" k2, .int n tn⟩] 2) :: news) → @Ne Nat D e → (∀ p ∈ news, p.1 ≠ e) → (∀ p ∈ news, p.1 ≠ D) → Q (.ref e) { s with heap := h', toks := tk' }) :
    wpAny (model Challenge.pw_nz0115_01 w) (ktrTop dp un gd cn cs L a ccd cl outer) (call (.ref 54) [.str x tx, .int n tn]) Q E s := by
  k_dflt (refine' call_exc ?k1 ?k2 ?k3 ?k4 ?_; (case k1 => k_asm); (case k2 => k_asm); (case k3 => k_asm); (case k4 => exact Nat.le_of_ble_eq_true rfl))
  intro e' t' h' F' N' l1 l2
  k_lt2 l2; k_sweep
  k_dflt ks_enter
  k_steps
  refine' ret _ _ _ _ _ _ _ _ _ ?r1 ?r2 ?r3 ?r4 ?r5
  case r1 => k_asm
  case r2 => exact news_sub (by k_asm) (by ktr_rel)
  case r4 => exact all_ne_of_lt2 (by with_reducible assumption) (by with_reducible assumption)
  case r3 => k_ne
  case r5 => k_all
theorem zs4 : True := by w_top off; trivial
theorem tf1_c {w : World} {mean : ExcName → Option Value} {mg mb : Str → Option Value} {dp un : Nat} {gd : Option (List Code)} {cn : Str} {cs : Scope} {a : Addr} {ccd : Value} {cl : List (Str × Addr)} {outer : List Env} {A₀ : Around} {base h₀ : Heap} {L : Addr} {m : Str → Option Value} {s : Shared} {Q E : Value → Shared → Prop}
    {x : Str} {tx : Tok} {news : List (Addr × Obj)}
    (B : Below A₀ base outer h₀) (F : Fr h₀ L s.heap m) (X : (hd.heap_1 w.params).In h₀)
    (N : News h₀ L s.heap news)
    (T : Top vw (looseW vw [Str.ofString "ShapeError"]) mean mg mb h₀) (hk : cs.kind = .function)
    (hdp : dp < 500) (hun : un < 5000)
    (ret : ∀ e D t h' tk' h1 k1 h2 k2 tn, Fr h₀ L h' m → News h₀ L h' ((e, excD 54 t D) :: (D, dictOf [⟨h1, .str "what" k1, .str x tx⟩, ⟨h2, .str "at" k2, .int (-1) tn⟩] 2) :: news) → @Ne Nat D e → (∀ p ∈ news, p.1 ≠ e) → (∀ p ∈ news, p.1 ≠ D) → Q (.ref e) { s with heap := h', toks := tk' }) :
    wpAny (model Challenge.pw_nz0115_01 w) (ktrTop dp un gd cn cs L a ccd cl outer) (call (.ref 54) [.str x tx]) Q E s := by
  k_dflt (refine' call_exc ?k1 ?k2 ?k3 ?k4 ?_; (case k1 => k_asm); (case k2 => k_asm); (case k3 => k_asm); (case k4 => exact Nat.le_of_ble_eq_true rfl))
  intro e' t' h' F' N' l1 l2
  k_lt2 l2; k_sweep
  k_dflt ks_enter
  k_steps
  refine' ret _ _ _ _ _ _ _ _ _ _ ?r1 ?r2 ?r3 ?r4 ?r5
  case r1 => k_asm
  case r2 => exact news_sub (by k_asm) (by ktr_rel)
  case r4 => exact all_ne_of_lt2 (by with_reducible assumption) (by with_reducible assumption)
  case r3 => k_ne
  case r5 => k_all
theorem zs5 : True := by w_top off; trivial
end Z5
theorem zr2 {p : Program} {w : World} {A : Around} {e : Env} {Q : Flow → Shared → Prop} {E : Value → Shared → Prop} {s : Shared} (h : wpAny (model p w) A (execs [] e) Q E s) : wpAny (model p w) A (execs [] e) Q E s := by
  w_top off
  first | (walk1; fail) | exact h
theorem room_c {w : World} {mean : ExcName → Option Value} {mg mb : Str → Option Value} {dp un : Nat} {gd : Option (List Code)} {cn : Str} {cs : Scope} {a : Addr} {ccd : Value} {cl : List (Str × Addr)} {outer : List Env} {A₀ : Around} {base h₀ : Heap} {L : Addr} {m : Str → Option Value} {s : Shared} {Q E : Value → Shared → Prop}
    {b : Array UInt8} {at_ count : Int} {tb ta tc : Tok} {news : List (Addr × Obj)}
    (B : Below A₀ base outer h₀) (F : Fr h₀ L s.heap m) (X : (hd.heap_1 w.params).In h₀) (N : News h₀ L s.heap news)
    (T : Top vw (looseW vw [Str.ofString "ShapeError"]) mean mg mb h₀) (hk : cs.kind = .function)
    (hb : b.size ≤ 1000) (hdp : dp < 499) (hun : un < 4900)
    (ok : 0 ≤ at_ → at_ + count ≤ b.size → ∀ h' tk', Fr h₀ L h' m → News h₀ L h' news → Q .none { s with heap := h', toks := tk' })
    (rai : (at_ < 0 ∨ (b.size : Int) < at_ + count) → ∀ e D o g h' tk', ExcAt at_ o → Flies base g (envX cn cs L a ccd cl :: outer) e D ((D, o) :: news) h' → Fr h₀ L g m → g.UpToSlots h' → E (.ref e) { s with heap := h', toks := tk' }) :
    wpAny (model Challenge.pw_nz0115_01 w) (ktrTop dp un gd cn cs L a ccd cl outer) (call (.ref 63) [.bytes b tb, .int at_ ta, .int count tc]) Q E s := by
  refine wpAny_call ?_
  k_dflt ktr_enter
  refine wpAny_letA ?_; intro ak
  k_steps
  all_goals simp only [decide_eq_true_eq, decide_eq_false_iff_not] at *
  all_goals first
    | (refine' ok ?r1 ?r2 _ _ ?r3 ?r4; (case r1 => omega); (case r2 => omega); (case r3 => k_asm); (case r4 => k_asm))
    | (refine' rai ?r1 _ _ _ _ _ _ (ExcAt.mk _ _ _ _ _ _ _) ?r2 ?r3 ?r4; (case r1 => omega); (case r2 => with_reducible assumption); (case r3 => with_reducible assumption); (case r4 => with_reducible assumption))
theorem zs6 : True := by w_top off; trivial
structure BeAt (pre : List Int) (total : Int) : Prop where
  e : total = beI pre
  h0 : 0 ≤ total
  h1 : total < 256 ^ pre.length
theorem BeAt.start : BeAt [] 0 := ⟨rfl, by decide, by decide⟩
theorem BeAt.on {pre : List Int} {t k : Int} (h : BeAt pre t) (k0 : 0 ≤ k) (k1 : k < 256) : BeAt (pre ++ [k]) (Builtin.bitOr (t * 2 ^ (8 : Int).toNat) k) := by
  rw [lor8 h.h0 k0 k1]
  have h0 := h.h0
  have h1 := h.h1
  refine ⟨by rw [beI_snoc, h.e], by omega, ?_⟩
  rw [List.length_append, List.length_singleton, Int.pow_succ]
  omega
theorem shl8 {prog : Program} {w : World} {A : Around} {E : Value → Shared → Prop} {s : Shared} {a : Int} {t u : Tok} {Q : Value → Shared → Prop} {pre : List Int} (hb : BeAt pre a) (hn : pre.length < 4) (h : Q (.int (a * 2 ^ (8 : Int).toNat) s.toks) { s with toks := s.toks + 1 }) :
    wpAny (model prog w) A (binaryOp .LShift (.int a t) (.int 8 u)) Q E s := by
  refine lshift_int_small (by decide) (by decide) ?_ h
  have h0 := hb.h0
  have h1 := hb.h1
  have : pre.length = 0 ∨ pre.length = 1 ∨ pre.length = 2 ∨ pre.length = 3 := by omega
  rcases this with e | e | e | e <;> rw [e] at h1 <;> omega
theorem clip_pos {n : Nat} {i : Int} (h : 0 ≤ i) (h1 : i ≤ n) : clipAt n i = i.toNat := by
  obtain ⟨k, rfl⟩ := Int.eq_ofNat_of_zero_le h
  rw [clipAt_nat]; omega
section Z6
local macro_rules | `(tactic| walk_at $s) => lines s [
  ("call ref", cl2 63 "room_c" "aaaaaehRS__" 6 10)]
section Z7
local macro_rules | `(tactic| kst_p) => `(tactic| first | with_reducible exact BeAt.start | with_reducible exact BeAt.on (by assumption) (by assumption) (by assumption))
local macro_rules | `(tactic| walk_at $s) => lines s [
  ("exec For Name Subscript cons nil", forT),
  ("pyIter bytes", here stp),
  ("binaryOp LShift int int", here (fill "shl8" "hs_")),
  ("InvEndN", `(tactic| kst_close))]
theorem number_c {w : World} {mean : ExcName → Option Value} {mg mb : Str → Option Value} {dp un : Nat} {gd : Option (List Code)} {cn : Str} {cs : Scope} {a : Addr} {ccd : Value} {cl : List (Str × Addr)} {outer : List Env} {A₀ : Around} {base h₀ : Heap} {L : Addr} {m : Str → Option Value} {s : Shared} {Q E : Value → Shared → Prop}
    {b : Array UInt8} {at_ count : Int} {tb ta tc : Tok} {news : List (Addr × Obj)} {ks : List Int}
    (B : Below A₀ base outer h₀) (F : Fr h₀ L s.heap m) (X : (hd.heap_1 w.params).In h₀) (N : News h₀ L s.heap news)
    (T : Top vw (looseW vw [Str.ofString "ShapeError"]) mean mg mb h₀) (hk : cs.kind = .function)
    (hbi : KBw.bInts b = ks) (hb : b.size ≤ 1000) (hc0 : 0 ≤ count) (hc4 : count ≤ 4) (hdp : dp < 498) (hun : un < 4800)
    (ok : 0 ≤ at_ → at_ + count ≤ b.size → ∀ t h' tk', Fr h₀ L h' m → News h₀ L h' news → Q (.int (beI ((ks.drop at_.toNat).take count.toNat)) t) { s with heap := h', toks := tk' })
    (rai : (at_ < 0 ∨ (b.size : Int) < at_ + count) → ∀ e D o g h' tk', ExcAt at_ o → Flies base g (envX cn cs L a ccd cl :: outer) e D ((D, o) :: news) h' → Fr h₀ L g m → g.UpToSlots h' → E (.ref e) { s with heap := h', toks := tk' }) :
    wpAny (model Challenge.pw_nz0115_01 w) (ktrTop dp un gd cn cs L a ccd cl outer) (call (.ref 70) [.bytes b tb, .int at_ ta, .int count tc]) Q E s := by
  have hks : ks.length = b.size := hbi ▸ KBw.ints_length b
  refine wpAny_call ?_
  k_dflt ktr_enter
  refine wpAny_letA ?_; intro ak
  k_steps
  · exact rai ‹_› _ _ _ _ _ _ ‹_› ‹_› ‹_› ‹_›
  unfold Stop
  rename_i q1 q2 _ _ _ _ _ _ _ _ kc
  rw [clip_pos (by omega) (by omega), clip_pos (by omega) (by omega), tn_sub (by assumption) (by assumption)] at kc
  k_state (fun pre total => BeAt pre total) "total"
  all_goals (try dsimp only)
  all_goals k_steps
  rename_i fi _ _ _ _ _ _ _ _ _ _ _ _ _
  have e := (by assumption : BeAt _ _).e
  subst e
  exact ok (by omega) (by omega) _ _ _ (by k_asm) (by k_asm)
theorem zs7 : True := by w_top off; trivial
end Z7
end Z6
theorem zr3 {p : Program} {w : World} {A : Around} {e : Env} {Q : Flow → Shared → Prop} {E : Value → Shared → Prop} {s : Shared} (h : wpAny (model p w) A (execs [] e) Q E s) : wpAny (model p w) A (execs [] e) Q E s := by
  w_top off
  first | (walk1; fail) | exact h
section Z8
local macro_rules | `(tactic| walk_at $s) => lines s [
  ("call ref", cl2 70 "number_c" "aaaaaehhqqRS__" 7 10)]
abbrev inD (h1 : Int) (k1 : Tok) (b : Array UInt8) (tb : Tok) (h2 : Int) (k2 : Tok) (p : Int) (tp : Tok) : Obj := dictOf [⟨h1, .str "data" k1, .bytes b tb⟩, ⟨h2, .str "at" k2, .int p tp⟩] 2
theorem inNumber_c {w : World} {mean : ExcName → Option Value} {mg mb : Str → Option Value} {dp un : Nat} {gd : Option (List Code)} {cn : Str} {cs : Scope} {a : Addr} {ccd : Value} {cl : List (Str × Addr)} {outer : List Env} {A₀ : Around} {base h₀ : Heap} {L : Addr} {m : Str → Option Value} {s : Shared} {Q E : Value → Shared → Prop}
    {b : Array UInt8} {p count : Int} {tb tp tc k1 k2 : Tok} {news : List (Addr × Obj)} {ks : List Int} {I D : Addr} {h1 h2 : Int}
    (B : Below A₀ base outer h₀) (F : Fr h₀ L s.heap m) (X : (hd.heap_1 w.params).In h₀) (N : News h₀ L s.heap ((I, instObj 175 D) :: (D, inD h1 k1 b tb h2 k2 p tp) :: news))
    (T : Top vw (looseW vw [Str.ofString "ShapeError"]) mean mg mb h₀) (hk : cs.kind = .function)
    (hID : @Ne Nat I D) (hD : ∀ p ∈ news, p.1 ≠ D)
    (hbi : KBw.bInts b = ks) (hb : b.size ≤ 1000) (hc0 : 0 ≤ count) (hc4 : count ≤ 4) (hdp : dp < 497) (hun : un < 4700)
    (ok : 0 ≤ p → p + count ≤ b.size → ∀ t tp' h' tk', Fr h₀ L h' m → News h₀ L h' ((I, instObj 175 D) :: (D, inD h1 k1 b tb h2 k2 (p + count) tp') :: news) → Q (.int (beI ((ks.drop p.toNat).take count.toNat)) t) { s with heap := h', toks := tk' })
    (rai : (p < 0 ∨ (b.size : Int) < p + count) → ∀ e De o g h' tk', ExcAt p o → Flies base g (envX cn cs L a ccd cl :: outer) e De ((De, o) :: (I, instObj 175 D) :: (D, inD h1 k1 b tb h2 k2 p tp) :: news) h' → Fr h₀ L g m → g.UpToSlots h' → E (.ref e) { s with heap := h', toks := tk' }) :
    wpAny (model Challenge.pw_nz0115_01 w) (ktrTop dp un gd cn cs L a ccd cl outer) (call (.ref 120) [.ref I, .int count tc]) Q E s := by
  refine wpAny_call ?_
  k_dflt ktr_enter
  refine wpAny_letA ?_; intro ak
  k_steps
  · exact rai ‹_› _ _ _ _ _ _ ‹_› ‹_› ‹_› ‹_›
  · exact ok ‹_› ‹_› _ _ _ _ (by k_asm) (by k_asm)
theorem zs8 : True := by w_top off; trivial
section Z9
local macro_rules | `(tactic| walk_at $s) => lines s [
  ("call ref", cl2 120 "inNumber_c" "aaaaaehhhhqqRS__" 8 10)]
theorem u8_k {w : World} {mean : ExcName → Option Value} {mg mb : Str → Option Value} {dp un : Nat} {gd : Option (List Code)} {cn : Str} {cs : Scope} {a : Addr} {ccd : Value} {cl : List (Str × Addr)} {outer : List Env} {A₀ : Around} {base h₀ : Heap} {L : Addr} {m : Str → Option Value} {s : Shared} {R : Result → Shared → Prop}
    {b : Array UInt8} {p : Int} {tb tp k1 k2 : Tok} {news : List (Addr × Obj)} {ks : List Int} {I D : Addr} {h1 h2 : Int}
    (B : Below A₀ base outer h₀) (F : Fr h₀ L s.heap m) (X : (hd.heap_1 w.params).In h₀) (N : News h₀ L s.heap ((I, instObj 175 D) :: (D, inD h1 k1 b tb h2 k2 p tp) :: news))
    (T : Top vw (looseW vw [Str.ofString "ShapeError"]) mean mg mb h₀) (hk : cs.kind = .function)
    (hID : @Ne Nat I D) (hD : ∀ p ∈ news, p.1 ≠ D)
    (hbi : KBw.bInts b = ks) (hb : b.size ≤ 1000) (hdp : dp < 496) (hun : un < 4600)
    (ok : 0 ≤ p → p + 1 ≤ b.size → ∀ t tp' h' tk', Fr h₀ L h' m → News h₀ L h' ((I, instObj 175 D) :: (D, inD h1 k1 b tb h2 k2 (p + 1) tp') :: news) → R (.ok (.ret (.int (beI ((ks.drop p.toNat).take 1)) t))) { s with heap := h', toks := tk' })
    (rai : (p < 0 ∨ (b.size : Int) < p + 1) → ∀ e De o g h' tk', ExcAt p o → Flies base g (envX cn cs L a ccd cl :: outer) e De ((De, o) :: (I, instObj 175 D) :: (D, inD h1 k1 b tb h2 k2 p tp) :: news) h' → Fr h₀ L g m → g.UpToSlots h' → R (.error (.ref e)) { s with heap := h', toks := tk' }) :
    codeAny (model Challenge.pw_nz0115_01 w) (ktrTop dp un gd cn cs L a ccd cl outer) (.call (.ref 127) ⟨[.ref I], []⟩) R s := by
  k_dflt ktr_enter
  refine wpAny_letA ?_; intro ak
  k_steps
  · exact rai ‹_› _ _ _ _ _ _ ‹_› ‹_› ‹_› ‹_›
  · exact ok ‹_› ‹_› _ _ _ _ (by k_asm) (by k_asm)
theorem u8_c {w : World} {mean : ExcName → Option Value} {mg mb : Str → Option Value} {dp un : Nat} {gd : Option (List Code)} {cn : Str} {cs : Scope} {a : Addr} {ccd : Value} {cl : List (Str × Addr)} {outer : List Env} {A₀ : Around} {base h₀ : Heap} {L : Addr} {m : Str → Option Value} {s : Shared} {Q E : Value → Shared → Prop}
    {b : Array UInt8} {p : Int} {tb tp k1 k2 : Tok} {news : List (Addr × Obj)} {ks : List Int} {I D : Addr} {h1 h2 : Int}
    (B : Below A₀ base outer h₀) (F : Fr h₀ L s.heap m) (X : (hd.heap_1 w.params).In h₀) (N : News h₀ L s.heap ((I, instObj 175 D) :: (D, inD h1 k1 b tb h2 k2 p tp) :: news))
    (T : Top vw (looseW vw [Str.ofString "ShapeError"]) mean mg mb h₀) (hk : cs.kind = .function)
    (hID : @Ne Nat I D) (hD : ∀ p ∈ news, p.1 ≠ D)
    (hbi : KBw.bInts b = ks) (hb : b.size ≤ 1000) (hdp : dp < 496) (hun : un < 4600)
    (ok : 0 ≤ p → p + 1 ≤ b.size → ∀ t tp' h' tk', Fr h₀ L h' m → News h₀ L h' ((I, instObj 175 D) :: (D, inD h1 k1 b tb h2 k2 (p + 1) tp') :: news) → Q (.int (beI ((ks.drop p.toNat).take 1)) t) { s with heap := h', toks := tk' })
    (rai : (p < 0 ∨ (b.size : Int) < p + 1) → ∀ e De o g h' tk', ExcAt p o → Flies base g (envX cn cs L a ccd cl :: outer) e De ((De, o) :: (I, instObj 175 D) :: (D, inD h1 k1 b tb h2 k2 p tp) :: news) h' → Fr h₀ L g m → g.UpToSlots h' → E (.ref e) { s with heap := h', toks := tk' }) :
    wpAny (model Challenge.pw_nz0115_01 w) (ktrTop dp un gd cn cs L a ccd cl outer) (call (.ref 127) [.ref I]) Q E s :=
  wpAny_call (u8_k B F X N T hk hID hD hbi hb hdp hun ok rai)
theorem u16_k {w : World} {mean : ExcName → Option Value} {mg mb : Str → Option Value} {dp un : Nat} {gd : Option (List Code)} {cn : Str} {cs : Scope} {a : Addr} {ccd : Value} {cl : List (Str × Addr)} {outer : List Env} {A₀ : Around} {base h₀ : Heap} {L : Addr} {m : Str → Option Value} {s : Shared} {R : Result → Shared → Prop}
    {b : Array UInt8} {p : Int} {tb tp k1 k2 : Tok} {news : List (Addr × Obj)} {ks : List Int} {I D : Addr} {h1 h2 : Int}
    (B : Below A₀ base outer h₀) (F : Fr h₀ L s.heap m) (X : (hd.heap_1 w.params).In h₀) (N : News h₀ L s.heap ((I, instObj 175 D) :: (D, inD h1 k1 b tb h2 k2 p tp) :: news))
    (T : Top vw (looseW vw [Str.ofString "ShapeError"]) mean mg mb h₀) (hk : cs.kind = .function)
    (hID : @Ne Nat I D) (hD : ∀ p ∈ news, p.1 ≠ D)
    (hbi : KBw.bInts b = ks) (hb : b.size ≤ 1000) (hdp : dp < 496) (hun : un < 4600)
    (ok : 0 ≤ p → p + 2 ≤ b.size → ∀ t tp' h' tk', Fr h₀ L h' m → News h₀ L h' ((I, instObj 175 D) :: (D, inD h1 k1 b tb h2 k2 (p + 2) tp') :: news) → R (.ok (.ret (.int (beI ((ks.drop p.toNat).take 2)) t))) { s with heap := h', toks := tk' })
    (rai : (p < 0 ∨ (b.size : Int) < p + 2) → ∀ e De o g h' tk', ExcAt p o → Flies base g (envX cn cs L a ccd cl :: outer) e De ((De, o) :: (I, instObj 175 D) :: (D, inD h1 k1 b tb h2 k2 p tp) :: news) h' → Fr h₀ L g m → g.UpToSlots h' → R (.error (.ref e)) { s with heap := h', toks := tk' }) :
    codeAny (model Challenge.pw_nz0115_01 w) (ktrTop dp un gd cn cs L a ccd cl outer) (.call (.ref 134) ⟨[.ref I], []⟩) R s := by
  k_dflt ktr_enter
  refine wpAny_letA ?_; intro ak
  k_steps
  · exact rai ‹_› _ _ _ _ _ _ ‹_› ‹_› ‹_› ‹_›
  · exact ok ‹_› ‹_› _ _ _ _ (by k_asm) (by k_asm)
theorem u16_c {w : World} {mean : ExcName → Option Value} {mg mb : Str → Option Value} {dp un : Nat} {gd : Option (List Code)} {cn : Str} {cs : Scope} {a : Addr} {ccd : Value} {cl : List (Str × Addr)} {outer : List Env} {A₀ : Around} {base h₀ : Heap} {L : Addr} {m : Str → Option Value} {s : Shared} {Q E : Value → Shared → Prop}
    {b : Array UInt8} {p : Int} {tb tp k1 k2 : Tok} {news : List (Addr × Obj)} {ks : List Int} {I D : Addr} {h1 h2 : Int}
    (B : Below A₀ base outer h₀) (F : Fr h₀ L s.heap m) (X : (hd.heap_1 w.params).In h₀) (N : News h₀ L s.heap ((I, instObj 175 D) :: (D, inD h1 k1 b tb h2 k2 p tp) :: news))
    (T : Top vw (looseW vw [Str.ofString "ShapeError"]) mean mg mb h₀) (hk : cs.kind = .function)
    (hID : @Ne Nat I D) (hD : ∀ p ∈ news, p.1 ≠ D)
    (hbi : KBw.bInts b = ks) (hb : b.size ≤ 1000) (hdp : dp < 496) (hun : un < 4600)
    (ok : 0 ≤ p → p + 2 ≤ b.size → ∀ t tp' h' tk', Fr h₀ L h' m → News h₀ L h' ((I, instObj 175 D) :: (D, inD h1 k1 b tb h2 k2 (p + 2) tp') :: news) → Q (.int (beI ((ks.drop p.toNat).take 2)) t) { s with heap := h', toks := tk' })
    (rai : (p < 0 ∨ (b.size : Int) < p + 2) → ∀ e De o g h' tk', ExcAt p o → Flies base g (envX cn cs L a ccd cl :: outer) e De ((De, o) :: (I, instObj 175 D) :: (D, inD h1 k1 b tb h2 k2 p tp) :: news) h' → Fr h₀ L g m → g.UpToSlots h' → E (.ref e) { s with heap := h', toks := tk' }) :
    wpAny (model Challenge.pw_nz0115_01 w) (ktrTop dp un gd cn cs L a ccd cl outer) (call (.ref 134) [.ref I]) Q E s :=
  wpAny_call (u16_k B F X N T hk hID hD hbi hb hdp hun ok rai)
theorem u24_k {w : World} {mean : ExcName → Option Value} {mg mb : Str → Option Value} {dp un : Nat} {gd : Option (List Code)} {cn : Str} {cs : Scope} {a : Addr} {ccd : Value} {cl : List (Str × Addr)} {outer : List Env} {A₀ : Around} {base h₀ : Heap} {L : Addr} {m : Str → Option Value} {s : Shared} {R : Result → Shared → Prop}
    {b : Array UInt8} {p : Int} {tb tp k1 k2 : Tok} {news : List (Addr × Obj)} {ks : List Int} {I D : Addr} {h1 h2 : Int}
    (B : Below A₀ base outer h₀) (F : Fr h₀ L s.heap m) (X : (hd.heap_1 w.params).In h₀) (N : News h₀ L s.heap ((I, instObj 175 D) :: (D, inD h1 k1 b tb h2 k2 p tp) :: news))
    (T : Top vw (looseW vw [Str.ofString "ShapeError"]) mean mg mb h₀) (hk : cs.kind = .function)
    (hID : @Ne Nat I D) (hD : ∀ p ∈ news, p.1 ≠ D)
    (hbi : KBw.bInts b = ks) (hb : b.size ≤ 1000) (hdp : dp < 496) (hun : un < 4600)
    (ok : 0 ≤ p → p + 3 ≤ b.size → ∀ t tp' h' tk', Fr h₀ L h' m → News h₀ L h' ((I, instObj 175 D) :: (D, inD h1 k1 b tb h2 k2 (p + 3) tp') :: news) → R (.ok (.ret (.int (beI ((ks.drop p.toNat).take 3)) t))) { s with heap := h', toks := tk' })
    (rai : (p < 0 ∨ (b.size : Int) < p + 3) → ∀ e De o g h' tk', ExcAt p o → Flies base g (envX cn cs L a ccd cl :: outer) e De ((De, o) :: (I, instObj 175 D) :: (D, inD h1 k1 b tb h2 k2 p tp) :: news) h' → Fr h₀ L g m → g.UpToSlots h' → R (.error (.ref e)) { s with heap := h', toks := tk' }) :
    codeAny (model Challenge.pw_nz0115_01 w) (ktrTop dp un gd cn cs L a ccd cl outer) (.call (.ref 148) ⟨[.ref I], []⟩) R s := by
  k_dflt ktr_enter
  refine wpAny_letA ?_; intro ak
  k_steps
  · exact rai ‹_› _ _ _ _ _ _ ‹_› ‹_› ‹_› ‹_›
  · exact ok ‹_› ‹_› _ _ _ _ (by k_asm) (by k_asm)
theorem u32_k {w : World} {mean : ExcName → Option Value} {mg mb : Str → Option Value} {dp un : Nat} {gd : Option (List Code)} {cn : Str} {cs : Scope} {a : Addr} {ccd : Value} {cl : List (Str × Addr)} {outer : List Env} {A₀ : Around} {base h₀ : Heap} {L : Addr} {m : Str → Option Value} {s : Shared} {R : Result → Shared → Prop}
    {b : Array UInt8} {p : Int} {tb tp k1 k2 : Tok} {news : List (Addr × Obj)} {ks : List Int} {I D : Addr} {h1 h2 : Int}
    (B : Below A₀ base outer h₀) (F : Fr h₀ L s.heap m) (X : (hd.heap_1 w.params).In h₀) (N : News h₀ L s.heap ((I, instObj 175 D) :: (D, inD h1 k1 b tb h2 k2 p tp) :: news))
    (T : Top vw (looseW vw [Str.ofString "ShapeError"]) mean mg mb h₀) (hk : cs.kind = .function)
    (hID : @Ne Nat I D) (hD : ∀ p ∈ news, p.1 ≠ D)
    (hbi : KBw.bInts b = ks) (hb : b.size ≤ 1000) (hdp : dp < 496) (hun : un < 4600)
    (ok : 0 ≤ p → p + 4 ≤ b.size → ∀ t tp' h' tk', Fr h₀ L h' m → News h₀ L h' ((I, instObj 175 D) :: (D, inD h1 k1 b tb h2 k2 (p + 4) tp') :: news) → R (.ok (.ret (.int (beI ((ks.drop p.toNat).take 4)) t))) { s with heap := h', toks := tk' })
    (rai : (p < 0 ∨ (b.size : Int) < p + 4) → ∀ e De o g h' tk', ExcAt p o → Flies base g (envX cn cs L a ccd cl :: outer) e De ((De, o) :: (I, instObj 175 D) :: (D, inD h1 k1 b tb h2 k2 p tp) :: news) h' → Fr h₀ L g m → g.UpToSlots h' → R (.error (.ref e)) { s with heap := h', toks := tk' }) :
    codeAny (model Challenge.pw_nz0115_01 w) (ktrTop dp un gd cn cs L a ccd cl outer) (.call (.ref 155) ⟨[.ref I], []⟩) R s := by
  k_dflt ktr_enter
  refine wpAny_letA ?_; intro ak
  k_steps
  · exact rai ‹_› _ _ _ _ _ _ ‹_› ‹_› ‹_› ‹_›
  · exact ok ‹_› ‹_› _ _ _ _ (by k_asm) (by k_asm)
theorem u16at_c {w : World} {mean : ExcName → Option Value} {mg mb : Str → Option Value} {dp un : Nat} {gd : Option (List Code)} {cn : Str} {cs : Scope} {a : Addr} {ccd : Value} {cl : List (Str × Addr)} {outer : List Env} {A₀ : Around} {base h₀ : Heap} {L : Addr} {m : Str → Option Value} {s : Shared} {Q E : Value → Shared → Prop}
    {b : Array UInt8} {at_ : Int} {tb ta : Tok} {news : List (Addr × Obj)} {ks : List Int}
    (B : Below A₀ base outer h₀) (F : Fr h₀ L s.heap m) (X : (hd.heap_1 w.params).In h₀) (N : News h₀ L s.heap news)
    (T : Top vw (looseW vw [Str.ofString "ShapeError"]) mean mg mb h₀) (hk : cs.kind = .function)
    (hbi : KBw.bInts b = ks) (hb : b.size ≤ 1000) (hdp : dp < 497) (hun : un < 4700)
    (ok : 0 ≤ at_ → at_ + 2 ≤ b.size → ∀ t h' tk', Fr h₀ L h' m → News h₀ L h' news → Q (.int (beI ((ks.drop at_.toNat).take 2)) t) { s with heap := h', toks := tk' })
    (rai : (at_ < 0 ∨ (b.size : Int) < at_ + 2) → ∀ e D o g h' tk', ExcAt at_ o → Flies base g (envX cn cs L a ccd cl :: outer) e D ((D, o) :: news) h' → Fr h₀ L g m → g.UpToSlots h' → E (.ref e) { s with heap := h', toks := tk' }) :
    wpAny (model Challenge.pw_nz0115_01 w) (ktrTop dp un gd cn cs L a ccd cl outer) (call (.ref 77) [.bytes b tb, .int at_ ta]) Q E s := by
  refine wpAny_call ?_
  k_dflt ktr_enter
  refine wpAny_letA ?_; intro ak
  k_steps
  · exact rai ‹_› _ _ _ _ _ _ ‹_› ‹_› ‹_› ‹_›
  · exact ok ‹_› ‹_› _ _ _ (by k_asm) (by k_asm)

theorem u32at_c {w : World} {mean : ExcName → Option Value} {mg mb : Str → Option Value} {dp un : Nat} {gd : Option (List Code)} {cn : Str} {cs : Scope} {a : Addr} {ccd : Value} {cl : List (Str × Addr)} {outer : List Env} {A₀ : Around} {base h₀ : Heap} {L : Addr} {m : Str → Option Value} {s : Shared} {Q E : Value → Shared → Prop}
    {b : Array UInt8} {at_ : Int} {tb ta : Tok} {news : List (Addr × Obj)} {ks : List Int}
    (B : Below A₀ base outer h₀) (F : Fr h₀ L s.heap m) (X : (hd.heap_1 w.params).In h₀) (N : News h₀ L s.heap news)
    (T : Top vw (looseW vw [Str.ofString "ShapeError"]) mean mg mb h₀) (hk : cs.kind = .function)
    (hbi : KBw.bInts b = ks) (hb : b.size ≤ 1000) (hdp : dp < 497) (hun : un < 4700)
    (ok : 0 ≤ at_ → at_ + 4 ≤ b.size → ∀ t h' tk', Fr h₀ L h' m → News h₀ L h' news → Q (.int (beI ((ks.drop at_.toNat).take 4)) t) { s with heap := h', toks := tk' })
    (rai : (at_ < 0 ∨ (b.size : Int) < at_ + 4) → ∀ e D o g h' tk', ExcAt at_ o → Flies base g (envX cn cs L a ccd cl :: outer) e D ((D, o) :: news) h' → Fr h₀ L g m → g.UpToSlots h' → E (.ref e) { s with heap := h', toks := tk' }) :
    wpAny (model Challenge.pw_nz0115_01 w) (ktrTop dp un gd cn cs L a ccd cl outer) (call (.ref 84) [.bytes b tb, .int at_ ta]) Q E s := by
  refine wpAny_call ?_
  k_dflt ktr_enter
  refine wpAny_letA ?_; intro ak
  k_steps
  · exact rai ‹_› _ _ _ _ _ _ ‹_› ‹_› ‹_› ‹_›
  · exact ok ‹_› ‹_› _ _ _ (by k_asm) (by k_asm)
theorem zs9 : True := by w_top off; trivial
def sgn (n : Int) : Int := if 32768 ≤ n then n - 65536 else n
theorem sgn_hi {n k : Int} (h0 : 0 ≤ n) (h1 : n < 65536) (h : n.fdiv k = 1) (hk : k = 32768) : n - 1 * 2 ^ (16 : Int).toNat = sgn n := by
  subst hk
  rw [Int.fdiv_eq_ediv_of_nonneg _ (by decide)] at h
  unfold sgn
  rw [if_pos (by omega)]
  rfl
theorem sgn_lo {n k : Int} (h0 : 0 ≤ n) (h1 : n < 65536) (h : ¬ n.fdiv k = 1) (hk : k = 32768) : n = sgn n := by
  subst hk
  rw [Int.fdiv_eq_ediv_of_nonneg _ (by decide)] at h
  unfold sgn
  rw [if_neg (by omega)]
theorem be_rng {b : Array UInt8} {ks : List Int} (hbi : KBw.bInts b = ks) (k c : Nat) : 0 ≤ beI ((ks.drop k).take c) ∧ beI ((ks.drop k).take c) < 256 ^ c := by
  subst hbi
  have h := beI_lt (l := ((KBw.bInts b).drop k).take c) fun x hx => KBw.ints_in (List.mem_of_mem_drop (List.mem_of_mem_take hx))
  refine ⟨h.1, Int.lt_of_lt_of_le h.2 ?_⟩
  have hl : (((KBw.bInts b).drop k).take c).length ≤ c := by rw [List.length_take]; omega
  have : ∀ x y : Nat, x ≤ y → (256 : Int) ^ x ≤ 256 ^ y := fun x y h => by
    have := Nat.pow_le_pow_right (n := 256) (by decide) h
    exact_mod_cast this
  exact this _ _ hl
theorem be2_lo {b : Array UInt8} {ks : List Int} (hbi : KBw.bInts b = ks) (k : Nat) : 0 ≤ beI ((ks.drop k).take 2) := (be_rng hbi k 2).1
theorem be2_hi {b : Array UInt8} {ks : List Int} (hbi : KBw.bInts b = ks) (k : Nat) : beI ((ks.drop k).take 2) < 65536 := (be_rng hbi k 2).2
theorem i16_k {w : World} {mean : ExcName → Option Value} {mg mb : Str → Option Value} {dp un : Nat} {gd : Option (List Code)} {cn : Str} {cs : Scope} {a : Addr} {ccd : Value} {cl : List (Str × Addr)} {outer : List Env} {A₀ : Around} {base h₀ : Heap} {L : Addr} {m : Str → Option Value} {s : Shared} {R : Result → Shared → Prop}
    {b : Array UInt8} {p : Int} {tb tp k1 k2 : Tok} {news : List (Addr × Obj)} {ks : List Int} {I D : Addr} {h1 h2 : Int}
    (B : Below A₀ base outer h₀) (F : Fr h₀ L s.heap m) (X : (hd.heap_1 w.params).In h₀) (N : News h₀ L s.heap ((I, instObj 175 D) :: (D, inD h1 k1 b tb h2 k2 p tp) :: news))
    (T : Top vw (looseW vw [Str.ofString "ShapeError"]) mean mg mb h₀) (hk : cs.kind = .function)
    (hID : @Ne Nat I D) (hD : ∀ p ∈ news, p.1 ≠ D)
    (hbi : KBw.bInts b = ks) (hb : b.size ≤ 1000) (hdp : dp < 496) (hun : un < 4600)
    (ok : 0 ≤ p → p + 2 ≤ b.size → ∀ t tp' h' tk', Fr h₀ L h' m → News h₀ L h' ((I, instObj 175 D) :: (D, inD h1 k1 b tb h2 k2 (p + 2) tp') :: news) → R (.ok (.ret (.int (sgn (beI ((ks.drop p.toNat).take 2))) t))) { s with heap := h', toks := tk' })
    (rai : (p < 0 ∨ (b.size : Int) < p + 2) → ∀ e De o g h' tk', ExcAt p o → Flies base g (envX cn cs L a ccd cl :: outer) e De ((De, o) :: (I, instObj 175 D) :: (D, inD h1 k1 b tb h2 k2 p tp) :: news) h' → Fr h₀ L g m → g.UpToSlots h' → R (.error (.ref e)) { s with heap := h', toks := tk' }) :
    codeAny (model Challenge.pw_nz0115_01 w) (ktrTop dp un gd cn cs L a ccd cl outer) (.call (.ref 141) ⟨[.ref I], []⟩) R s := by
  k_dflt ktr_enter
  refine wpAny_letA ?_; intro ak
  k_steps
  · exact rai ‹_› _ _ _ _ _ _ ‹_› ‹_› ‹_› ‹_›
  · have e := sgn_hi (be2_lo hbi _) (be2_hi hbi _) (by assumption) (by rfl)
    refine' cast (congrArg (fun z => R (.ok (.ret (.int z _))) _) e.symm) (ok ‹_› ‹_› _ _ _ _ (by k_asm) (by k_asm))
  · have e := sgn_lo (be2_lo hbi _) (be2_hi hbi _) (by assumption) (by rfl)
    refine' cast (congrArg (fun z => R (.ok (.ret (.int z _))) _) e.symm) (ok ‹_› ‹_› _ _ _ _ (by k_asm) (by k_asm))
theorem zs10 : True := by w_top off; trivial
section Z10
local macro_rules | `(tactic| walk_at $s) => lines s [
  ("call ref", cl2 63 "room_c" "aaaaaehRS__" 6 10)]
section Z11
local macro_rules | `(tactic| walk_at $s) => lines s [
  ("eval ListComp", here (dfl (rf "lc_gen !a !v !d !y !d !y ?_")))]
abbrev sg1 (k : Int) : Str := ⟨#[k.toNat]⟩
theorem txt_cons (k : Int) (r : List Int) : KStt.txt (k :: r) = sg1 k ++ PySem.Str.empty ++ KStt.txt r := by
  refine PySem.Str.ext' (Array.toList_inj.mp ?_)
  rw [PySem.Str.cps_append, PySem.Str.cps_append, Array.toList_append, Array.toList_append]
  rfl
theorem join_txt : ∀ l : List Int, PySem.Txt.join (PySem.Str.ofString "") (l.map sg1) = KStt.txt l := by
  intro l
  show Builtin.Str.glued (PySem.Str.ofString "") (l.map sg1) = _
  rw [StrLaws.glued_eq_join, show PySem.Str.ofString "" = PySem.Str.empty by rfl]
  induction l with
  | nil => rfl
  | cons k r ih =>
    rw [txt_cons]
    cases r with
    | nil => rfl
    | cons k2 r2 => rw [← ih]; rfl
theorem sum_sg1 (l : List Int) : ((l.map sg1).map (·.length)).sum = l.length := by
  induction l with
  | nil => rfl
  | cons k r ih => simp only [List.map_cons, List.sum_cons, ih, List.length_cons]; show 1 + _ = _; omega
theorem strs_sg1 {ys : List Value} {l : List Int} {i : Nat} {k : Int} {t : Tok} (h : StrsAre ys ((l.take i).map sg1)) (hk : l[i]? = some k) : StrsAre (ys ++ [.str (sg1 k) t]) ((l.take (i + 1)).map sg1) := by
  rw [List.take_add_one, hk, List.map_append]
  exact h.append' (.cons _ _ .nil)
theorem intag_k {w : World} {mean : ExcName → Option Value} {mg mb : Str → Option Value} {dp un : Nat} {gd : Option (List Code)} {cn : Str} {cs : Scope} {a : Addr} {ccd : Value} {cl : List (Str × Addr)} {outer : List Env} {A₀ : Around} {base h₀ : Heap} {L : Addr} {m : Str → Option Value} {s : Shared} {R : Result → Shared → Prop}
    {b : Array UInt8} {p : Int} {tb tp k1 k2 : Tok} {news : List (Addr × Obj)} {ks : List Int} {I D : Addr} {h1 h2 : Int}
    (B : Below A₀ base outer h₀) (F : Fr h₀ L s.heap m) (X : (hd.heap_1 w.params).In h₀) (N : News h₀ L s.heap ((I, instObj 175 D) :: (D, inD h1 k1 b tb h2 k2 p tp) :: news))
    (T : Top vw (looseW vw [Str.ofString "ShapeError"]) mean mg mb h₀) (hk : cs.kind = .function)
    (hID : @Ne Nat I D) (hD : ∀ p ∈ news, p.1 ≠ D)
    (hbi : KBw.bInts b = ks) (hks : ks.length = b.size) (hb : b.size ≤ 1000) (hdp : dp < 496) (hun : un < 4600)
    (ok : 0 ≤ p → p + 4 ≤ b.size → ∀ t tp' h' tk', Fr h₀ L h' m → News h₀ L h' ((I, instObj 175 D) :: (D, inD h1 k1 b tb h2 k2 (p + 4) tp') :: news) → R (.ok (.ret (.str (KStt.txt ((ks.drop p.toNat).take 4)) t))) { s with heap := h', toks := tk' })
    (rai : (p < 0 ∨ (b.size : Int) < p + 4) → ∀ e De o g h' tk', ExcAt p o → Flies base g (envX cn cs L a ccd cl :: outer) e De ((De, o) :: (I, instObj 175 D) :: (D, inD h1 k1 b tb h2 k2 p tp) :: news) h' → Fr h₀ L g m → g.UpToSlots h' → R (.error (.ref e)) { s with heap := h', toks := tk' }) :
    codeAny (model Challenge.pw_nz0115_01 w) (ktrTop dp un gd cn cs L a ccd cl outer) (.call (.ref 160) ⟨[.ref I], []⟩) R s := by
  k_dflt ktr_enter
  refine wpAny_letA ?_; intro ak
  k_steps
  · exact rai ‹_› _ _ _ _ _ _ ‹_› ‹_› ‹_› ‹_›
  rename (0 : Int) ≤ p => q1; rename p + 4 ≤ _ => q2; rename KBw.bInts _ = _ => kc
  rw [clip_pos (by omega) (by omega), clip_pos (by omega) (by omega), show (p + 4).toNat - p.toNat = 4 from tn_sub q1 (by decide)] at kc
  have csz : (KBy.picked b (some p) (some (p + 4))).size = 4 := by
    rw [← KBw.ints_length, kc, List.length_take, List.length_drop]; exact tn_room (c := 4) q1 q2 hks
  refine lcs_bytes (fun i ys nw => nw = (I, instObj 175 D) :: (D, inD h1 k1 b tb h2 k2 (p + 4) _) :: news ∧ StrsAre ys ((((ks.drop p.toNat).take 4).take i).map sg1)) rfl (by k_asm) (by k_asm) (by omega) ⟨rfl, .nil⟩ ?_ ?_
  · rintro i k t hk k0 k1 ys nw I' oI C oC D' m₂ h tk hoC hm F' N' off ne yl ⟨rfl, hS⟩
    rw [kc] at hk
    k_steps
    exact LCg.CompEnd.intro (by k_asm) N' _ sub_self off trivial ⟨rfl, strs_sg1 hS hk⟩
  · rintro R' h tk ys nw F' N' o1 yl ⟨rfl, hS⟩
    rw [csz, List.take_take] at hS
    k_steps
    refine join_listW (News.isList N' (.head _)) hS (by decide) (by rw [sum_sg1, List.length_map, List.length_take]; omega) fun t' k => ?_
    rw [show min 4 4 = 4 by decide, join_txt]
    k_steps
    exact ok q1 q2 _ _ _ _ (by k_asm) (news_sub (by k_asm) (by ktr_rel))
theorem zs11 : True := by w_top off; trivial
theorem pull2 {a b : Addr} {x y : Obj} {l r r2 : List (Addr × Obj)} {h₀ h : Heap} {L : Addr} (U1 : Pull a x l r) (U2 : Pull b y r r2) (N : News h₀ L h l) : News h₀ L h ((a, x) :: (b, y) :: r2) :=
  news_sub N (sub_cons (U1.sub _ (.head _)) fun p hp => U1.sub p (.tail _ (U2.sub p hp)))

theorem u8_u {w : World} {mean : ExcName → Option Value} {mg mb : Str → Option Value} {dp un : Nat} {gd : Option (List Code)} {cn : Str} {cs : Scope} {a : Addr} {ccd : Value} {cl : List (Str × Addr)} {outer : List Env} {A₀ : Around} {base h₀ : Heap} {L : Addr} {m : Str → Option Value} {s : Shared} {Q E : Value → Shared → Prop}
    {b : Array UInt8} {p : Int} {tb tp k1 k2 : Tok} {news : List (Addr × Obj)} {ks : List Int} {I D : Addr} {h1 h2 : Int} {r1 rest : List (Addr × Obj)}
    (B : Below A₀ base outer h₀) (F : Fr h₀ L s.heap m) (X : (hd.heap_1 w.params).In h₀) (N : News h₀ L s.heap news)
    (T : Top vw (looseW vw [Str.ofString "ShapeError"]) mean mg mb h₀) (hk : cs.kind = .function)
    (U1 : Pull I (instObj 175 D) news r1) (U2 : Pull D (inD h1 k1 b tb h2 k2 p tp) r1 rest)
    (hID : @Ne Nat I D) (hD : ∀ p ∈ rest, p.1 ≠ D)
    (hbi : KBw.bInts b = ks) (hb : b.size ≤ 1000) (hdp : dp < 496) (hun : un < 4600)
    (ok : 0 ≤ p → p + 1 ≤ b.size → ∀ t tp' h' tk', Fr h₀ L h' m → News h₀ L h' ((I, instObj 175 D) :: (D, inD h1 k1 b tb h2 k2 (p + 1) tp') :: rest) → Q (.int (beI ((ks.drop p.toNat).take 1)) t) { s with heap := h', toks := tk' })
    (rai : (p < 0 ∨ (b.size : Int) < p + 1) → ∀ e De o g h' tk', ExcAt p o → Flies base g (envX cn cs L a ccd cl :: outer) e De ((De, o) :: (I, instObj 175 D) :: (D, inD h1 k1 b tb h2 k2 p tp) :: rest) h' → Fr h₀ L g m → g.UpToSlots h' → E (.ref e) { s with heap := h', toks := tk' }) :
    wpAny (model Challenge.pw_nz0115_01 w) (ktrTop dp un gd cn cs L a ccd cl outer) (call (.ref 127) [.ref I]) Q E s :=
  u8_c B F X (pull2 U1 U2 N) T hk hID hD hbi hb hdp hun ok rai

theorem u16_u {w : World} {mean : ExcName → Option Value} {mg mb : Str → Option Value} {dp un : Nat} {gd : Option (List Code)} {cn : Str} {cs : Scope} {a : Addr} {ccd : Value} {cl : List (Str × Addr)} {outer : List Env} {A₀ : Around} {base h₀ : Heap} {L : Addr} {m : Str → Option Value} {s : Shared} {Q E : Value → Shared → Prop}
    {b : Array UInt8} {p : Int} {tb tp k1 k2 : Tok} {news : List (Addr × Obj)} {ks : List Int} {I D : Addr} {h1 h2 : Int} {r1 rest : List (Addr × Obj)}
    (B : Below A₀ base outer h₀) (F : Fr h₀ L s.heap m) (X : (hd.heap_1 w.params).In h₀) (N : News h₀ L s.heap news)
    (T : Top vw (looseW vw [Str.ofString "ShapeError"]) mean mg mb h₀) (hk : cs.kind = .function)
    (U1 : Pull I (instObj 175 D) news r1) (U2 : Pull D (inD h1 k1 b tb h2 k2 p tp) r1 rest)
    (hID : @Ne Nat I D) (hD : ∀ p ∈ rest, p.1 ≠ D)
    (hbi : KBw.bInts b = ks) (hb : b.size ≤ 1000) (hdp : dp < 496) (hun : un < 4600)
    (ok : 0 ≤ p → p + 2 ≤ b.size → ∀ t tp' h' tk', Fr h₀ L h' m → News h₀ L h' ((I, instObj 175 D) :: (D, inD h1 k1 b tb h2 k2 (p + 2) tp') :: rest) → Q (.int (beI ((ks.drop p.toNat).take 2)) t) { s with heap := h', toks := tk' })
    (rai : (p < 0 ∨ (b.size : Int) < p + 2) → ∀ e De o g h' tk', ExcAt p o → Flies base g (envX cn cs L a ccd cl :: outer) e De ((De, o) :: (I, instObj 175 D) :: (D, inD h1 k1 b tb h2 k2 p tp) :: rest) h' → Fr h₀ L g m → g.UpToSlots h' → E (.ref e) { s with heap := h', toks := tk' }) :
    wpAny (model Challenge.pw_nz0115_01 w) (ktrTop dp un gd cn cs L a ccd cl outer) (call (.ref 134) [.ref I]) Q E s :=
  u16_c B F X (pull2 U1 U2 N) T hk hID hD hbi hb hdp hun ok rai
theorem zs12 : True := by w_top off; trivial
section Z12
local macro_rules | `(tactic| ks_enter) => entC "code_defC"
section Z13
local macro_rules | `(tactic| walk_at $s) => lines s [
  ("call ref", cl2 134 "u16_u" "aaaaaennhAhhRS__" 8 10)]
def rowsI (ks : List Int) (p n : Nat) : List Int := (List.range n).map fun j => beI ((ks.drop (p + 2 * j)).take 2)
theorem rowsI_succ (ks : List Int) (p n : Nat) : rowsI ks p (n + 1) = rowsI ks p n ++ [beI ((ks.drop (p + 2 * n)).take 2)] := by
  unfold rowsI
  rw [List.range_succ, List.map_append]
  rfl
theorem inrows_k {w : World} {mean : ExcName → Option Value} {mg mb : Str → Option Value} {dp un : Nat} {gd : Option (List Code)} {cn : Str} {cs : Scope} {a : Addr} {ccd : Value} {cl : List (Str × Addr)} {outer : List Env} {A₀ : Around} {base h₀ : Heap} {L : Addr} {m : Str → Option Value} {s : Shared} {R : Result → Shared → Prop}
    {b : Array UInt8} {p : Int} {c : Nat} {tb tp k1 k2 tc : Tok} {news : List (Addr × Obj)} {ks : List Int} {I D : Addr} {h1 h2 : Int}
    (B : Below A₀ base outer h₀) (F : Fr h₀ L s.heap m) (X : (hd.heap_1 w.params).In h₀) (N : News h₀ L s.heap ((I, instObj 175 D) :: (D, inD h1 k1 b tb h2 k2 p tp) :: news))
    (T : Top vw (looseW vw [Str.ofString "ShapeError"]) mean mg mb h₀) (hk : cs.kind = .function)
    (hID : @Ne Nat I D) (hD : ∀ p ∈ news, p.1 ≠ D) (hc : c ≤ 4)
    (hbi : KBw.bInts b = ks) (hks : ks.length = b.size) (hb : b.size ≤ 1000) (hdp : dp < 495) (hun : un < 4500)
    (ok : 0 ≤ p → p + 2 * c ≤ b.size → ∀ RL ys tp' h' tk', IntsAre ys (rowsI ks p.toNat c) → @Ne Nat I RL → @Ne Nat D RL → (∀ q ∈ news, q.1 ≠ RL) → Fr h₀ L h' m → News h₀ L h' ((RL, listOf ys.toArray ys.length) :: (I, instObj 175 D) :: (D, inD h1 k1 b tb h2 k2 (p + 2 * c) tp') :: news) → R (.ok (.ret (.ref RL))) { s with heap := h', toks := tk' })
    (rai : (p < 0 ∨ (b.size : Int) < p + 2 * c) → ∀ e De o g h' tk', ExcAt p o → Flies base g (envX cn cs L a ccd cl :: outer) e De ((De, o) :: (I, instObj 175 D) :: (D, inD h1 k1 b tb h2 k2 p tp) :: news) h' → Fr h₀ L g m → g.UpToSlots h' → R (.error (.ref e)) { s with heap := h', toks := tk' }) :
    codeAny (model Challenge.pw_nz0115_01 w) (ktrTop dp un gd cn cs L a ccd cl outer) (.call (.ref 165) ⟨[.ref I, .int c tc], []⟩) R s := by
  k_dflt ks_enter
  refine wpAny_letA ?_; intro ak
  k_steps
  · exact rai ‹_› _ _ _ _ _ _ ‹_› (Flies.sub (by assumption) (by ktr_rel)) ‹_› ‹_›
  rename News _ _ _ (_ :: _ :: _ :: _) => NN
  obtain ⟨pc, hpc⟩ := news_head NN
  refine' lcs_range (n := c) (fun i ys nw => ∃ q tq, q = p + 2 * i ∧ nw = pc :: (I, instObj 175 D) :: (D, inD h1 k1 b tb h2 k2 q tq) :: news ∧ IntsAre ys (rowsI ks p.toNat i)) rfl ?kF ?kN ?kr ?ks ?kn (by omega) ?k0 ?kt ?kf
  case kF => k_asm
  case kN => k_asm
  case kr => assumption
  case ks => exact small_one (by omega) (by omega) (by omega) (by omega)
  case kn => rw [rangeSize_nat]; omega
  case k0 => exact ⟨p, tp, by simp, by rw [hpc], .nil⟩
  case kt =>
    rintro i t hi ys nw I' oI C oC D' m₂ h tk hoC hm F1 N1 off ne yl ⟨q, tq, hq, rfl, hS⟩
    subst hpc
    k_steps
    · exfalso; omega
    refine' LCg.CompEnd.intro (by k_asm) (by k_asm) _ ?sub ?off trivial ⟨_, _, ?e1, rfl, ?e2⟩
    case sub => ktr_rel
    case off => exact off
    case e1 => omega
    case e2 =>
      rw [rowsI_succ, tn_add2 (by assumption) hq]
      exact ints_snoc hS
  case kf =>
    rintro R' h tk ys nw F1 N1 o1 yl ⟨q, tq, hq, rfl, hS⟩
    subst hpc
    simp only [LCg.Off1] at o1
    k_steps
    subst hq
    exact ok (by assumption) (by assumption) _ _ _ _ _ hS o1.2.1 o1.2.2.1 (off1_all o1.2.2.2) (by k_asm) (news_sub (by k_asm) (by ktr_rel))
theorem zs13 : True := by w_top off; trivial
end Z13
theorem zr4 {p : Program} {w : World} {A : Around} {e : Env} {Q : Flow → Shared → Prop} {E : Value → Shared → Prop} {s : Shared} (h : wpAny (model p w) A (execs [] e) Q E s) : wpAny (model p w) A (execs [] e) Q E s := by
  w_top off
  first | (walk1; fail) | exact h
section Z14
local macro_rules | `(tactic| walk_at $s) => lines s [
  ("call ref", here (sq (shA "call (Value.ref 54) (List.cons (Value.str _ _) List.nil) _") (sq (dfl (whole (fill "tf1_c" "aaaaaeRS_"))) (sq (ins 15) swp))))]
theorem numoct_c {w : World} {mean : ExcName → Option Value} {mg mb : Str → Option Value} {dp un : Nat} {gd : Option (List Code)} {cn : Str} {cs : Scope} {a : Addr} {ccd : Value} {cl : List (Str × Addr)} {outer : List Env} {A₀ : Around} {base h₀ : Heap} {L : Addr} {m : Str → Option Value} {s : Shared} {Q E : Value → Shared → Prop}
    {n : Int} {c : Nat} {tn tc : Tok} {news : List (Addr × Obj)}
    (B : Below A₀ base outer h₀) (F : Fr h₀ L s.heap m) (X : (hd.heap_1 w.params).In h₀) (N : News h₀ L s.heap news)
    (T : Top vw (looseW vw [Str.ofString "ShapeError"]) mean mg mb h₀) (hk : cs.kind = .function)
    (hc : c ≤ 4) (hn1 : -10000000000 ≤ n) (hn2 : n ≤ 10000000000) (hdp : dp < 499) (hun : un < 4900)
    (ok : 0 ≤ n → n < 256 ^ c → ∀ t h' tk', Fr h₀ L h' m → News h₀ L h' news → Q (.bytes (byteArr (beD n c)) t) { s with heap := h', toks := tk' })
    (rai : (n < 0 ∨ 256 ^ c ≤ n) → ∀ e De o g h' tk', Flies base g (envX cn cs L a ccd cl :: outer) e De ((De, o) :: news) h' → Fr h₀ L g m → g.UpToSlots h' → E (.ref e) { s with heap := h', toks := tk' }) :
    wpAny (model Challenge.pw_nz0115_01 w) (ktrTop dp un gd cn cs L a ccd cl outer) (call (.ref 184) [.int n tn, .int c tc]) Q E s := by
  refine wpAny_call ?_
  k_dflt ks_enter
  refine wpAny_letA ?_; intro ak
  k_steps
  · exact rai (.inl (by assumption)) _ _ _ _ _ _ (Flies.sub (by assumption) (by ktr_rel)) ‹_› ‹_›
  · exact rai (.inr (shr_hi hc (by assumption) rfl)) _ _ _ _ _ _ (Flies.sub (by assumption) (by ktr_rel)) ‹_› ‹_›
  have hlt : n < 256 ^ c := shr_lo hc (by omega) (by assumption) rfl
  rename News _ _ _ (_ :: _) => NN
  obtain ⟨pc, hpc⟩ := news_head NN
  refine' lcs_range (n := c) (fun i ys nw => nw = pc :: news ∧ IntsAre ys (beP n c i)) rfl ?kF ?kN ?kr ?ks ?kn (by omega) ?k0 ?kt ?kf
  case kF => k_asm
  case kN => k_asm
  case kr => assumption
  case ks => exact small_down (by omega) (by omega) (by omega) (by omega)
  case kn => rw [rangeSize_downNat]; omega
  case k0 => exact ⟨by rw [hpc], .nil⟩
  case kt =>
    rintro i t hi ys nw I' oI C oC D' m₂ h tk hoC hm F1 N1 off ne yl ⟨rfl, hS⟩
    subst hpc
    k_steps
    refine LCg.CompEnd.intro (by k_asm) N1 _ sub_self off trivial ⟨rfl, ?_⟩
    rw [beP_succ]
    exact ints_snoc' hS (digit_eq hc hi rfl)
  case kf =>
    rintro R' h tk ys nw F1 N1 o1 yl ⟨rfl, hS⟩
    subst hpc
    have hin := beP_in n c c
    have hlen := beP_len n c c
    k_steps
    exact ok (by omega) hlt _ _ _ (by k_asm) (news_sub (by k_asm) (by ktr_rel))
theorem zs14 : True := by w_top off; trivial
end Z14
end Z12
end Z11
end Z10
end Z9
end Z8
theorem zr5 {p : Program} {w : World} {A : Around} {e : Env} {Q : Flow → Shared → Prop} {E : Value → Shared → Prop} {s : Shared} (h : wpAny (model p w) A (execs [] e) Q E s) : wpAny (model p w) A (execs [] e) Q E s := by
  w_top off
  first | (walk1; fail) | exact h
theorem outsize_c {w : World} {mean : ExcName → Option Value} {mg mb : Str → Option Value} {dp un : Nat} {gd : Option (List Code)} {cn : Str} {cs : Scope} {a : Addr} {ccd : Value} {cl : List (Str × Addr)} {outer : List Env} {A₀ : Around} {base h₀ : Heap} {L : Addr} {m : Str → Option Value} {s : Shared} {Q E : Value → Shared → Prop}
    {k1 : Tok} {news : List (Addr × Obj)} {O DO BA : Addr} {h1 : Int} {b0 : Array UInt8}
    (B : Below A₀ base outer h₀) (F : Fr h₀ L s.heap m) (X : (hd.heap_1 w.params).In h₀) (N : News h₀ L s.heap ((O, instObj 267 DO) :: (DO, dictOf [⟨h1, .str "made" k1, .ref BA⟩] 1) :: (BA, baO b0) :: news))
    (T : Top vw (looseW vw [Str.ofString "ShapeError"]) mean mg mb h₀) (hk : cs.kind = .function)
    (hz : b0.size ≤ 1000) (hdp : dp < 498) (hun : un < 4800)
    (ok : ∀ t h' tk', Fr h₀ L h' m → News h₀ L h' ((O, instObj 267 DO) :: (DO, dictOf [⟨h1, .str "made" k1, .ref BA⟩] 1) :: (BA, baO b0) :: news) → Q (.int b0.size t) { s with heap := h', toks := tk' }) :
    wpAny (model Challenge.pw_nz0115_01 w) (ktrTop dp un gd cn cs L a ccd cl outer) (call (.ref 257) [.ref O]) Q E s := by
  refine wpAny_call ?_
  k_dflt ktr_enter
  refine wpAny_letA ?_; intro ak
  k_steps
  rename News _ _ _ _ => NN
  refine len_ba (NN (BA, baO b0) (by k_mem)).1 hz ?_
  k_steps
  exact ok _ _ _ (by k_asm) (by k_asm)
theorem outoctets_c {w : World} {mean : ExcName → Option Value} {mg mb : Str → Option Value} {dp un : Nat} {gd : Option (List Code)} {cn : Str} {cs : Scope} {a : Addr} {ccd : Value} {cl : List (Str × Addr)} {outer : List Env} {A₀ : Around} {base h₀ : Heap} {L : Addr} {m : Str → Option Value} {s : Shared} {Q E : Value → Shared → Prop}
    {k1 : Tok} {news : List (Addr × Obj)} {O DO BA : Addr} {h1 : Int} {b0 : Array UInt8}
    (B : Below A₀ base outer h₀) (F : Fr h₀ L s.heap m) (X : (hd.heap_1 w.params).In h₀) (N : News h₀ L s.heap ((O, instObj 267 DO) :: (DO, dictOf [⟨h1, .str "made" k1, .ref BA⟩] 1) :: (BA, baO b0) :: news))
    (T : Top vw (looseW vw [Str.ofString "ShapeError"]) mean mg mb h₀) (hk : cs.kind = .function)
    (hz : b0.size ≤ 1000) (hdp : dp < 498) (hun : un < 4800)
    (ok : ∀ t h' tk', Fr h₀ L h' m → News h₀ L h' ((O, instObj 267 DO) :: (DO, dictOf [⟨h1, .str "made" k1, .ref BA⟩] 1) :: (BA, baO b0) :: news) → Q (.bytes b0 t) { s with heap := h', toks := tk' }) :
    wpAny (model Challenge.pw_nz0115_01 w) (ktrTop dp un gd cn cs L a ccd cl outer) (call (.ref 264) [.ref O]) Q E s := by
  refine wpAny_call ?_
  k_dflt ktr_enter
  refine wpAny_letA ?_; intro ak
  k_steps
  rename News _ _ _ _ => NN
  refine call_bytes_ba (NN (BA, baO b0) (by k_mem)).1 hz fun t tk => ?_
  k_steps
  exact ok _ _ _ (by k_asm) (by k_asm)
theorem zs15 : True := by w_top off; trivial
section Z15
local macro_rules | `(tactic| walk_at $s) => lines s [
  ("call ref", alt [cl2 77 "u16at_c" "aaaaaehhRS__" 7 10, cl2 84 "u32at_c" "aaaaaehhRS__" 7 10])]
section Z16
local macro_rules | `(tactic| ktr_enter) => ent "codeA_defS" "aaaaaffgiiRxL_rrrd" "fg" 9
abbrev tup2 (a b : Value) (e : Nat) : Obj := { cls := .type "tuple", data := .seq #[a, b] e }
theorem at16_c {w : World} {mean : ExcName → Option Value} {mg mb : Str → Option Value} {dp un : Nat} {gd : Option (List Code)} {cn : Str} {cs : Scope} {a : Addr} {ccd : Value} {cl : List (Str × Addr)} {A₀ : Around} {base h₀ : Heap} {L : Addr} {m : Str → Option Value} {s : Shared} {Q E : Value → Shared → Prop}
    {b : Array UInt8} {at_ : Int} {tb ta : Tok} {news : List (Addr × Obj)} {ks : List Int}
    (B : Below A₀ base [] h₀) (F : Fr h₀ L s.heap m) (X : (hd.heap_1 w.params).In h₀) (N : News h₀ L s.heap news)
    (T : Top vw (looseW vw [Str.ofString "ShapeError"]) mean mg mb h₀) (XB : (hd.heap_1 w.params).In base) (TB : Top vw (looseW vw [Str.ofString "ShapeError"]) mean mg mb base) (hk : cs.kind = .function)
    (hbi : KBw.bInts b = ks) (hb : b.size ≤ 1000) (hdp : dp < 490) (hun : un < 4500)
    (ok : 0 ≤ at_ → at_ + 2 ≤ b.size → ∀ V e t t' h' tk', Fr h₀ L h' m → News h₀ L h' ((V, tup2 (.int (beI ((ks.drop at_.toNat).take 2)) t) (.int (-2) t') e) :: news) → Q (.ref V) { s with heap := h', toks := tk' })
    (no : (at_ < 0 ∨ (b.size : Int) < at_ + 2) → ∀ V e t h' tk', Fr h₀ L h' m → News h₀ L h' ((V, tup2 .none (.int at_ t) e) :: news) → Q (.ref V) { s with heap := h', toks := tk' }) :
    wpAny (model Challenge.pw_nz0115_01 w) (ktrTop dp un gd cn cs L a ccd cl []) (call (.ref 319) [.ref 77, .bytes b tb, .int at_ ta]) Q E s := by
  refine wpAny_call ?_
  k_dflt ktr_enter
  refine wpAny_letA ?_; intro ak
  k_steps
  · obtain ⟨h1, k1, h2, k2, x, tx, tn⟩ := ‹ExcAt _ _›
    refine' fl_caughtB (by assumption) (by assumption) (by assumption) (by assumption) XB TB (by k_is) KtsTurn.refl ?k
    intro h' g' vs sl tk T' F' N' B' X' P'
    k_steps
    rename News _ _ _ _ => NN
    refine' x_getattr (C := 54) ?xX ?xI ?xga ?xgr ?xp ?xf ?xv ?_
    case xX => exact Frag.In.keeps (by k_asm) (Fr.keep (by k_asm))
    case xI => exact (⟨(NN _ (.head _)).1, rfl, rfl, (NN _ (.tail _ (.head _))).1⟩ : InstAt _ _ (excG _ vs sl) 54 (some _))
    case xga => k_is
    case xgr => k_is
    case xp => rfl
    case xf => exact findObj_own (by k_is) (by k_is : findIn (hd.heap_1 w.params) (.ref 54) (Str.ofString "at") = some none) rfl (by rw [lookIn_dict]; k_get)
    case xv => k_handed
    k_steps
    exact no (by assumption) _ _ _ _ _ (by k_asm) (news_sub (by k_asm) (by ktr_rel))
  · exact ok (by assumption) (by assumption) _ _ _ _ _ _ (by k_asm) (news_sub (by k_asm) (by ktr_rel))
theorem at32_c {w : World} {mean : ExcName → Option Value} {mg mb : Str → Option Value} {dp un : Nat} {gd : Option (List Code)} {cn : Str} {cs : Scope} {a : Addr} {ccd : Value} {cl : List (Str × Addr)} {A₀ : Around} {base h₀ : Heap} {L : Addr} {m : Str → Option Value} {s : Shared} {Q E : Value → Shared → Prop}
    {b : Array UInt8} {at_ : Int} {tb ta : Tok} {news : List (Addr × Obj)} {ks : List Int}
    (B : Below A₀ base [] h₀) (F : Fr h₀ L s.heap m) (X : (hd.heap_1 w.params).In h₀) (N : News h₀ L s.heap news)
    (T : Top vw (looseW vw [Str.ofString "ShapeError"]) mean mg mb h₀) (XB : (hd.heap_1 w.params).In base) (TB : Top vw (looseW vw [Str.ofString "ShapeError"]) mean mg mb base) (hk : cs.kind = .function)
    (hbi : KBw.bInts b = ks) (hb : b.size ≤ 1000) (hdp : dp < 490) (hun : un < 4500)
    (ok : 0 ≤ at_ → at_ + 4 ≤ b.size → ∀ V e t t' h' tk', Fr h₀ L h' m → News h₀ L h' ((V, tup2 (.int (beI ((ks.drop at_.toNat).take 4)) t) (.int (-2) t') e) :: news) → Q (.ref V) { s with heap := h', toks := tk' })
    (no : (at_ < 0 ∨ (b.size : Int) < at_ + 4) → ∀ V e t h' tk', Fr h₀ L h' m → News h₀ L h' ((V, tup2 .none (.int at_ t) e) :: news) → Q (.ref V) { s with heap := h', toks := tk' }) :
    wpAny (model Challenge.pw_nz0115_01 w) (ktrTop dp un gd cn cs L a ccd cl []) (call (.ref 319) [.ref 84, .bytes b tb, .int at_ ta]) Q E s := by
  refine wpAny_call ?_
  k_dflt ktr_enter
  refine wpAny_letA ?_; intro ak
  k_steps
  · obtain ⟨h1, k1, h2, k2, x, tx, tn⟩ := ‹ExcAt _ _›
    refine' fl_caughtB (by assumption) (by assumption) (by assumption) (by assumption) XB TB (by k_is) KtsTurn.refl ?k
    intro h' g' vs sl tk T' F' N' B' X' P'
    k_steps
    rename News _ _ _ _ => NN
    refine' x_getattr (C := 54) ?xX ?xI ?xga ?xgr ?xp ?xf ?xv ?_
    case xX => exact Frag.In.keeps (by k_asm) (Fr.keep (by k_asm))
    case xI => exact (⟨(NN _ (.head _)).1, rfl, rfl, (NN _ (.tail _ (.head _))).1⟩ : InstAt _ _ (excG _ vs sl) 54 (some _))
    case xga => k_is
    case xgr => k_is
    case xp => rfl
    case xf => exact findObj_own (by k_is) (by k_is : findIn (hd.heap_1 w.params) (.ref 54) (Str.ofString "at") = some none) rfl (by rw [lookIn_dict]; k_get)
    case xv => k_handed
    k_steps
    exact no (by assumption) _ _ _ _ _ (by k_asm) (news_sub (by k_asm) (by ktr_rel))
  · exact ok (by assumption) (by assumption) _ _ _ _ _ _ (by k_asm) (news_sub (by k_asm) (by ktr_rel))
theorem zs16 : True := by w_top off; trivial
end Z16
end Z15
theorem zr6 {p : Program} {w : World} {A : Around} {e : Env} {Q : Flow → Shared → Prop} {E : Value → Shared → Prop} {s : Shared} (h : wpAny (model p w) A (execs [] e) Q E s) : wpAny (model p w) A (execs [] e) Q E s := by
  w_top off
  first | (walk1; fail) | exact h
section Z17
local macro_rules | `(tactic| ks_enter) => ent "code_def" "aaaaaffgiiRxL_rrrd" "fg" 9
theorem innew_c {w : World} {mean : ExcName → Option Value} {mg mb : Str → Option Value} {dp un : Nat} {gd : Option (List Code)} {cn : Str} {cs : Scope} {a : Addr} {ccd : Value} {cl : List (Str × Addr)} {outer : List Env} {A₀ : Around} {base h₀ : Heap} {L : Addr} {m : Str → Option Value} {s : Shared} {Q E : Value → Shared → Prop}
    {news : List (Addr × Obj)} {b : Array UInt8} {p : Int} {tb tp : Tok}
    (B : Below A₀ base outer h₀) (F : Fr h₀ L s.heap m) (X : (hd.heap_1 w.params).In h₀) (N : News h₀ L s.heap news)
    (T : Top vw (looseW vw [Str.ofString "ShapeError"]) mean mg mb h₀) (hk : cs.kind = .function) (hdp : dp < 490) (hun : un < 4500)
    (ret : ∀ I D h1 k1 h2 k2 h' tk', Fr h₀ L h' m → News h₀ L h' ((I, instObj 175 D) :: (D, inD h1 k1 b tb h2 k2 p tp) :: news) → (∀ q ∈ news, q.1 < D) → D < I → Q (.ref I) { s with heap := h', toks := tk' }) :
    wpAny (model Challenge.pw_nz0115_01 w) (ktrTop dp un gd cn cs L a ccd cl outer) (call (.ref 175) [.bytes b tb, .int p tp]) Q E s := by
  refine' call_cls (fI := 106) ?k1 ?k2 ?k3 ?k4 ?k5 ?k6 ?_
  case k1 => k_asm
  case k2 => k_asm
  case k3 => k_asm
  case k4 => k_is
  case k5 => k_is
  case k6 => k_is
  intro x' d' h' F' N' l1 l2
  (try k_lt l1); (try k_lt2 l2); (try k_sweep)
  k_dflt ks_enter
  refine wpAny_letA ?_; intro ak
  k_steps
  refine' ret _ _ _ _ _ _ _ _ ?r1 ?r2 l1 l2
  case r1 => k_asm
  case r2 => exact news_sub (by k_asm) (by ktr_rel)
theorem zs17 : True := by w_top off; trivial
end Z17
theorem zr7 {p : Program} {w : World} {A : Around} {e : Env} {Q : Flow → Shared → Prop} {E : Value → Shared → Prop} {s : Shared} (h : wpAny (model p w) A (execs [] e) Q E s) : wpAny (model p w) A (execs [] e) Q E s := by
  w_top off
  first | (walk1; fail) | exact h
section Z18
local macro_rules | `(tactic| walk_at $s) => lines s [
  ("call ref", here (sq (shA "call (Value.ref 175) (List.cons (Value.bytes _ _) (List.cons (Value.int _ _) List.nil)) _") (sq (dfl (whole (fill "innew_c" "aaaaaeRS_"))) (sq (ins 12) swp))))]
theorem inhere_c {w : World} {mean : ExcName → Option Value} {mg mb : Str → Option Value} {dp un : Nat} {gd : Option (List Code)} {cn : Str} {cs : Scope} {a : Addr} {ccd : Value} {cl : List (Str × Addr)} {outer : List Env} {A₀ : Around} {base h₀ : Heap} {L : Addr} {m : Str → Option Value} {s : Shared} {Q E : Value → Shared → Prop}
    {news : List (Addr × Obj)} {b : Array UInt8} {p0 p : Int} {tb tp0 tp k1 k2 : Tok} {I0 D0 : Addr} {h1 h2 : Int}
    (B : Below A₀ base outer h₀) (F : Fr h₀ L s.heap m) (X : (hd.heap_1 w.params).In h₀) (N : News h₀ L s.heap ((I0, instObj 175 D0) :: (D0, inD h1 k1 b tb h2 k2 p0 tp0) :: news))
    (T : Top vw (looseW vw [Str.ofString "ShapeError"]) mean mg mb h₀) (hk : cs.kind = .function) (hdp : dp < 480) (hun : un < 4400)
    (ret : ∀ I D h1 k1 h2 k2 h' tk', Fr h₀ L h' m → News h₀ L h' ((I, instObj 175 D) :: (D, inD h1 k1 b tb h2 k2 p tp) :: news) → (∀ q ∈ news, q.1 < D) → D < I → Q (.ref I) { s with heap := h', toks := tk' }) :
    wpAny (model Challenge.pw_nz0115_01 w) (ktrTop dp un gd cn cs L a ccd cl outer) (call (.ref 172) [.ref I0, .int p tp]) Q E s := by
  refine wpAny_call ?_
  k_dflt ktr_enter
  refine wpAny_letA ?_; intro ak
  k_steps
  rename ∀ q : Addr × Obj, q ∈ _ → @LT.lt Nat _ q.1 _ => lA
  rename @LT.lt Nat _ _ _ => l2
  refine' ret _ _ _ _ _ _ _ _ ?r1 ?r2 (fun q hq => lA q (.tail _ (.tail _ hq))) (by assumption)
  case r1 => k_asm
  case r2 => exact news_sub (by k_asm) (by ktr_rel)
theorem zs18 : True := by w_top off; trivial
end Z18
theorem zr8 {p : Program} {w : World} {A : Around} {e : Env} {Q : Flow → Shared → Prop} {E : Value → Shared → Prop} {s : Shared} (h : wpAny (model p w) A (execs [] e) Q E s) : wpAny (model p w) A (execs [] e) Q E s := by
  w_top off
  first | (walk1; fail) | exact h
section Z19
local macro_rules | `(tactic| ktr_enter) => ent "codeC_def" "aaaaaffgiiRxL_rrrd" "fg" 9
local macro_rules | `(tactic| walk_at $s) => lines s [
  ("getMethod ref", here (sq (shA "getMethod (Value.ref _) (PySem.Str.ofString %extend) _") (dfl (fill "baMethod" "am_"))))]
section Z20
local macro_rules | `(tactic| walk_at $s) => lines s [
  ("call ref", cl2 184 "numoct_c" "aaaaaeqqqRS__" 7 9)]
theorem outu8_c {w : World} {mean : ExcName → Option Value} {mg mb : Str → Option Value} {dp un : Nat} {cn : Str} {cs : Scope} {a : Addr} {ccd : Value} {cl : List (Str × Addr)} {outer : List Env} {A₀ : Around} {base h₀ : Heap} {L : Addr} {m : Str → Option Value} {s : Shared} {R : Result → Shared → Prop}
    {n : Int} {tn k1 : Tok} {news : List (Addr × Obj)} {O DO BA : Addr} {h1 : Int} {b0 : Array UInt8}
    (B : Below A₀ base outer h₀) (F : Fr h₀ L s.heap m) (X : (hd.heap_1 w.params).In h₀) (N : News h₀ L s.heap ((O, instObj 267 DO) :: (DO, dictOf [⟨h1, .str "made" k1, .ref BA⟩] 1) :: (BA, baO b0) :: news))
    (T : Top vw (looseW vw [Str.ofString "ShapeError"]) mean mg mb h₀) (hk : cs.kind = .function)
    (hOB : @Ne Nat O BA) (hDB : @Ne Nat DO BA) (hB : ∀ p ∈ news, p.1 ≠ BA) (hz : b0.size ≤ 900)
    (hn1 : -10000000000 ≤ n) (hn2 : n ≤ 10000000000) (hdp : dp < 498) (hun : un < 4800)
    (ok : 0 ≤ n → n < 256 ^ 1 → ∀ h' tk', Fr h₀ L h' m → News h₀ L h' ((O, instObj 267 DO) :: (DO, dictOf [⟨h1, .str "made" k1, .ref BA⟩] 1) :: (BA, baO (b0 ++ byteArr (beD n 1))) :: news) → R (.ok (.ret .none)) { s with heap := h', toks := tk' })
    (rai : (n < 0 ∨ 256 ^ 1 ≤ n) → ∀ e De o g h' tk', Flies base g (envX cn cs L a ccd cl :: outer) e De ((De, o) :: (O, instObj 267 DO) :: (DO, dictOf [⟨h1, .str "made" k1, .ref BA⟩] 1) :: (BA, baO b0) :: news) h' → Fr h₀ L g m → g.UpToSlots h' → R (.error (.ref e)) { s with heap := h', toks := tk' }) :
    codeC (model Challenge.pw_nz0115_01 w) (ktrTop dp un (some []) cn cs L a ccd cl outer) (.call (.ref 205) ⟨[.ref O, .int n tn], []⟩) R s := by
  k_dflt ktr_enter
  refine execsC_cons (exprC (methodCallC ?_))
  k_steps
  refine callWithC_builtin ?_
  k_steps
  · exact rai ‹_› _ _ _ _ _ _ (Flies.sub (by assumption) (by ktr_rel)) ‹_› ‹_›
  refine' extendK ?eF ?eN ?eU rfl ?eZ ?_
  case eF => k_asm
  case eN => k_asm
  case eU => k_upd
  case eZ => rw [bed_size]; exact Nat.le_trans (Nat.add_le_add_right hz 1) (by decide)
  intro h' F' N'
  refine wpC_of ?_
  k_steps
  exact ok ‹_› ‹_› _ _ (by k_asm) (by k_asm)
theorem zs19 : True := by w_top off; trivial
theorem outu16_c {w : World} {mean : ExcName → Option Value} {mg mb : Str → Option Value} {dp un : Nat} {cn : Str} {cs : Scope} {a : Addr} {ccd : Value} {cl : List (Str × Addr)} {outer : List Env} {A₀ : Around} {base h₀ : Heap} {L : Addr} {m : Str → Option Value} {s : Shared} {R : Result → Shared → Prop}
    {n : Int} {tn k1 : Tok} {news : List (Addr × Obj)} {O DO BA : Addr} {h1 : Int} {b0 : Array UInt8}
    (B : Below A₀ base outer h₀) (F : Fr h₀ L s.heap m) (X : (hd.heap_1 w.params).In h₀) (N : News h₀ L s.heap ((O, instObj 267 DO) :: (DO, dictOf [⟨h1, .str "made" k1, .ref BA⟩] 1) :: (BA, baO b0) :: news))
    (T : Top vw (looseW vw [Str.ofString "ShapeError"]) mean mg mb h₀) (hk : cs.kind = .function)
    (hOB : @Ne Nat O BA) (hDB : @Ne Nat DO BA) (hB : ∀ p ∈ news, p.1 ≠ BA) (hz : b0.size ≤ 900)
    (hn1 : -10000000000 ≤ n) (hn2 : n ≤ 10000000000) (hdp : dp < 498) (hun : un < 4800)
    (ok : 0 ≤ n → n < 256 ^ 2 → ∀ h' tk', Fr h₀ L h' m → News h₀ L h' ((O, instObj 267 DO) :: (DO, dictOf [⟨h1, .str "made" k1, .ref BA⟩] 1) :: (BA, baO (b0 ++ byteArr (beD n 2))) :: news) → R (.ok (.ret .none)) { s with heap := h', toks := tk' })
    (rai : (n < 0 ∨ 256 ^ 2 ≤ n) → ∀ e De o g h' tk', Flies base g (envX cn cs L a ccd cl :: outer) e De ((De, o) :: (O, instObj 267 DO) :: (DO, dictOf [⟨h1, .str "made" k1, .ref BA⟩] 1) :: (BA, baO b0) :: news) h' → Fr h₀ L g m → g.UpToSlots h' → R (.error (.ref e)) { s with heap := h', toks := tk' }) :
    codeC (model Challenge.pw_nz0115_01 w) (ktrTop dp un (some []) cn cs L a ccd cl outer) (.call (.ref 212) ⟨[.ref O, .int n tn], []⟩) R s := by
  k_dflt ktr_enter
  refine execsC_cons (exprC (methodCallC ?_))
  k_steps
  refine callWithC_builtin ?_
  k_steps
  · exact rai ‹_› _ _ _ _ _ _ (Flies.sub (by assumption) (by ktr_rel)) ‹_› ‹_›
  refine' extendK ?eF ?eN ?eU rfl ?eZ ?_
  case eF => k_asm
  case eN => k_asm
  case eU => k_upd
  case eZ => rw [bed_size]; exact Nat.le_trans (Nat.add_le_add_right hz 2) (by decide)
  intro h' F' N'
  refine wpC_of ?_
  k_steps
  exact ok ‹_› ‹_› _ _ (by k_asm) (by k_asm)

theorem outu24_c {w : World} {mean : ExcName → Option Value} {mg mb : Str → Option Value} {dp un : Nat} {cn : Str} {cs : Scope} {a : Addr} {ccd : Value} {cl : List (Str × Addr)} {outer : List Env} {A₀ : Around} {base h₀ : Heap} {L : Addr} {m : Str → Option Value} {s : Shared} {R : Result → Shared → Prop}
    {n : Int} {tn k1 : Tok} {news : List (Addr × Obj)} {O DO BA : Addr} {h1 : Int} {b0 : Array UInt8}
    (B : Below A₀ base outer h₀) (F : Fr h₀ L s.heap m) (X : (hd.heap_1 w.params).In h₀) (N : News h₀ L s.heap ((O, instObj 267 DO) :: (DO, dictOf [⟨h1, .str "made" k1, .ref BA⟩] 1) :: (BA, baO b0) :: news))
    (T : Top vw (looseW vw [Str.ofString "ShapeError"]) mean mg mb h₀) (hk : cs.kind = .function)
    (hOB : @Ne Nat O BA) (hDB : @Ne Nat DO BA) (hB : ∀ p ∈ news, p.1 ≠ BA) (hz : b0.size ≤ 900)
    (hn1 : -10000000000 ≤ n) (hn2 : n ≤ 10000000000) (hdp : dp < 498) (hun : un < 4800)
    (ok : 0 ≤ n → n < 256 ^ 3 → ∀ h' tk', Fr h₀ L h' m → News h₀ L h' ((O, instObj 267 DO) :: (DO, dictOf [⟨h1, .str "made" k1, .ref BA⟩] 1) :: (BA, baO (b0 ++ byteArr (beD n 3))) :: news) → R (.ok (.ret .none)) { s with heap := h', toks := tk' })
    (rai : (n < 0 ∨ 256 ^ 3 ≤ n) → ∀ e De o g h' tk', Flies base g (envX cn cs L a ccd cl :: outer) e De ((De, o) :: (O, instObj 267 DO) :: (DO, dictOf [⟨h1, .str "made" k1, .ref BA⟩] 1) :: (BA, baO b0) :: news) h' → Fr h₀ L g m → g.UpToSlots h' → R (.error (.ref e)) { s with heap := h', toks := tk' }) :
    codeC (model Challenge.pw_nz0115_01 w) (ktrTop dp un (some []) cn cs L a ccd cl outer) (.call (.ref 226) ⟨[.ref O, .int n tn], []⟩) R s := by
  k_dflt ktr_enter
  refine execsC_cons (exprC (methodCallC ?_))
  k_steps
  refine callWithC_builtin ?_
  k_steps
  · exact rai ‹_› _ _ _ _ _ _ (Flies.sub (by assumption) (by ktr_rel)) ‹_› ‹_›
  refine' extendK ?eF ?eN ?eU rfl ?eZ ?_
  case eF => k_asm
  case eN => k_asm
  case eU => k_upd
  case eZ => rw [bed_size]; exact Nat.le_trans (Nat.add_le_add_right hz 3) (by decide)
  intro h' F' N'
  refine wpC_of ?_
  k_steps
  exact ok ‹_› ‹_› _ _ (by k_asm) (by k_asm)

theorem outu32_c {w : World} {mean : ExcName → Option Value} {mg mb : Str → Option Value} {dp un : Nat} {cn : Str} {cs : Scope} {a : Addr} {ccd : Value} {cl : List (Str × Addr)} {outer : List Env} {A₀ : Around} {base h₀ : Heap} {L : Addr} {m : Str → Option Value} {s : Shared} {R : Result → Shared → Prop}
    {n : Int} {tn k1 : Tok} {news : List (Addr × Obj)} {O DO BA : Addr} {h1 : Int} {b0 : Array UInt8}
    (B : Below A₀ base outer h₀) (F : Fr h₀ L s.heap m) (X : (hd.heap_1 w.params).In h₀) (N : News h₀ L s.heap ((O, instObj 267 DO) :: (DO, dictOf [⟨h1, .str "made" k1, .ref BA⟩] 1) :: (BA, baO b0) :: news))
    (T : Top vw (looseW vw [Str.ofString "ShapeError"]) mean mg mb h₀) (hk : cs.kind = .function)
    (hOB : @Ne Nat O BA) (hDB : @Ne Nat DO BA) (hB : ∀ p ∈ news, p.1 ≠ BA) (hz : b0.size ≤ 900)
    (hn1 : -10000000000 ≤ n) (hn2 : n ≤ 10000000000) (hdp : dp < 498) (hun : un < 4800)
    (ok : 0 ≤ n → n < 256 ^ 4 → ∀ h' tk', Fr h₀ L h' m → News h₀ L h' ((O, instObj 267 DO) :: (DO, dictOf [⟨h1, .str "made" k1, .ref BA⟩] 1) :: (BA, baO (b0 ++ byteArr (beD n 4))) :: news) → R (.ok (.ret .none)) { s with heap := h', toks := tk' })
    (rai : (n < 0 ∨ 256 ^ 4 ≤ n) → ∀ e De o g h' tk', Flies base g (envX cn cs L a ccd cl :: outer) e De ((De, o) :: (O, instObj 267 DO) :: (DO, dictOf [⟨h1, .str "made" k1, .ref BA⟩] 1) :: (BA, baO b0) :: news) h' → Fr h₀ L g m → g.UpToSlots h' → R (.error (.ref e)) { s with heap := h', toks := tk' }) :
    codeC (model Challenge.pw_nz0115_01 w) (ktrTop dp un (some []) cn cs L a ccd cl outer) (.call (.ref 233) ⟨[.ref O, .int n tn], []⟩) R s := by
  k_dflt ktr_enter
  refine execsC_cons (exprC (methodCallC ?_))
  k_steps
  refine callWithC_builtin ?_
  k_steps
  · exact rai ‹_› _ _ _ _ _ _ (Flies.sub (by assumption) (by ktr_rel)) ‹_› ‹_›
  refine' extendK ?eF ?eN ?eU rfl ?eZ ?_
  case eF => k_asm
  case eN => k_asm
  case eU => k_upd
  case eZ => rw [bed_size]; exact Nat.le_trans (Nat.add_le_add_right hz 4) (by decide)
  intro h' F' N'
  refine wpC_of ?_
  k_steps
  exact ok ‹_› ‹_› _ _ (by k_asm) (by k_asm)
theorem zs20 : True := by w_top off; trivial
section
variable {prog : Program} {w : World} {A : Around} {E : Value → Shared → Prop} {s : Shared} {h₀ : Heap} {L : Addr} {m : Str → Option Value} {news : List (Addr × Obj)}
theorem callBA_K {Q : Value → Shared → Prop} (F : Fr h₀ L s.heap m) (N : News h₀ L s.heap news) (hg : A.guards = some [])
    (h : ∀ BA h', Fr h₀ L h' m → News h₀ L h' ((BA, baO #[]) :: news) → (∀ p ∈ news, p.1 < BA) → Q (.ref BA) { s with heap := h' }) : wpC (model prog w) A (call (.type "bytearray") []) Q E s := by
  refine callBA hg fun s₁ e => ?_
  subst e
  have z := (N.push F (baO #[])) 
  have z0 := z _ (.head _)
  have lt : ∀ p ∈ news, p.1 < s.heap.objs.size := fun p hp => Heap.lt_size (N p hp).1
  have sb := Heap.SameBut.update (h := s.heap.push (baO #[])) (a := s.heap.objs.size) (f := Obj.mapBytearray fun _ => #[])
  exact h _ _ ((F.push _).change sb z0.2.1 z0.2.2) (news_set (pre := []) z (fun _ h => nomatch h) (fun p hp => Nat.ne_of_lt (lt p hp)) sb (Heap.get?_update_self _ z0.1 rfl)) lt
end
theorem outnew_c {w : World} {mean : ExcName → Option Value} {mg mb : Str → Option Value} {dp un : Nat} {cn : Str} {cs : Scope} {a : Addr} {ccd : Value} {cl : List (Str × Addr)} {outer : List Env} {A₀ : Around} {base h₀ : Heap} {L : Addr} {m : Str → Option Value} {s : Shared} {Q E : Value → Shared → Prop}
    {news : List (Addr × Obj)}
    (B : Below A₀ base outer h₀) (F : Fr h₀ L s.heap m) (X : (hd.heap_1 w.params).In h₀) (N : News h₀ L s.heap news)
    (T : Top vw (looseW vw [Str.ofString "ShapeError"]) mean mg mb h₀) (hk : cs.kind = .function) (hdp : dp < 490) (hun : un < 4500)
    (ret : ∀ O DO BA h1 k1 h' tk', Fr h₀ L h' m → News h₀ L h' ((O, instObj 267 DO) :: (DO, dictOf [⟨h1, .str "made" k1, .ref BA⟩] 1) :: (BA, baO #[]) :: news) → (∀ p ∈ news, p.1 < DO) → DO < O → O < BA → Q (.ref O) { s with heap := h', toks := tk' }) :
    wpC (model Challenge.pw_nz0115_01 w) (ktrTop dp un (some []) cn cs L a ccd cl outer) (call (.ref 267) []) Q E s := by
  refine' call_clsC (fI := 198) ?k1 ?k2 ?k3 ?k4 ?k5 ?k6 ?_
  case k1 => k_asm
  case k2 => k_asm
  case k3 => k_asm
  case k4 => k_is
  case k5 => k_is
  case k6 => k_is
  intro x' d' h' F' N' l1 l2
  (try k_lt l1); (try k_lt2 l2); (try k_sweep)
  k_dflt ktr_enter
  refine execsC_cons (attrC (nameCallC ?_))
  k_steps
  refine callC0 (k := .machine) (.inr (.inl rfl)) (Looks.of_pure rfl) ?_
  refine' callBA_K ?b1 ?b2 rfl ?_
  case b1 => k_asm
  case b2 => k_asm
  intro BA' h'' F' N' l3
  (try k_lt l3)
  k_steps
  dsimp only
  refine wpC_of ?_
  k_steps
  refine' ret _ _ _ _ _ _ _ ?r1 ?r2 l1 l2 (lt_of_all l3 mm0)
  case r1 => k_asm
  case r2 => exact news_sub (by k_asm) (by ktr_rel)
theorem zs21 : True := by w_top off; trivial
end Z20
theorem zr9 {p : Program} {w : World} {A : Around} {e : Env} {Q : Flow → Shared → Prop} {E : Value → Shared → Prop} {s : Shared} (h : wpAny (model p w) A (execs [] e) Q E s) : wpAny (model p w) A (execs [] e) Q E s := by
  w_top off
  first | (walk1; fail) | exact h
section Z21
local macro_rules | `(tactic| walk_at $s) => lines s [
  ("wpC", here (alt [
    sq (shC "call (Value.builtin _) (List.cons (Value.ref _) (List.cons (Value.bytes _ _) List.nil))") (sq (dfl (fill "extendK" "aaufE_")) (ins 3)),
    sq (shC "callWith _ (Value.builtin _) _ _ _") (dfl (rf "callWithC_builtin ?_")),
    sq (shC "execs (List.cons (Stmt.Expr (Expr.Call (Expr.Attribute _ _ _) _ _ _) _) _) _") (dfl (rf "execsC_cons (exprC (methodCallC ?_))")),
    sq (shC "execs (List.cons _ _) _") (dfl (rf "execsC_cons (wpC_of ?_)")),
    sq (shC "execs _ _") (rf "wpC_of ?_")]))]
theorem outadd_c {w : World} {mean : ExcName → Option Value} {mg mb : Str → Option Value} {dp un : Nat} {cn : Str} {cs : Scope} {a : Addr} {ccd : Value} {cl : List (Str × Addr)} {outer : List Env} {A₀ : Around} {base h₀ : Heap} {L : Addr} {m : Str → Option Value} {s : Shared} {R : Result → Shared → Prop}
    {b : Array UInt8} {tn k1 : Tok} {news : List (Addr × Obj)} {O DO BA : Addr} {h1 : Int} {b0 : Array UInt8}
    (B : Below A₀ base outer h₀) (F : Fr h₀ L s.heap m) (X : (hd.heap_1 w.params).In h₀) (N : News h₀ L s.heap ((O, instObj 267 DO) :: (DO, dictOf [⟨h1, .str "made" k1, .ref BA⟩] 1) :: (BA, baO b0) :: news))
    (T : Top vw (looseW vw [Str.ofString "ShapeError"]) mean mg mb h₀) (hk : cs.kind = .function)
    (hOB : @Ne Nat O BA) (hDB : @Ne Nat DO BA) (hB : ∀ p ∈ news, p.1 ≠ BA) (hz : b0.size + b.size ≤ 1000) (hdp : dp < 498) (hun : un < 4800)
    (ok : ∀ h' tk', Fr h₀ L h' m → News h₀ L h' ((O, instObj 267 DO) :: (DO, dictOf [⟨h1, .str "made" k1, .ref BA⟩] 1) :: (BA, baO (b0 ++ b)) :: news) → R (.ok (.ret .none)) { s with heap := h', toks := tk' }) :
    codeC (model Challenge.pw_nz0115_01 w) (ktrTop dp un (some []) cn cs L a ccd cl outer) (.call (.ref 250) ⟨[.ref O, .bytes b tn], []⟩) R s := by
  k_dflt ktr_enter
  k_steps
  exact ok _ _ (by k_asm) (by k_asm)
theorem zs22 : True := by w_top off; trivial
section Z22
local macro_rules | `(tactic| walk_at $s) => lines s [
  ("call ref", here (sq (shA "call (Value.ref 54) (List.cons (Value.str _ _) List.nil) _") (sq (dfl (whole (fill "tf1_c" "aaaaaeRS_"))) (sq (ins 15) swp))))]
section Z23
local macro_rules | `(tactic| walk_at $s) => lines s [
  ("eval ListComp", here (alt [
    sq (shA "eval (Expr.ListComp _ (List.cons (Comprehension.mk _ _ (List.cons _ _) _) List.nil) _ _) _") (dfl `(tactic| refine lct_gen (fun c => decide (255 < c)) (by first | rfl | with_unfolding_all rfl) (by decide) (by rfl) (by decide) (by rfl) ?_)),
    sq (shA "eval (Expr.ListComp _ (List.cons (Comprehension.mk _ _ List.nil _) List.nil) _ _) _") (dfl (rf "lc_gen !a !v !d !y !d !y ?_"))])),
  ("pyIter str", here stp)]
theorem outtag_c {w : World} {mean : ExcName → Option Value} {mg mb : Str → Option Value} {dp un : Nat} {cn : Str} {cs : Scope} {a : Addr} {ccd : Value} {cl : List (Str × Addr)} {outer : List Env} {A₀ : Around} {base h₀ : Heap} {L : Addr} {m : Str → Option Value} {s : Shared} {R : Result → Shared → Prop}
    {x : Str} {tn k1 : Tok} {news : List (Addr × Obj)} {O DO BA : Addr} {h1 : Int} {b0 : Array UInt8}
    (B : Below A₀ base outer h₀) (F : Fr h₀ L s.heap m) (X : (hd.heap_1 w.params).In h₀) (N : News h₀ L s.heap ((O, instObj 267 DO) :: (DO, dictOf [⟨h1, .str "made" k1, .ref BA⟩] 1) :: (BA, baO b0) :: news))
    (T : Top vw (looseW vw [Str.ofString "ShapeError"]) mean mg mb h₀) (hk : cs.kind = .function)
    (hOB : @Ne Nat O BA) (hDB : @Ne Nat DO BA) (hB : ∀ p ∈ news, p.1 ≠ BA) (hz : b0.size ≤ 900) (hdp : dp < 498) (hun : un < 4800)
    (hx : x.length ≤ 10) (hxo : ∀ c ∈ x.cps.toList, c < 0x110000) (ok : x.length = 4 → (∀ c ∈ x.cps.toList, c < 256) → ∀ h' tk', Fr h₀ L h' m → News h₀ L h' ((O, instObj 267 DO) :: (DO, dictOf [⟨h1, .str "made" k1, .ref BA⟩] 1) :: (BA, baO (b0 ++ byteArr (KStt.codes x))) :: news) → R (.ok (.ret .none)) { s with heap := h', toks := tk' })
    (rai : (x.length ≠ 4 ∨ ∃ c ∈ x.cps.toList, 256 ≤ c) → ∀ e De o g h' tk', Flies base g (envX cn cs L a ccd cl :: outer) e De ((De, o) :: (O, instObj 267 DO) :: (DO, dictOf [⟨h1, .str "made" k1, .ref BA⟩] 1) :: (BA, baO b0) :: news) h' → Fr h₀ L g m → g.UpToSlots h' → R (.error (.ref e)) { s with heap := h', toks := tk' }) :
    codeC (model Challenge.pw_nz0115_01 w) (ktrTop dp un (some []) cn cs L a ccd cl outer) (.call (.ref 238) ⟨[.ref O, .str x tn], []⟩) R s := by
  k_dflt ktr_enter
  k_steps
  · exact rai (.inl (by simp_all; omega)) _ _ _ _ _ _ (Flies.sub (by assumption) (by ktr_rel)) ‹_› ‹_›
  refine' lct_str _ ?kh ?kF ?kN ?kz ?kt ?ke ?kf
  case kh => rfl
  case kF => k_asm
  case kN => k_asm
  case kz => exact Nat.le_trans hx (by decide)
  case kt =>
    intro c t oC C m₂ s₃ E' hoC hm F3 N3
    k_steps
    simp only [decide_eq_decide]
    omega
  case ke =>
    intro c t oC C m₂ s₃ E' hoC hm F3 N3
    k_steps
  case kf =>
    intro D' h' tk' ys nD F3 N3 offD hS
    k_steps
    rename News _ _ _ _ => N4
    refine ne_strs_nil (News.isList N4 (by k_mem)) (News.isList N4 (by k_mem)) hS ?_ ?_ ?_
    · intro z hz
      obtain ⟨c, hc, rfl⟩ := List.mem_map.mp hz
      have := hxo c (List.mem_filter.mp hc).1
      simp [PyData.strOk, this]
    · ktr_units
    k_steps
    · refine' lcs_str (news := ?NN) (fun i ys nw => nw = ?NN ∧ IntsAre ys ((KStt.codes x).take i)) rfl ?kF ?kN ?kz ?k0 ?kt ?kf
      case kF => k_asm
      case kN => k_asm
      case kz => exact Nat.le_trans hx (by decide)
      case k0 => exact ⟨rfl, .nil⟩
      case kt =>
        rintro i c t hi ys nw I' oI C oC D' m₂ h tk hoC hm F1 N1 off ne yl ⟨rfl, hS⟩
        k_steps
        exact LCg.CompEnd.intro (by k_asm) N1 _ sub_self off trivial ⟨rfl, codes_snoc hS hi⟩
      case kf =>
        rintro R' h tk ys nw F1 N1 o1 yl ⟨rfl, hS⟩
        rename List.map _ _ = [] => hlo
        simp only [LCg.Off1] at o1
        simp only [List.forall_mem_cons] at offD
        obtain ⟨o11, o12, o13, o14, o15, o16⟩ := o1
        have d1 : @Ne Nat O D' := offD.1
        have d2 : @Ne Nat DO D' := offD.2.1
        have d3 : @Ne Nat BA D' := offD.2.2.1
        have hlo' := tag_lo hlo
        have hin := codes_in hlo' x.cps.size
        rw [codes_all] at hS hin
        have hlen := KStt.codes_length x
        have hbs : (byteArr (KStt.codes x)).size = x.length := by rw [← KBw.ints_length, KBa.ints_make hin, hlen]
        k_steps
        rename Value → Shared → Prop => qk9; with_reducible show qk9 _ _; k_steps
        exact ok (by omega) hlo' _ _ (by k_asm) (news_sub (by k_asm) (by ktr_rel))
    · exact rai (.inr (tag_hi (by assumption))) _ _ _ _ _ _ (Flies.sub (by assumption) (by ktr_rel)) ‹_› ‹_›
theorem zs23 : True := by w_top off; trivial
end Z23
end Z22
theorem zr10 {p : Program} {w : World} {A : Around} {e : Env} {Q : Flow → Shared → Prop} {E : Value → Shared → Prop} {s : Shared} (h : wpAny (model p w) A (execs [] e) Q E s) : wpAny (model p w) A (execs [] e) Q E s := by
  w_top off
  first | (walk1; fail) | exact h
section Z24
local macro_rules | `(tactic| walk_at $s) => lines s [
  ("call ref", cl2 184 "numoct_c" "aaaaaeqqqRS__" 7 9)]
section Z25
local macro_rules | `(tactic| walk_at $s) => lines s [
  ("call ref", here (sq (shA "call (Value.ref 54) (List.cons (Value.str _ _) List.nil) _") (sq (dfl (whole (fill "tf1_c" "aaaaaeRS_"))) (sq (ins 15) swp))))]
section Z26
local macro_rules | `(tactic| walk_at $s) => lines s [
  ("binaryOp BitAnd int int", here `(tactic| ((with_reducible refine and_int ?_); rw [bitAnd_m16])))]
theorem outi16_c {w : World} {mean : ExcName → Option Value} {mg mb : Str → Option Value} {dp un : Nat} {cn : Str} {cs : Scope} {a : Addr} {ccd : Value} {cl : List (Str × Addr)} {outer : List Env} {A₀ : Around} {base h₀ : Heap} {L : Addr} {m : Str → Option Value} {s : Shared} {R : Result → Shared → Prop}
    {n : Int} {tn k1 : Tok} {news : List (Addr × Obj)} {O DO BA : Addr} {h1 : Int} {b0 : Array UInt8}
    (B : Below A₀ base outer h₀) (F : Fr h₀ L s.heap m) (X : (hd.heap_1 w.params).In h₀) (N : News h₀ L s.heap ((O, instObj 267 DO) :: (DO, dictOf [⟨h1, .str "made" k1, .ref BA⟩] 1) :: (BA, baO b0) :: news))
    (T : Top vw (looseW vw [Str.ofString "ShapeError"]) mean mg mb h₀) (hk : cs.kind = .function)
    (hOB : @Ne Nat O BA) (hDB : @Ne Nat DO BA) (hB : ∀ p ∈ news, p.1 ≠ BA) (hz : b0.size ≤ 900)
    (hn1 : -10000000000 ≤ n) (hn2 : n ≤ 10000000000) (hdp : dp < 498) (hun : un < 4800)
    (ok : -32768 ≤ n → n ≤ 32767 → ∀ h' tk', Fr h₀ L h' m → News h₀ L h' ((O, instObj 267 DO) :: (DO, dictOf [⟨h1, .str "made" k1, .ref BA⟩] 1) :: (BA, baO (b0 ++ byteArr (beD (n % 65536) 2))) :: news) → R (.ok (.ret .none)) { s with heap := h', toks := tk' })
    (rai : (n < -32768 ∨ 32767 < n) → ∀ e De o g h' tk', Flies base g (envX cn cs L a ccd cl :: outer) e De ((De, o) :: (O, instObj 267 DO) :: (DO, dictOf [⟨h1, .str "made" k1, .ref BA⟩] 1) :: (BA, baO b0) :: news) h' → Fr h₀ L g m → g.UpToSlots h' → R (.error (.ref e)) { s with heap := h', toks := tk' }) :
    codeC (model Challenge.pw_nz0115_01 w) (ktrTop dp un (some []) cn cs L a ccd cl outer) (.call (.ref 219) ⟨[.ref O, .int n tn], []⟩) R s := by
  k_dflt ktr_enter
  have hm1 : 0 ≤ n % 65536 := Int.emod_nonneg _ (by decide)
  have hm2 : n % 65536 < 65536 := Int.emod_lt_of_pos _ (by decide)
  k_steps
  · exact absurd (show 65536 ≤ n % 65536 from ‹_ ∨ _›.elim (fun h => absurd h (by omega)) id) (by omega)
  · exact ok (by omega) (by omega) _ _ (by k_asm) (by k_asm)
  all_goals exact rai (by omega) _ _ _ _ _ _ (Flies.sub (by assumption) (by ktr_rel)) ‹_› ‹_›
theorem zs24 : True := by w_top off; trivial
end Z26
end Z25
theorem zr11 {p : Program} {w : World} {A : Around} {e : Env} {Q : Flow → Shared → Prop} {E : Value → Shared → Prop} {s : Shared} (h : wpAny (model p w) A (execs [] e) Q E s) : wpAny (model p w) A (execs [] e) Q E s := by
  w_top off
  first | (walk1; fail) | exact h
section Z27
local macro_rules | `(tactic| walk_at $s) => lines s [
  ("eval ListComp", here (dfl (rf "lc_gen !a !v !d !y !d !y ?_")))]
section Z28
local macro_rules | `(tactic| walk_at $s) => lines s [
  ("getMethod bytes", here (rr "bjoin_method ?_"))]
def rowsOct (ns : List Int) : List (Array UInt8) := ns.map fun k => byteArr (beD k 2)
theorem rowsOct_snoc {ns : List Int} {i : Nat} {k : Int} (h : ns[i]? = some k) : rowsOct (ns.take (i + 1)) = rowsOct (ns.take i) ++ [byteArr (beD k 2)] := by
  unfold rowsOct
  rw [List.take_add_one, h, List.map_append]
  rfl
theorem bys_snoc {ys : List Value} {bs : List (Array UInt8)} {b : Array UInt8} {t : Tok} (h : BysAre ys bs) : BysAre (ys ++ [.bytes b t]) (bs ++ [b]) := by
  induction h with
  | nil => exact .cons _ _ .nil
  | cons _ _ _ ih => exact .cons _ _ ih
theorem rowsOct_size {ns : List Int} : ∀ b ∈ rowsOct ns, b.size ≤ 100 := by
  intro b hb
  obtain ⟨k, _, rfl⟩ := List.mem_map.mp hb
  rw [bed_size]; decide
theorem rowsOct_flat (ns : List Int) : ((rowsOct ns).foldl (· ++ ·) #[]).size ≤ 2 * ns.length := by
  have : ∀ (l : List Int) (a : Array UInt8), ((rowsOct l).foldl (· ++ ·) a).size = a.size + 2 * l.length := by
    intro l
    induction l with
    | nil => intro a; rfl
    | cons k r ih =>
      intro a
      show ((rowsOct r).foldl (· ++ ·) (a ++ byteArr (beD k 2))).size = _
      rw [ih, Array.size_append, bed_size, List.length_cons]; omega
  rw [this]; simp
theorem ints_at {vs : List Value} {ns : List Int} {i : Nat} {v : Value} (h : IntsAre vs ns) (hv : vs[i]? = some v) : ∃ k t, ns[i]? = some k ∧ v = .int k t ∧ k ∈ ns := by
  have hlt : i < ns.length := by rw [← h.length]; exact (List.getElem?_eq_some_iff.mp hv).1
  obtain ⟨t, ht⟩ := h.get i ns[i] (by simp [hlt])
  rw [hv] at ht
  exact ⟨ns[i], t, by simp [hlt], Option.some.inj ht, List.getElem_mem hlt⟩
theorem outrows_c {w : World} {mean : ExcName → Option Value} {mg mb : Str → Option Value} {dp un : Nat} {cn : Str} {cs : Scope} {a : Addr} {ccd : Value} {cl : List (Str × Addr)} {outer : List Env} {A₀ : Around} {base h₀ : Heap} {L : Addr} {m : Str → Option Value} {s : Shared} {R : Result → Shared → Prop}
    {ns : List Int} {vs : List Value} {le : Nat} {k1 : Tok} {news : List (Addr × Obj)} {O DO BA Ra : Addr} {h1 : Int} {b0 : Array UInt8}
    (B : Below A₀ base outer h₀) (F : Fr h₀ L s.heap m) (X : (hd.heap_1 w.params).In h₀) (N : News h₀ L s.heap ((O, instObj 267 DO) :: (DO, dictOf [⟨h1, .str "made" k1, .ref BA⟩] 1) :: (BA, baO b0) :: news))
    (T : Top vw (looseW vw [Str.ofString "ShapeError"]) mean mg mb h₀) (hk : cs.kind = .function)
    (hOB : @Ne Nat O BA) (hDB : @Ne Nat DO BA) (hB : ∀ p ∈ news, p.1 ≠ BA) (hR : (Ra, listOf vs.toArray le) ∈ news) (hi : IntsAre vs ns) (hl : ns.length ≤ 10) (hns : ∀ k ∈ ns, -10000000000 ≤ k ∧ k ≤ 10000000000) (hz : b0.size ≤ 900) (hdp : dp < 497) (hun : un < 4700)
    (ok : (∀ k ∈ ns, 0 ≤ k ∧ k < 65536) → ∀ h' tk', Fr h₀ L h' m → News h₀ L h' ((O, instObj 267 DO) :: (DO, dictOf [⟨h1, .str "made" k1, .ref BA⟩] 1) :: (BA, baO (b0 ++ (rowsOct ns).foldl (· ++ ·) #[])) :: news) → R (.ok (.ret .none)) { s with heap := h', toks := tk' })
    (rai : (∃ k ∈ ns, k < 0 ∨ 65536 ≤ k) → ∀ e De g h' tk', Flies base g (envX cn cs L a ccd cl :: outer) e De ((O, instObj 267 DO) :: (DO, dictOf [⟨h1, .str "made" k1, .ref BA⟩] 1) :: (BA, baO b0) :: news) h' → Fr h₀ L g m → g.UpToSlots h' → R (.error (.ref e)) { s with heap := h', toks := tk' }) :
    codeC (model Challenge.pw_nz0115_01 w) (ktrTop dp un (some []) cn cs L a ccd cl outer) (.call (.ref 243) ⟨[.ref O, .ref Ra], []⟩) R s := by
  k_dflt ktr_enter
  k_steps
  have hlen := hi.length
  refine' lcs_list (news := ?NN) (ax := Ra) (items := vs) (le := le) (fun i ys nw => nw = ?NN ∧ BysAre ys (rowsOct (ns.take i)) ∧ ∀ k ∈ ns.take i, 0 ≤ k ∧ k < 65536) rfl ?kF ?kN ?km ?kz ?k0 ?kt ?kf
  case kF => k_asm
  case kN => k_asm
  case km => exact .tail _ (.tail _ (.tail _ hR))
  case kz => omega
  case k0 => exact ⟨rfl, .nil, by simp⟩
  case kt =>
    rintro i v hv ys nw I' oI C oC D' m₂ h tk hoC hm F1 N1 off ne yl ⟨rfl, hS, hlo⟩
    obtain ⟨k, t, hk', rfl, hmem⟩ := ints_at hi hv
    obtain ⟨hk1, hk2⟩ := hns k hmem
    simp only [LCg.Off3] at off
    obtain ⟨⟨off1, off2, off3⟩, ⟨off4, off5, off6⟩, ⟨off7, off8, off9⟩, offr⟩ := off
    k_steps
    · rename_i qr e1 De oe g1 h2 tk1 R1 FG1 U1
      refine' lc_err ((O, instObj 267 DO) :: (DO, dictOf [⟨h1, .str "made" k1, .ref BA⟩] 1) :: (BA, baO b0) :: news) ?K ?F ?U R1 hoC ?hC ?h2 ?h3 ?hE
      case K => assumption
      case F => assumption
      case U => assumption
      case hC => k_mem
      case h2 => ktr_rel
      case h3 =>
        intro q hq
        rcases List.mem_cons.mp hq with rfl | hq
        · exact off2
        rcases List.mem_cons.mp hq with rfl | hq
        · exact off5
        rcases List.mem_cons.mp hq with rfl | hq
        · exact off8
        · exact (LCg.Off3.mem offr q hq).2.1
      case hE =>
        intro h3 R3 U3
        k_steps
        exact rai ⟨k, hmem, by assumption⟩ _ _ _ _ _ (by assumption) ‹_› ‹_›
    · rw [rowsOct_snoc hk', List.take_add_one, hk']
      refine LCg.CompEnd.intro (by k_asm) (by k_asm) _ sub_self (by simp only [LCg.Off3]; exact ⟨⟨off1, off2, off3⟩, ⟨off4, off5, off6⟩, ⟨off7, off8, off9⟩, offr⟩) (.tail _ (.tail _ (.tail _ hR))) ⟨rfl, bys_snoc hS, ?_⟩
      intro z hz
      rcases List.mem_append.mp hz with hz | hz
      · exact hlo z hz
      · obtain rfl : z = k := by simpa using hz
        constructor <;> assumption
  case kf =>
    rintro R' h tk ys nw F1 N1 o1 yl ⟨rfl, hS, hlo⟩
    rw [hlen, List.take_length] at hS hlo
    have hbs := rowsOct_flat ns
    simp only [LCg.Off1] at o1
    obtain ⟨o11, o12, o13, o14⟩ := o1
    k_steps
    refine bjoin_call (N1 _ (.head _)).1 hS (by unfold rowsOct; rw [List.length_map]; omega) rowsOct_size fun t' tk => ?_
    k_steps
    exact ok hlo _ _ (by k_asm) (news_sub (by k_asm) (by ktr_rel))
theorem zs25 : True := by w_top off; trivial
theorem pick_u {w : World} {mean : ExcName → Option Value} {mg mb : Str → Option Value} {dp un : Nat} {gd : Option (List Code)} {cn : Str} {cs : Scope} {a : Addr} {ccd : Value} {cl : List (Str × Addr)} {outer : List Env} {A₀ : Around} {base h₀ : Heap} {L : Addr} {m : Str → Option Value} {s : Shared} {Q E : Value → Shared → Prop}
    {P C S : Addr} {oP oC : Obj} {news r1 r2 rest : List (Addr × Obj)} {items : List Value} {e : Nat}
    (B : Below A₀ base outer h₀) (F : Fr h₀ L s.heap m) (X : (hd.heap_1 w.params).In h₀)
    (N : News h₀ L s.heap news)
    (T : Top vw (looseW vw [Str.ofString "ShapeError"]) mean mg mb h₀) (hk : cs.kind = .function)
    (hpen : Pen oP oC C) (U1 : Pull P oP news r1) (U2 : Pull C oC r1 r2) (U3 : Pull S (listOf items.toArray e) r2 rest) (hmany : 0 < items.length) (hz : items.length ≤ 100) (hne : @Ne Nat P C) (hSP : @Ne Nat S P) (hSC : @Ne Nat S C) (hP : ∀ p ∈ rest, p.1 ≠ P) (hC : ∀ p ∈ rest, p.1 ≠ C)
    (hdp : dp < 499) (hun : un < 4900)
    (ret : ∀ v h' tk' oP' oC', v ∈ items → Pen oP' oC' C → Fr h₀ L h' m → News h₀ L h' ((P, oP') :: (C, oC') :: rest) → Q v { s with heap := h', toks := tk' }) :
    wpAny (model Challenge.pw_nz0115_01 w) (ktrTop dp un gd cn cs L a ccd cl outer) (call (.ref 290) [.ref P, .ref S]) Q E s :=
  by
  have s1 : ∀ p ∈ (P, oP) :: (C, oC) :: (S, listOf items.toArray e) :: rest, p ∈ news := fun p hp => by
    rcases List.mem_cons.mp hp with rfl | hp
    · exact U1.sub _ (.head _)
    rcases List.mem_cons.mp hp with rfl | hp
    · exact U1.sub _ (.tail _ (U2.sub _ (.head _)))
    · exact U1.sub _ (.tail _ (U2.sub _ (.tail _ (U3.sub _ hp))))
  refine pick_c B F X (news_sub N s1) T hk hpen hmany hz hne hSP hSC hP hC hdp hun fun v h' tk' oP' oC' hv hp F' N' => ret v h' tk' oP' oC' hv hp F' (news_sub N' fun p hp => ?_)
  rcases List.mem_cons.mp hp with rfl | hp
  · exact .head _
  rcases List.mem_cons.mp hp with rfl | hp
  · exact .tail _ (.head _)
  · exact .tail _ (.tail _ (.tail _ hp))
section
variable {prog : Program} {w : World} {A : Around} {E : Value → Shared → Prop} {s : Shared} {t u : Tok} {Q : Value → Shared → Prop}
theorem pow256_1 (h : Q (.int 256 s.toks) { s with toks := s.toks + 1 }) : wpAny (model prog w) A (binaryOp .Pow (.int 256 t) (.int 1 u)) Q E s := pow_int_small (by decide) (by decide) (by decide) h
theorem pow256_2 (h : Q (.int 65536 s.toks) { s with toks := s.toks + 1 }) : wpAny (model prog w) A (binaryOp .Pow (.int 256 t) (.int 2 u)) Q E s := pow_int_small (by decide) (by decide) (by decide) h
theorem pow256_3 (h : Q (.int 16777216 s.toks) { s with toks := s.toks + 1 }) : wpAny (model prog w) A (binaryOp .Pow (.int 256 t) (.int 3 u)) Q E s := pow_int_small (by decide) (by decide) (by decide) h
theorem pow256_4 (h : Q (.int 4294967296 s.toks) { s with toks := s.toks + 1 }) : wpAny (model prog w) A (binaryOp .Pow (.int 256 t) (.int 4 u)) Q E s := pow_int_small (by decide) (by decide) (by decide) h
end
section
variable {l : List (Value × Value)} {x y : Str} {t : Tok} {u v : Value}
theorem sp_hit : valueAt (strPairs ((.str x t, v) :: l)) x = some v := by simp [strPairs, valueAt]
theorem sp_miss (hne : ¬ (y == x) = true) (h : valueAt (strPairs l) x = some v) : valueAt (strPairs ((.str y t, u) :: l)) x = some v := by
  have hne' : y ≠ x := fun q => hne (by rw [q]; exact beq_self_eq_true x)
  rw [← h]
  simp [strPairs, valueAt, hne']
end
inductive NK where
  | u8 | u16 | i16 | u24 | u32
inductive Fld where
  | tag (x : Str)
  | rows (ns : List Int)
  | add (b : Array UInt8)
  | num (k : NK) (n : Int)
def NK.name : NK → Str
  | .u8 => Str.ofString "u8" | .u16 => Str.ofString "u16" | .i16 => Str.ofString "i16" | .u24 => Str.ofString "u24" | .u32 => Str.ofString "u32"
def Fld.kind : Fld → Str
  | .tag _ => Str.ofString "tag" | .rows _ => Str.ofString "rows" | .add _ => Str.ofString "add" | .num k _ => k.name
def tags : List Str := [Str.ofString "liga", Str.ofString "a b ", Str.ofString "ÿ\x00zz", Str.ofString "abc", Str.ofString "kerns", Str.ofString "Ābcd"]
def Fld.Ok : Fld → Prop
  | .tag x => x ∈ tags
  | .rows ns => ns.length ≤ 4 ∧ ∀ k ∈ ns, 0 ≤ k ∧ k ≤ 131072
  | .add b => b.size ≤ 4
  | .num _ n => -32769 ≤ n ∧ n ≤ 4294967296
inductive WorthIn (news : List (Addr × Obj)) : Value → Fld → Prop
  | tag (x : Str) (t : Tok) : WorthIn news (.str x t) (.tag x)
  | rows {R : Addr} {ys : List Value} {ns : List Int} {e : Nat} : (R, listOf ys.toArray e) ∈ news → IntsAre ys ns → WorthIn news (.ref R) (.rows ns)
  | add (b : Array UInt8) (t : Tok) : WorthIn news (.bytes b t) (.add b)
  | num (k : NK) (n : Int) (t : Tok) : WorthIn news (.int n t) (.num k n)
def NK.top : NK → Int
  | .u8 => 256 | .u16 => 65536 | .i16 => 32768 | .u24 => 16777216 | .u32 => 4294967296
def NK.size : NK → Nat
  | .u8 => 1 | .u16 => 2 | .i16 => 2 | .u24 => 3 | .u32 => 4
theorem NK.top_pos (K : NK) : 0 < K.top := by cases K <;> decide
theorem NK.top_le (K : NK) : K.top ≤ 4294967296 := by cases K <;> decide
theorem NK.size_pos (K : NK) : 0 < K.size := by cases K <;> decide
theorem NK.size_le (K : NK) : K.size ≤ 4 := by cases K <;> decide
theorem nk_tag (K : NK) : ¬ ((K.name == Str.ofString "tag") = true) := by cases K <;> decide
theorem nk_rows (K : NK) : ¬ ((K.name == Str.ofString "rows") = true) := by cases K <;> decide
theorem nk_add (K : NK) : ¬ ((K.name == Str.ofString "add") = true) := by cases K <;> decide
theorem kind_of {v : Value} {t1 t2 t3 t4 t5 t6 t7 t8 : Tok} (hv : v ∈ [Value.str (Str.ofString "u16") t1, Value.str (Str.ofString "u8") t2, Value.str (Str.ofString "i16") t3, Value.str (Str.ofString "u24") t4, Value.str (Str.ofString "u32") t5, Value.str (Str.ofString "tag") t6, Value.str (Str.ofString "rows") t7, Value.str (Str.ofString "add") t8]) :
    (∃ t, v = .str (Str.ofString "tag") t) ∨ (∃ t, v = .str (Str.ofString "rows") t) ∨ (∃ t, v = .str (Str.ofString "add") t) ∨ ∃ (K : NK) (t : Tok), v = .str K.name t := by
  simp only [List.mem_cons, List.not_mem_nil, or_false] at hv
  rcases hv with rfl | rfl | rfl | rfl | rfl | rfl | rfl | rfl
  · exact .inr (.inr (.inr ⟨.u16, _, rfl⟩))
  · exact .inr (.inr (.inr ⟨.u8, _, rfl⟩))
  · exact .inr (.inr (.inr ⟨.i16, _, rfl⟩))
  · exact .inr (.inr (.inr ⟨.u24, _, rfl⟩))
  · exact .inr (.inr (.inr ⟨.u32, _, rfl⟩))
  · exact .inl ⟨_, rfl⟩
  · exact .inr (.inl ⟨_, rfl⟩)
  · exact .inr (.inr (.inl ⟨_, rfl⟩))
theorem nk_look (K : NK) {a b c d e : Int} {n : NK → Int} {t1 t2 t3 t4 t5 u1 u2 u3 u4 u5 : Tok} (h1 : a = n .u8) (h2 : b = n .u16) (h3 : c = n .i16) (h4 : d = n .u24) (h5 : e = n .u32) :
    ∃ t, valueAt (strPairs [(Value.str (Str.ofString "u8") t1, Value.int a u1), (Value.str (Str.ofString "u16") t2, Value.int b u2), (Value.str (Str.ofString "i16") t3, Value.int c u3), (Value.str (Str.ofString "u24") t4, Value.int d u4), (Value.str (Str.ofString "u32") t5, Value.int e u5)]) K.name = some (.int (n K) t) := by
  subst h1 h2 h3 h4 h5
  cases K
  · exact ⟨_, sp_hit⟩
  · exact ⟨_, sp_miss (by decide) sp_hit⟩
  · exact ⟨_, sp_miss (by decide) (sp_miss (by decide) sp_hit)⟩
  · exact ⟨_, sp_miss (by decide) (sp_miss (by decide) (sp_miss (by decide) sp_hit))⟩
  · exact ⟨_, sp_miss (by decide) (sp_miss (by decide) (sp_miss (by decide) (sp_miss (by decide) sp_hit)))⟩
section
variable {prog : Program} {w : World} {K : Type} [DecidableEq K] {knd : KeyKind prog w K} {A : Around} {E : Value → Shared → Prop} {s : Shared} {h₀ : Heap} {L d : Addr} {news : List (Addr × Obj)} {o : Obj} {kvs : List (K × Value)} {k : K} {key : Value} {n : Int} {Q : Value → Shared → Prop}
theorem kdt_num (N : News h₀ L s.heap news) (hp : (d, o) ∈ news) (hd : o.IsDictOf knd kvs) (hkey : knd.is k key = true) (hl : ∃ t, valueAt kvs k = some (.int n t)) (h : ∀ t, Q (.int n t) { s with toks := s.toks + 1 }) : wpAny (model prog w) A (getItem (.ref d) key) Q E s := by
  obtain ⟨t, ht⟩ := hl
  exact kdt_getItem N hp hd hkey ht (h t)
end
section
variable {prog : Program} {w : World} {A : Around} {E : Value → Shared → Prop} {s : Shared} {h₀ : Heap} {L d : Addr} {news : List (Addr × Obj)} {o : Obj} {kvs : List (Str × Value)} {k : Str} {key : Value} {n : Int} {Q : Value → Shared → Prop}
theorem kdt_getX (N : News h₀ L s.heap news) (hp : (d, o) ∈ news) (hd : o.IsDictOf (PySem.strKind prog w) kvs) (hkey : (PySem.strKind prog w).is k key = true) (hl : valueAt kvs k = some v) (h : Q v { s with toks := s.toks + 1 }) : wpAny (model prog w) A (getItem (.ref d) key) Q E s := kdt_getItem N hp hd hkey hl h
theorem kdt_numX (N : News h₀ L s.heap news) (hp : (d, o) ∈ news) (hd : o.IsDictOf (PySem.strKind prog w) kvs) (hkey : (PySem.strKind prog w).is k key = true) (hl : ∃ t, valueAt kvs k = some (.int n t)) (h : ∀ t, Q (.int n t) { s with toks := s.toks + 1 }) : wpAny (model prog w) A (getItem (.ref d) key) Q E s := kdt_num N hp hd hkey hl h
end
theorem zs26 : True := by w_top off; trivial
end Z28
end Z27
end Z24
end Z21
end Z19
theorem zr12 {p : Program} {w : World} {A : Around} {e : Env} {Q : Flow → Shared → Prop} {E : Value → Shared → Prop} {s : Shared} (h : wpAny (model p w) A (execs [] e) Q E s) : wpAny (model p w) A (execs [] e) Q E s := by
  w_top off
  first | (walk1; fail) | exact h
section Z29
local macro_rules | `(tactic| walk_at $s) => lines s [
  ("eval ListComp", here (dfl (rf "lc_gen !a !v !d !y !d !y ?_")))]
section Z30
local macro_rules | `(tactic| ks_enter) => entC "code_defC"
section Z31
local macro_rules | `(tactic| walk_at $s) => lines s [
  ("ite", here (sq (shw "ite (Eq (BEq.beq (PySem.Str.ofString _) (PySem.Str.ofString _)) true) _ _") (dfl (alt [fillR "ite_neg" "d_", fillR "ite_pos" "d_"]))))]
section Z32
local macro_rules | `(tactic| walk_at $s) => lines s [
  ("ite", here (sq (shw "ite (Eq (BEq.beq (NK.name _) (PySem.Str.ofString _)) true) _ _") (dfl (fillR "ite_neg" "X_")))),
  ("getItem ref str", here (sq (shA "getItem (Value.ref _) (Value.str (NK.name _) _)") (sq (dfl (fillR "kdt_numX" "amakY_" "a")) (ins 1))))]
section Z33
local macro_rules | `(tactic| walk_at $s) => lines s [
  ("getItem ref str", here (sq (shA "getItem (Value.ref _) (Value.str (PySem.Str.ofString _) _)") (dfl (fillR "kdt_getX" "amakP_" "a"))))]
section Z34
local macro_rules | `(tactic| walk_at $s) => lines s [
  ("call ref", cl 283 "draw_u" "aaaaaeHnnqqAARS_" 11)]
section Z35
local macro_rules | `(tactic| walk_at $s) => lines s [
  ("call ref", cl 290 "pick_u" "aaaaaeHnnnbbqNNAARS_" 9)]
section Z36
local macro_rules | `(tactic| walk_at $s) => lines s [
  ("binaryOp Pow int int", here (dfl (alt [rr "pow256_1 ?_", rr "pow256_2 ?_", rr "pow256_3 ?_", rr "pow256_4 ?_"])))]
theorem num_of {v : Value} {l : List Value} (hv : v ∈ l) (h : ∀ x ∈ l, ∃ n t, x = Value.int n t ∧ -32769 ≤ n ∧ n ≤ 4294967296) : ∃ n t, v = Value.int n t ∧ -32769 ≤ n ∧ n ≤ 4294967296 := h v hv
theorem tag_of {v : Value} {l : List Value} (hv : v ∈ l) (h : ∀ y ∈ l, ∃ x t, y = Value.str x t ∧ x ∈ tags) : ∃ x t, v = Value.str x t ∧ x ∈ tags := h v hv
inductive InvL (P C : Addr) (R : Int → Prop) (tl : List (Addr × Obj)) (i : Nat) (ys : List Value) : List (Addr × Obj) → Prop
  | mk {oP oC : Obj} {l : List Int} : Pen oP oC C → IntsAre ys l → (∀ k ∈ l, R k) → l.length = i → InvL P C R tl i ys ((P, oP) :: (C, oC) :: tl)
theorem rowval_of {v : Value} {l : List Value} (hv : v ∈ l) (h : ∀ x ∈ l, ∃ n t, x = Value.int n t ∧ 0 ≤ n ∧ n ≤ 131072) : ∃ n t, v = Value.int n t ∧ 0 ≤ n ∧ n ≤ 131072 := h v hv
set_option maxHeartbeats 8000000 in
theorem field_c {w : World} {mean : ExcName → Option Value} {mg mb : Str → Option Value} {dp un : Nat} {gd : Option (List Code)} {cn : Str} {cs : Scope} {a : Addr} {ccd : Value} {cl : List (Str × Addr)} {outer : List Env} {A₀ : Around} {base h₀ : Heap} {L : Addr} {m : Str → Option Value} {s : Shared} {Q E : Value → Shared → Prop}
    {P C : Addr} {oP oC : Obj} {rest : List (Addr × Obj)}
    (B : Below A₀ base outer h₀) (F : Fr h₀ L s.heap m) (X : (hd.heap_1 w.params).In h₀)
    (N : News h₀ L s.heap ((P, oP) :: (C, oC) :: rest))
    (T : Top vw (looseW vw [Str.ofString "ShapeError"]) mean mg mb h₀) (hk : cs.kind = .function)
    (hpen : Pen oP oC C) (hne : @Ne Nat P C) (hP : ∀ p ∈ rest, p.1 ≠ P) (hC : ∀ p ∈ rest, p.1 ≠ C)
    (hdp : dp < 490) (hun : un < 4500)
    (ret : ∀ f v V e tk own h' tk' oP' oC', Fld.Ok f → WorthIn own v f → (∀ q ∈ own, (@Ne Nat q.1 P) ∧ (@Ne Nat q.1 C) ∧ ∀ p ∈ rest, @Ne Nat p.1 q.1) → Pen oP' oC' C → Fr h₀ L h' m → News h₀ L h' ((V, { cls := .type "tuple", data := .seq #[.str f.kind tk, v] e }) :: (P, oP') :: (C, oC') :: (own ++ rest)) → Q (.ref V) { s with heap := h', toks := tk' }) :
    wpAny (model Challenge.pw_nz0115_01 w) (ktrTop dp un gd cn cs L a ccd cl outer) (call (.ref 295) [.ref P]) Q E s := by
  refine wpAny_call ?_
  k_dflt ks_enter
  refine wpAny_letA ?_; intro ak
  k_steps
  rename _ ∈ _ => hv
  rcases kind_of hv with ⟨_, rfl⟩ | ⟨_, rfl⟩ | ⟨_, rfl⟩ | ⟨K, _, rfl⟩
  · k_steps
    rename _ ∈ _ => hv
    obtain ⟨x, t, rfl, hx⟩ := tag_of hv (by simp only [List.forall_mem_cons, List.not_mem_nil, false_imp_iff, implies_true, and_true]; exact ⟨⟨_, _, rfl, by decide⟩, ⟨_, _, rfl, by decide⟩, ⟨_, _, rfl, by decide⟩, ⟨_, _, rfl, by decide⟩, ⟨_, _, rfl, by decide⟩, ⟨_, _, rfl, by decide⟩⟩)
    exact ret (.tag x) _ _ _ _ [] _ _ _ _ hx (.tag _ _) (fun _ h => nomatch h) (by assumption) (by k_asm) (news_sub (by k_asm) (by ktr_rel))
  · k_steps
    rename (0 : Int) ≤ _ => hr0
    rename (_ : Int) < 5 => hr1
    obtain ⟨c, rfl⟩ := Int.eq_ofNat_of_zero_le hr0
    refine' lcs_range (n := c) (InvL P C (fun k => 0 ≤ k ∧ k ≤ 131072) _) rfl ?kF ?kN ?kr ?ks ?kn (by omega) ?k0 ?kt ?kf
    case kF => k_asm
    case kN => k_asm
    case k0 => exact .mk (l := []) (by assumption) .nil (fun _ h => (nomatch h)) rfl
    case kr => assumption
    case ks => exact small_one (by omega) (by omega) (by omega) (by omega)
    case kn => rw [rangeSize_nat]; omega
    case kt =>
      rintro i t hi ys nw I' oI C' oC' D' m₂ h tk hoC hm F1 N1 off ne yl hJ
      cases hJ with | @mk oP1 oC1 l hpn hS hin hl =>
      have hi4 : i < 4 := by omega
      k_steps
      rename _ ∈ _ => hv
      obtain ⟨n, t, rfl, hn1, hn2⟩ := rowval_of hv (by simp only [List.forall_mem_cons, List.not_mem_nil, false_imp_iff, implies_true, and_true]; (repeat' (refine And.intro ?_ ?_)) <;> exact ⟨_, _, rfl, by first | omega | (rw [Int.fdiv_eq_ediv_of_nonneg _ (by decide)]; omega), by first | omega | (rw [Int.fdiv_eq_ediv_of_nonneg _ (by decide)]; omega)⟩)
      refine' LCg.CompEnd.intro (by k_asm) (by k_asm) _ ?sub ?off trivial (.mk (by with_reducible assumption) (ints_snoc hS) ?kin ?len)
      case sub => ktr_rel
      case off => exact off
      case kin =>
        intro z hz
        rcases List.mem_append.mp hz with hz | hz
        · exact hin z hz
        · obtain rfl := List.mem_singleton.mp hz
          exact ⟨hn1, hn2⟩
      case len => rw [List.length_append, hl]; rfl
    case kf =>
      rintro R' h tk ys nw F1 N1 o1 yl hJ
      cases hJ with | @mk oP1 oC1 l hpn hS hin hl =>
      simp only [LCg.Off1] at o1
      k_steps
      exact ret (.rows l) _ _ _ _ [(R', lcL ys)] _ _ _ _ ⟨by omega, hin⟩ (.rows (.head _) hS) (fun q hq => by
        obtain rfl := List.mem_singleton.mp hq
        exact ⟨Ne.symm o1.1, Ne.symm o1.2.1, off1_all o1.2.2.2⟩) hpn (by k_asm) (news_sub (by k_asm) (by ktr_rel))
  · k_steps
    rename (0 : Int) ≤ _ => hr0
    rename (_ : Int) < 5 => hr1
    obtain ⟨c, rfl⟩ := Int.eq_ofNat_of_zero_le hr0
    refine' lcs_range (n := c) (InvL P C (fun k => 0 ≤ k ∧ k < 256) _) rfl ?kF ?kN ?kr ?ks ?kn (by omega) ?k0 ?kt ?kf
    case kF => k_asm
    case kN => k_asm
    case k0 => exact .mk (l := []) (by assumption) .nil (fun _ h => (nomatch h)) rfl
    case kr => assumption
    case ks => exact small_one (by omega) (by omega) (by omega) (by omega)
    case kn => rw [rangeSize_nat]; omega
    case kt =>
      rintro i t hi ys nw I' oI C' oC' D' m₂ h tk hoC hm F1 N1 off ne yl hJ
      cases hJ with | @mk oP1 oC1 l hpn hS hin hl =>
      k_steps
      refine' LCg.CompEnd.intro (by k_asm) (by k_asm) _ ?sub ?off trivial (.mk (by with_reducible assumption) (ints_snoc hS) ?kin ?len)
      case sub => ktr_rel
      case off => exact off
      case kin =>
        intro z hz
        rcases List.mem_append.mp hz with hz | hz
        · exact hin z hz
        · obtain rfl := List.mem_singleton.mp hz
          constructor <;> assumption
      case len => rw [List.length_append, hl]; rfl
    case kf =>
      rintro R' h tk ys nw F1 N1 o1 yl hJ
      cases hJ with | @mk oP1 oC1 l hpn hS hin hl =>
      simp only [LCg.Off1] at o1
      k_steps
      exact ret (.add (byteArr l)) _ _ _ _ [] _ _ _ _ (show (byteArr l).size ≤ 4 by rw [byteArr_size]; omega) (.add _ _) (fun _ h => nomatch h) hpn (by k_asm) (news_sub (by k_asm) (by ktr_rel))
  · have htop := K.top_pos
    have htop2 := K.top_le
    k_steps
    all_goals
      rename _ ∈ _ => hv
      obtain ⟨n, t, rfl, hn1, hn2⟩ := num_of hv (by simp only [List.forall_mem_cons, List.not_mem_nil, false_imp_iff, implies_true, and_true]; (repeat' (refine And.intro ?_ ?_)) <;> exact ⟨_, _, rfl, by omega, by omega⟩)
      exact ret (.num K n) _ _ _ _ [] _ _ _ _ ⟨hn1, hn2⟩ (.num _ _ _) (fun _ h => nomatch h) (by assumption) (by k_asm) (news_sub (by k_asm) (by ktr_rel))
theorem zs27 : True := by w_top off; trivial
end Z36
end Z35
end Z34
theorem zr13 {p : Program} {w : World} {A : Around} {e : Env} {Q : Flow → Shared → Prop} {E : Value → Shared → Prop} {s : Shared} (h : wpAny (model p w) A (execs [] e) Q E s) : wpAny (model p w) A (execs [] e) Q E s := by
  w_top off
  first | (walk1; fail) | exact h
section Z37
local macro_rules | `(tactic| walk_at $s) => lines s [
  ("exec Assign cons ListComp", here (dfl (rf "lc_asg !a !y !w !v !d !y !d !y !y !y ?_"))),
  ("pyIter str", here stp)]
section Z38
local macro_rules | `(tactic| walk_at $s) => lines s [
  ("exec For Name Name cons nil", forT),
  ("pyIter ref", here (sq (shI "LoopAtV _ _ _ _ _ _ _ _ _ _ _") stp))]
section Z39
local macro_rules | `(tactic| walk_at $s) => lines s [
  ("binaryOp Add ref ref", here (sq (shA "binaryOp _ (Value.ref _) (Value.ref _)") (sq (dfl (fill "m_add" "aammz_")) (sq (ins 5) swp))))]
section Z40
local macro_rules | `(tactic| walk_at $s) => lines s [
  ("binaryOp Pow int int", here (dfl (fill "pow_int_small" "ood_")))]
def NK.least : NK → Int
  | .i16 => -32768 | _ => 0
def NK.most : NK → Int
  | .u8 => 255 | .u16 => 65535 | .i16 => 32767 | .u24 => 16777215 | .u32 => 4294967295
def rowsL (ns : List Int) : List Int := ns.flatMap fun k => [k / 256, k % 256]
def Fld.enc : Fld → Option (Array UInt8)
  | .tag x => if x.length = 4 ∧ ∀ c ∈ x.cps.toList, c < 256 then some (byteArr (KStt.codes x)) else none
  | .rows ns => if ∀ k ∈ ns, k < 65536 then some (byteArr (rowsL ns)) else none
  | .add b => some b
  | .num K n => if K.least ≤ n ∧ n ≤ K.most then some (byteArr (beP n K.size K.size)) else none
inductive InvC (mm : Str → Option Value) (tl : List (Addr × Obj)) (R : Nat → List Int) (i : Nat) (m₁ : Str → Option Value) : List (Addr × Obj) → Prop
  | mk {Cl : Addr} {zs : List Value} {le2 : Nat} : m₁ (Str.ofString "codes") = some (.ref Cl) → (∀ z, z ≠ Str.ofString "codes" → z ≠ Str.ofString "number" → m₁ z = mm z) → IntsAre zs (R i) → InvC mm tl R i m₁ ((Cl, listOf zs.toArray le2) :: tl)
def EncIs (f : Fld) (r : Value) : Prop := match f.enc with | none => r = .none | some b => ∃ t, r = .bytes b t
theorem encIs_none {f : Fld} (h : f.enc = none) : EncIs f .none := by unfold EncIs; rw [h]
theorem encIs_some {f : Fld} {b : Array UInt8} {t : Tok} (h : f.enc = some b) : EncIs f (.bytes b t) := by unfold EncIs; rw [h]; exact ⟨_, rfl⟩
abbrev tupF (kind : Str) (tk : Tok) (v : Value) (e : Nat) : Obj := { cls := .type "tuple", data := .seq #[.str kind tk, v] e }
theorem nk_i16 {K : NK} (h : (K.name == Str.ofString "i16") = true) : K.least = -32768 ∧ K.most = 32767 := by
  cases K <;> first | exact ⟨rfl, rfl⟩ | exact absurd h (by decide)
theorem nk_not16 {K : NK} (h : (K.name == Str.ofString "i16") = false) : K.least = 0 ∧ K.most = 256 ^ ((K.size : Int)).toNat - 1 := by
  cases K <;> first | exact ⟨rfl, rfl⟩ | exact absurd h (by decide)
theorem enc_num {K : NK} {n : Int} (h1 : K.least ≤ n) (h2 : n ≤ K.most) : (Fld.num K n).enc = some (byteArr (beP n K.size K.size)) := if_pos ⟨h1, h2⟩
theorem enc_numN {K : NK} {n : Int} (h : ¬ (K.least ≤ n ∧ n ≤ K.most)) : (Fld.num K n).enc = none := if_neg h
theorem rowsL_len (ns : List Int) : (rowsL ns).length = 2 * ns.length := by
  induction ns with
  | nil => rfl
  | cons k r ih => show (k / 256 :: k % 256 :: rowsL r).length = _; simp only [List.length_cons, ih]; omega
theorem rowsL_snoc {ns : List Int} {i : Nat} {k : Int} (h : ns[i]? = some k) : rowsL (ns.take (i + 1)) = rowsL (ns.take i) ++ [k / 256, k % 256] := by
  unfold rowsL
  rw [List.take_add_one, h, List.flatMap_append]
  rfl
theorem rowsL_mem {ns : List Int} {a : Int} (h : a ∈ rowsL ns) : ∃ k ∈ ns, a = k / 256 ∨ a = k % 256 := by
  obtain ⟨k, hk, ha⟩ := List.mem_flatMap.mp h
  exact ⟨k, hk, by simpa using ha⟩
theorem rowsL_of {ns : List Int} {k : Int} (h : k ∈ ns) : k / 256 ∈ rowsL ns := List.mem_flatMap.mpr ⟨k, h, .head _⟩
theorem ints_pair {zs : List Value} {l : List Int} {a b a' b' : Int} {t u : Tok} (h : IntsAre zs l) (ha : a = a') (hb : b = b') : IntsAre (zs ++ [.int a t, .int b u]) (l ++ [a', b']) := by
  subst ha hb
  have := ints_snoc (t := u) (k := b) (ints_snoc (t := t) (k := a) h)
  rwa [List.append_assoc, List.append_assoc] at this
theorem tags_len : ∀ x ∈ tags, x.length ≤ 10 := by decide +kernel
theorem tags_lo : ∀ x ∈ tags, ∀ c ∈ x.cps.toList, c < 1114112 := by decide +kernel
set_option maxHeartbeats 8000000 in
theorem octets_c {w : World} {mean : ExcName → Option Value} {mg mb : Str → Option Value} {dp un : Nat} {gd : Option (List Code)} {cn : Str} {cs : Scope} {a : Addr} {ccd : Value} {cl : List (Str × Addr)} {outer : List Env} {A₀ : Around} {base h₀ : Heap} {L : Addr} {m : Str → Option Value} {s : Shared} {Q E : Value → Shared → Prop}
    {V : Addr} {f : Fld} {v : Value} {tk : Tok} {e : Nat} {news : List (Addr × Obj)}
    (B : Below A₀ base outer h₀) (F : Fr h₀ L s.heap m) (X : (hd.heap_1 w.params).In h₀)
    (N : News h₀ L s.heap news)
    (T : Top vw (looseW vw [Str.ofString "ShapeError"]) mean mg mb h₀) (hk : cs.kind = .function)
    (hV : (V, tupF f.kind tk v e) ∈ news) (hW : WorthIn news v f) (hok : f.Ok)
    (hdp : dp < 490) (hun : un < 4500)
    (ret : ∀ r h' tk', EncIs f r → Fr h₀ L h' m → News h₀ L h' news → Q r { s with heap := h', toks := tk' }) :
    wpAny (model Challenge.pw_nz0115_01 w) (ktrTop dp un gd cn cs L a ccd cl outer) (call (.ref 300) [.ref V]) Q E s := by
  cases hW with
  | tag x t =>
    have hV' : (V, tupF (Str.ofString "tag") tk (.str x t) e) ∈ news := hV
    have N2 := news_sub N (sub_cons hV' sub_self)
    refine wpAny_call ?_
    k_dflt ks_enter
    refine wpAny_letA ?_; intro ak
    k_steps
    have hx10 := tags_len x hok
    refine' lcs_strA (news := ?NN) (fun i ys nw => nw = ?NN ∧ IntsAre ys ((KStt.codes x).take i)) rfl ?kF ?kN ?kz ?k0 ?kt ?kf
    case kF => k_asm
    case kN => k_asm
    case kz => exact Nat.le_trans hx10 (by decide)
    case k0 => exact ⟨rfl, .nil⟩
    case kt =>
      rintro i c t hi ys nw I' oI C oC D' m₂ h tk hoC hm F1 N1 off ne yl ⟨rfl, hS⟩
      k_steps
      exact LCg.CompEnd.intro (by k_asm) N1 _ sub_self off trivial ⟨rfl, codes_snoc hS hi⟩
    case kf =>
      rintro R' h tk ys nw F1 N1 o1 yl ⟨rfl, hS⟩
      rw [codes_all] at hS
      have hlen := KStt.codes_length x
      have hyl := hS.length
      k_steps
      · rename ∀ a ∈ KStt.codes x, a ≤ _ => hb
        rename _ < (256 : Int) => hb2
        have hlo : ∀ c ∈ x.cps.toList, c < 256 := fun c hc => by
          have := hb c (List.mem_map.mpr ⟨c, hc, rfl⟩)
          omega
        have hin := codes_in hlo x.cps.size
        rw [codes_all] at hin
        k_steps
        refine ret _ _ _ ?_ (by k_asm) (news_sub (by k_asm) (by ktr_rel))
        exact encIs_some (if_pos ⟨by omega, hlo⟩)
      · rename _ ∈ KStt.codes x => ha
        refine ret _ _ _ ?_ (by k_asm) (news_sub (by k_asm) (by ktr_rel))
        refine encIs_none (if_neg ?_)
        rintro ⟨_, h2⟩
        obtain ⟨c, hc, hce⟩ := List.mem_map.mp ha
        have := h2 c hc
        omega
      · refine ret _ _ _ ?_ (by k_asm) (news_sub (by k_asm) (by ktr_rel))
        refine encIs_none (if_neg ?_)
        rintro ⟨h1, _⟩
        omega
  | @rows R ys ns le hR hi =>
    have hV' : (V, tupF (Str.ofString "rows") tk (.ref R) e) ∈ news := hV
    have N2 := news_sub N (sub_cons hV' (sub_cons hR sub_self))
    refine wpAny_call ?_
    k_dflt ks_enter
    refine wpAny_letA ?_; intro ak
    k_steps
    unfold Stop
    obtain ⟨hn4, hkb⟩ : ns.length ≤ 4 ∧ ∀ k ∈ ns, 0 ≤ k ∧ k ≤ 131072 := hok
    refine' loop_list (items := ys) (le := le) (InvC _ _ (fun i => rowsL (ns.take i))) rfl rfl ?kF ?kN ?km ?k0 ?kj ?kt ?kd
    case kF => k_asm
    case kN => k_asm
    case k0 =>
      refine' InvC.mk (zs := []) ?z1 ?z2 ?z3
      case z3 => exact .nil
      case z1 => exact if_pos rfl
      case z2 => exact fun z _ _ => rfl
    case km => k_mem
    case kj =>
      intro i m₁ nw hJ
      cases hJ with | mk _ _ _ => k_mem
    case kt =>
      intro i v m₁ nw I oI h tk hv hJ hI F1 N1
      cases hJ with | @mk Cl zs le2 hc ho hS =>
      obtain ⟨k, t, hk', rfl, hmem⟩ := ints_at' hi hv
      obtain ⟨hk1, hk2⟩ := hkb k hmem
      rw [two_form hc ho] at F1
      have hzl := hS.length
      rw [rowsL_len, List.length_take] at hzl
      k_steps
      refine' TurnEnd.next _ (by k_asm) (by k_asm) ?ks ?ko (.mk (if_pos rfl) (fun z h1 h2 => by simp [h1, h2]) ?kj2)
      case ks => ktr_rel
      case ko =>
        intro p hp
        rcases List.mem_cons.mp hp with rfl | hp
        · k_ne
        · exact hI p (.tail _ hp)
      case kj2 =>
        rw [rowsL_snoc hk']
        exact ints_pair hS (Int.fdiv_eq_ediv_of_nonneg _ (by decide)) (Int.fmod_eq_emod_of_nonneg _ (by decide))
    case kd =>
      intro m₁ nw h tk hJ F1 N1
      cases hJ with | @mk Cl zs le2 hc ho hS =>
      rw [two_form hc ho] at F1
      rw [hi.length, List.take_length] at hS
      have hzl := hS.length
      by_cases hns : ns = []
      · subst hns
        have hin : KBa.In (rowsL []) := fun _ h => nomatch h
        have hrl : (rowsL []).length = 0 := rfl
        k_steps
        exact ret _ _ _ (encIs_some (f := .rows []) rfl) (by k_asm) (news_sub (by k_asm) (by ktr_rel))
      · have hrl : 0 < (rowsL ns).length := by
          rw [rowsL_len]
          have := List.length_pos_iff.mpr hns
          omega
        k_steps
        · rename decide _ = true => hd
          have := of_decide_eq_true hd
          rw [this] at hrl
          exact absurd hrl (by decide)
        · rename ∀ a ∈ rowsL ns, a ≤ _ => hb
          rename _ < (256 : Int) => hb2
          have hin : KBa.In (rowsL ns) := fun a ha => by
            have h1 := hb a ha
            obtain ⟨k, hk, hka⟩ := rowsL_mem ha
            have h2 := (hkb k hk).1
            omega
          have hr8 := rowsL_len ns
          k_steps
          refine ret _ _ _ (encIs_some (if_pos fun k hk => ?_)) (by k_asm) (news_sub (by k_asm) (by ktr_rel))
          have h1 := hb _ (rowsL_of hk)
          omega
        · rename _ ∈ rowsL ns => ha
          refine ret _ _ _ (encIs_none (if_neg fun h => ?_)) (by k_asm) (news_sub (by k_asm) (by ktr_rel))
          obtain ⟨k, hk, hka⟩ := rowsL_mem ha
          have h2 := h k hk
          have h3 := (hkb k hk).1
          omega
  | add b t =>
    have hV' : (V, tupF (Str.ofString "add") tk (.bytes b t) e) ∈ news := hV
    have N2 := news_sub N (sub_cons hV' sub_self)
    refine wpAny_call ?_
    k_dflt ks_enter
    refine wpAny_letA ?_; intro ak
    k_steps
    exact ret _ _ _ (encIs_some rfl) (by k_asm) (news_sub (by k_asm) (by ktr_rel))
  | num K n t =>
    have hV' : (V, tupF K.name tk (.int n t) e) ∈ news := hV
    have N2 := news_sub N (sub_cons hV' sub_self)
    refine wpAny_call ?_
    k_dflt ks_enter
    refine wpAny_letA ?_; intro ak
    have hs1 := K.size_pos
    have hs2 := K.size_le
    k_steps
    any_goals
      have hK := by first | exact nk_i16 (by assumption) | exact nk_not16 (by assumption)
      obtain ⟨hK1, hK2⟩ := hK
    any_goals exact ret _ _ _ (encIs_none (enc_numN (by rw [hK1, hK2]; omega))) (by k_asm) (news_sub (by k_asm) (by ktr_rel))
    · refine' lcs_range (news := ?NN1) (n := K.size) (fun i ys nw => nw = ?NN1 ∧ IntsAre ys (beP n K.size i)) rfl ?kF ?kN ?kr ?ks ?kn (by omega) ?k0 ?kt ?kf
      case kF => k_asm
      case kN => k_asm
      case kr => assumption
      case ks => exact small_one (by omega) (by omega) (by omega) (by omega)
      case kn => rw [rangeSize_nat]; omega
      case k0 => exact ⟨rfl, .nil⟩
      case kt =>
        rintro i t hi ys nw I' oI C oC D' m₂ h tk hoC hm F1 N1 off ne yl ⟨rfl, hS⟩
        k_steps
        refine LCg.CompEnd.intro (by k_asm) N1 _ sub_self off trivial ⟨rfl, ?_⟩
        rw [beP_succ]
        exact ints_snoc' hS (digit_f hi rfl)
      case kf =>
        rintro R' h tk ys nw F1 N1 o1 yl ⟨rfl, hS⟩
        have hin := beP_in n K.size K.size
        have hlen := beP_len n K.size K.size
        k_steps
        exact ret _ _ _ (encIs_some (enc_num (by omega) (by omega))) (by k_asm) (news_sub (by k_asm) (by ktr_rel))
    · refine' lcs_range (news := ?NN2) (n := K.size) (fun i ys nw => nw = ?NN2 ∧ IntsAre ys (beP n K.size i)) rfl ?kF ?kN ?kr ?ks ?kn (by omega) ?k0 ?kt ?kf
      case kF => k_asm
      case kN => k_asm
      case kr => assumption
      case ks => exact small_one (by omega) (by omega) (by omega) (by omega)
      case kn => rw [rangeSize_nat]; omega
      case k0 => exact ⟨rfl, .nil⟩
      case kt =>
        rintro i t hi ys nw I' oI C oC D' m₂ h tk hoC hm F1 N1 off ne yl ⟨rfl, hS⟩
        k_steps
        refine LCg.CompEnd.intro (by k_asm) N1 _ sub_self off trivial ⟨rfl, ?_⟩
        rw [beP_succ]
        exact ints_snoc' hS (digit_f hi rfl)
      case kf =>
        rintro R' h tk ys nw F1 N1 o1 yl ⟨rfl, hS⟩
        have hin := beP_in n K.size K.size
        have hlen := beP_len n K.size K.size
        k_steps
        exact ret _ _ _ (encIs_some (enc_num (by omega) (by omega))) (by k_asm) (news_sub (by k_asm) (by ktr_rel))
theorem zs28 : True := by w_top off; trivial
theorem enc_okU {K : NK} {n : Int} (hK : K.least = 0) (h0 : 0 ≤ n) (h1 : n < 256 ^ K.size) : (Fld.num K n).enc = some (byteArr (beD n K.size)) := by
  refine if_pos ⟨by rw [hK]; exact h0, ?_⟩
  cases K <;> first | exact absurd hK (by decide) | (have h2 : n < _ := h1; simp only [NK.size] at h2; simp only [NK.most]; omega)
theorem enc_noU {K : NK} {n : Int} (hK : K.least = 0) (h : n < 0 ∨ 256 ^ K.size ≤ n) : (Fld.num K n).enc = none := by
  refine if_neg ?_
  rw [hK]
  cases K <;> first | exact absurd hK (by decide) | (simp only [NK.size] at h; simp only [NK.most]; omega)
theorem bep16 (n : Int) : beP n 2 2 = beP (n % 65536) 2 2 := by
  show [n / 256 ^ 1 % 256, n / 256 ^ 0 % 256] = [n % 65536 / 256 ^ 1 % 256, n % 65536 / 256 ^ 0 % 256]
  simp only [Int.pow_succ, Int.pow_zero, Int.one_mul]
  congr 1
  · omega
  · congr 1
    rw [Int.ediv_one, Int.ediv_one]
    exact (Int.emod_emod_of_dvd n (by decide)).symm
theorem enc_ok16 {n : Int} (h0 : -32768 ≤ n) (h1 : n ≤ 32767) : (Fld.num .i16 n).enc = some (byteArr (beD (n % 65536) 2)) := by
  rw [show beD (n % 65536) 2 = beP n 2 2 from (bep16 n).symm]
  exact if_pos ⟨h0, h1⟩
theorem enc_no16 {n : Int} (h : n < -32768 ∨ 32767 < n) : (Fld.num .i16 n).enc = none := by
  refine if_neg ?_
  simp only [NK.least, NK.most]; omega
theorem byteArr_append (a b : List Int) : byteArr (a ++ b) = byteArr a ++ byteArr b := by simp [byteArr]
theorem rows_eq {ns : List Int} (h : ∀ k ∈ ns, 0 ≤ k ∧ k < 65536) : (rowsOct ns).foldl (· ++ ·) #[] = byteArr (rowsL ns) := by
  have go : ∀ (l : List Int) (a : Array UInt8), (∀ k ∈ l, 0 ≤ k ∧ k < 65536) → (rowsOct l).foldl (· ++ ·) a = a ++ byteArr (rowsL l) := by
    intro l
    induction l with
    | nil => intro a _; simp [rowsOct, rowsL, byteArr]
    | cons k r ih =>
      intro a h
      have hk := h k (.head _)
      show (rowsOct r).foldl (· ++ ·) (a ++ byteArr (beD k 2)) = _
      rw [ih _ fun x hx => h x (.tail _ hx)]
      have e : beD k 2 = [k / 256, k % 256] := by
        show [k / 256 ^ 1 % 256, k / 256 ^ 0 % 256] = _
        simp only [Int.pow_succ, Int.pow_zero, Int.one_mul]
        congr 1
        · omega
        · congr 1; rw [Int.ediv_one]
      rw [e, Array.append_assoc, ← byteArr_append]
      rfl
  rw [go ns #[] h]; simp
theorem enc_okR {ns : List Int} (h : ∀ k ∈ ns, 0 ≤ k ∧ k < 65536) : (Fld.rows ns).enc = some ((rowsOct ns).foldl (· ++ ·) #[]) := by
  rw [rows_eq h]
  exact if_pos fun k hk => (h k hk).2
theorem enc_noR {ns : List Int} (h0 : ∀ k ∈ ns, 0 ≤ k ∧ k ≤ 131072) (h : ∃ k ∈ ns, k < 0 ∨ 65536 ≤ k) : (Fld.rows ns).enc = none := by
  refine if_neg fun q => ?_
  obtain ⟨k, hk, hx⟩ := h
  have := q k hk
  have := h0 k hk
  omega
theorem put_ok {b0 e : Array UInt8} {f : Fld} (h : f.enc = some e) : f.enc.isNone = false ∧ b0 ++ f.enc.getD #[] = b0 ++ e := by rw [h]; exact ⟨rfl, rfl⟩
theorem put_no {b0 : Array UInt8} {f : Fld} (h : f.enc = none) : f.enc.isNone = true ∧ b0 ++ f.enc.getD #[] = b0 := by rw [h]; exact ⟨rfl, Array.append_empty⟩
theorem zs29 : True := by w_top off; trivial
theorem enc_get {α : Type} {c : Prop} [Decidable c] {y x : α} (h : (if c then some y else none) = some x) : c ∧ y = x := by
  by_cases hc : c
  · rw [if_pos hc] at h; exact ⟨hc, Option.some.inj h⟩
  · rw [if_neg hc] at h; cases h
theorem tag_back {y : Str} {x : Array UInt8} (h : (Fld.tag y).enc = some x) : x.size = 4 ∧ KStt.txt (KBw.bInts x) = y := by
  obtain ⟨⟨h4, lo⟩, rfl⟩ := enc_get h
  have hin : KBa.In (KStt.codes y) := by have := codes_in lo y.cps.size; rwa [codes_all] at this
  have e := KBa.ints_make hin
  refine ⟨?_, ?_⟩
  · rw [← KBw.ints_length, e, KStt.codes_length]; exact h4
  · rw [e, KStt.txt_codes]
theorem emod_uniq {m k q r : Int} (e : m = k * q + r) (h0 : 0 ≤ r) (h1 : r < k) : m % k = r := by
  rw [e, Int.add_comm, Int.add_mul_emod_self_left, Int.emod_eq_of_lt h0 h1]
theorem beI_beP {n : Int} {c : Nat} : ∀ i, i ≤ c → beI (beP n c i) = n / 256 ^ (c - i) % 256 ^ i := by
  intro i
  induction i with
  | zero => intro _; simp [beP, beI, Int.emod_one]
  | succ i ih =>
    intro hi
    rw [beP_succ, beI_snoc, ih (by omega), show c - i = (c - 1 - i) + 1 by omega, show c - (i + 1) = c - 1 - i by omega]
    have hp : (256 : Int) ^ ((c - 1 - i) + 1) = 256 ^ (c - 1 - i) * 256 := Int.pow_succ _ _
    have hq : (256 : Int) ^ (i + 1) = 256 * 256 ^ i := by rw [Int.pow_succ, Int.mul_comm]
    rw [hp, hq, ← Int.ediv_ediv_of_nonneg (Int.pow_nonneg (by decide))]
    generalize n / 256 ^ (c - 1 - i) = m
    have hb : (0 : Int) < 256 ^ i := Int.pow_pos (by decide)
    have e1 := Int.mul_ediv_add_emod m 256
    have e2 := Int.mul_ediv_add_emod (m / 256) (256 ^ i)
    have r1 := Int.emod_nonneg m (show (256 : Int) ≠ 0 by decide)
    have r2 := Int.emod_lt_of_pos m (show (0 : Int) < 256 by decide)
    have s1 := Int.emod_nonneg (m / 256) (show (256 ^ i : Int) ≠ 0 by omega)
    have s2 := Int.emod_lt_of_pos (m / 256) hb
    symm
    refine emod_uniq (q := m / 256 / 256 ^ i) (by rw [Int.mul_assoc, ← Int.add_assoc, ← Int.mul_add, e2]; exact e1.symm) (by omega) ?_
    have := Int.mul_le_mul_of_nonneg_left (show m / 256 % 256 ^ i ≤ 256 ^ i - 1 by omega) (show (0 : Int) ≤ 256 by decide)
    rw [Int.mul_sub] at this
    omega
theorem num_back {K : NK} {n : Int} {x : Array UInt8} (h : (Fld.num K n).enc = some x) : x.size = K.size ∧ beI (KBw.bInts x) = n % 256 ^ K.size ∧ K.least ≤ n ∧ n ≤ K.most := by
  obtain ⟨⟨h1, h2⟩, rfl⟩ := enc_get h
  have e := KBa.ints_make (beP_in n K.size K.size)
  refine ⟨?_, ?_, h1, h2⟩
  · rw [← KBw.ints_length, e, beP_len]
  · rw [e, beI_beP _ (Nat.le_refl _), Nat.sub_self]
    show n / 1 % _ = _
    rw [Int.ediv_one]
theorem numU_back {K : NK} {n : Int} {x : Array UInt8} (h : (Fld.num K n).enc = some x) (hK : K ≠ .i16) : x.size = K.size ∧ beI (KBw.bInts x) = n := by
  obtain ⟨hs, he, h1, h2⟩ := num_back h
  refine ⟨hs, he.trans ?_⟩
  cases K
  case i16 => exact absurd rfl hK
  all_goals exact Int.emod_eq_of_lt h1 (Int.lt_of_le_of_lt h2 (by decide))
theorem num16_back {n : Int} {x : Array UInt8} (h : (Fld.num .i16 n).enc = some x) : x.size = 2 ∧ sgn (beI (KBw.bInts x)) = n := by
  obtain ⟨hs, he, h1, h2⟩ := num_back h
  refine ⟨hs, ?_⟩
  have h1' : -32768 ≤ n := h1
  have h2' : n ≤ 32767 := h2
  have he' : beI (KBw.bInts x) = n % 65536 := he
  rw [he']
  unfold sgn
  split <;> omega
theorem rowsI_sub {ks l : List Int} {p n : Nat} (h : (ks.drop p).take (2 * n) = l) : rowsI ks p n = rowsI l 0 n := by
  subst h
  refine List.map_congr_left fun j hj => ?_
  have hj := List.mem_range.mp hj
  rw [Nat.zero_add, List.drop_take, List.take_take, List.drop_drop, Nat.min_eq_left (by omega)]
theorem rowsI_cons2 (a b : Int) (l : List Int) (n : Nat) : rowsI (a :: b :: l) 0 (n + 1) = beI [a, b] :: rowsI l 0 n := by
  unfold rowsI
  rw [List.range_succ_eq_map, List.map_cons, List.map_map]
  refine congr (congrArg _ rfl) (List.map_congr_left fun j _ => ?_)
  show beI (((a :: b :: l).drop (0 + 2 * (j + 1))).take 2) = _
  rw [show 0 + 2 * (j + 1) = (0 + 2 * j) + 1 + 1 by omega, List.drop_succ_cons, List.drop_succ_cons]
theorem rowsI_rowsL {ns : List Int} : rowsI (rowsL ns) 0 ns.length = ns := by
  induction ns with
  | nil => rfl
  | cons k r ih =>
    show rowsI (k / 256 :: k % 256 :: rowsL r) 0 (r.length + 1) = _
    rw [rowsI_cons2, ih]
    refine congrArg (· :: r) ?_
    show 256 * (256 * 0 + k / 256) + k % 256 = k
    omega
theorem rowsL_len2 (ns : List Int) : (rowsL ns).length = 2 * ns.length := by
  induction ns with
  | nil => rfl
  | cons k r ih => show (rowsL r).length + 1 + 1 = 2 * (r.length + 1); omega
theorem rows_back {ns : List Int} {x : Array UInt8} (h : (Fld.rows ns).enc = some x) (h0 : ∀ k ∈ ns, 0 ≤ k) : x.size = 2 * ns.length ∧ rowsI (KBw.bInts x) 0 ns.length = ns := by
  obtain ⟨h1, rfl⟩ := enc_get h
  have hin : KBa.In (rowsL ns) := by
    intro c hc
    obtain ⟨k, hk, hc⟩ := List.mem_flatMap.mp hc
    have a := h0 k hk
    have b := h1 k hk
    simp only [List.mem_cons, List.not_mem_nil, or_false] at hc
    rcases hc with rfl | rfl <;> omega
  have e := KBa.ints_make hin
  refine ⟨?_, ?_⟩
  · rw [← KBw.ints_length, e, rowsL_len2]
  · rw [e, rowsI_rowsL]
theorem zs30 : True := by w_top off; trivial
end Z40
end Z39
end Z38
end Z37
theorem zr14 {p : Program} {w : World} {A : Around} {e : Env} {Q : Flow → Shared → Prop} {E : Value → Shared → Prop} {s : Shared} (h : wpAny (model p w) A (execs [] e) Q E s) : wpAny (model p w) A (execs [] e) Q E s := by
  w_top off
  first | (walk1; fail) | exact h
section Z41
local macro_rules | `(tactic| ktr_enter) => entC "codeA_defSC"
local macro_rules | `(tactic| walk_at $s) => lines s [
  ("exec Try", here (sq (shA "exec (Stmt.Try _ (List.cons _ _) _ List.nil _) (envOfC _ _ _ _ _)") (sq (dfl (rf "wpAny_Try_except ?_")) letT))),
  ("subscriptTail", stA "subscriptTail _ _ (Value.ref _) (Value.str (NK.name _) _)"),
  ("call ref", alt [stA (ref 165), stA "call (Value.ref _) List.nil _"]),
  ("bind", here (sq (shA "Bind.bind (bindName (envOfC _ _ _ _ _) _ Value.none) _") (dfl (sq (rf "name_goesX !h !h ?_") (ins 4)))))]
local macro_rules | `(tactic| walk_at $s) => lines s [
  ("call ref", cl2 127 "u8_u" "aaaaaennhAhhRS__" 8 10)]
def NK.fnI : NK → Addr
  | .u8 => 127 | .u16 => 134 | .i16 => 141 | .u24 => 148 | .u32 => 155
theorem num_k {w : World} {mean : ExcName → Option Value} {mg mb : Str → Option Value} {dp un : Nat} {gd : Option (List Code)} {cn : Str} {cs : Scope} {a : Addr} {ccd : Value} {cl : List (Str × Addr)} {outer : List Env} {A₀ : Around} {base h₀ : Heap} {L : Addr} {m : Str → Option Value} {s : Shared} {R : Result → Shared → Prop}
    {b x : Array UInt8} {p : Int} {tb tp k1 k2 : Tok} {news : List (Addr × Obj)} {ks : List Int} {I D : Addr} {h1 h2 : Int} {K : NK} {n : Int}
    (B : Below A₀ base outer h₀) (F : Fr h₀ L s.heap m) (X : (hd.heap_1 w.params).In h₀) (N : News h₀ L s.heap ((I, instObj 175 D) :: (D, inD h1 k1 b tb h2 k2 p tp) :: news))
    (T : Top vw (looseW vw [Str.ofString "ShapeError"]) mean mg mb h₀) (hk : cs.kind = .function)
    (hID : @Ne Nat I D) (hD : ∀ p ∈ news, p.1 ≠ D) (hx : (Fld.num K n).enc = some x)
    (hbi : KBw.bInts b = ks) (hb : b.size ≤ 1000) (hp : 0 ≤ p) (hsub : p + x.size ≤ b.size → (ks.drop p.toNat).take x.size = KBw.bInts x) (hdp : dp < 496) (hun : un < 4600)
    (ok : p + x.size ≤ b.size → ∀ t tp' h' tk', Fr h₀ L h' m → News h₀ L h' ((I, instObj 175 D) :: (D, inD h1 k1 b tb h2 k2 (p + x.size) tp') :: news) → R (.ok (.ret (.int n t))) { s with heap := h', toks := tk' })
    (rai : (b.size : Int) < p + x.size → ∀ e De o g h' tk', ExcAt p o → Flies base g (envX cn cs L a ccd cl :: outer) e De ((De, o) :: (I, instObj 175 D) :: (D, inD h1 k1 b tb h2 k2 p tp) :: news) h' → Fr h₀ L g m → g.UpToSlots h' → R (.error (.ref e)) { s with heap := h', toks := tk' }) :
    codeAny (model Challenge.pw_nz0115_01 w) (ktrTop dp un gd cn cs L a ccd cl outer) (.call (.ref K.fnI) ⟨[.ref I], []⟩) R s := by
  cases K
  case i16 =>
    obtain ⟨hxs, hxn⟩ := num16_back hx
    rw [hxs] at hsub ok rai
    refine i16_k B F X N T hk hID hD hbi hb hdp hun (fun _ q t tp' h' tk' F' N' => ?_) fun q => rai (by omega)
    have e := hsub q
    rw [e, hxn]
    exact ok q t tp' h' tk' F' N'
  all_goals
    obtain ⟨hxs, hxn⟩ := numU_back hx (by intro q; cases q)
    rw [hxs] at hsub ok rai
  · refine u8_k B F X N T hk hID hD hbi hb hdp hun (fun _ q t tp' h' tk' F' N' => ?_) fun q => rai (by show _ < p + ((1 : Nat) : Int); omega)
    have e := hsub q
    rw [show NK.size .u8 = 1 from rfl] at e
    rw [e, hxn]
    exact ok q t tp' h' tk' F' N'
  · refine u16_k B F X N T hk hID hD hbi hb hdp hun (fun _ q t tp' h' tk' F' N' => ?_) fun q => rai (by show _ < p + ((2 : Nat) : Int); omega)
    have e := hsub q
    rw [show NK.size .u16 = 2 from rfl] at e
    rw [e, hxn]
    exact ok q t tp' h' tk' F' N'
  · refine u24_k B F X N T hk hID hD hbi hb hdp hun (fun _ q t tp' h' tk' F' N' => ?_) fun q => rai (by show _ < p + ((3 : Nat) : Int); omega)
    have e := hsub q
    rw [show NK.size .u24 = 3 from rfl] at e
    rw [e, hxn]
    exact ok q t tp' h' tk' F' N'
  · refine u32_k B F X N T hk hID hD hbi hb hdp hun (fun _ q t tp' h' tk' F' N' => ?_) fun q => rai (by show _ < p + ((4 : Nat) : Int); omega)
    have e := hsub q
    rw [show NK.size .u32 = 4 from rfl] at e
    rw [e, hxn]
    exact ok q t tp' h' tk' F' N'
theorem nk_lookI (K : NK) {m1 m2 m3 m4 m5 m6 : Addr} {t1 t2 t3 t4 t5 t6 : Tok} {self : Value} {news : List (Addr × Obj)} (h1 : (m1, methodObj (.ref 127) self) ∈ news) (h2 : (m2, methodObj (.ref 134) self) ∈ news) (h3 : (m3, methodObj (.ref 141) self) ∈ news)
    (h4 : (m4, methodObj (.ref 148) self) ∈ news) (h5 : (m5, methodObj (.ref 155) self) ∈ news) :
    ∃ M, (M, methodObj (.ref K.fnI) self) ∈ news ∧ valueAt (strPairs [(Value.str (Str.ofString "u8") t1, Value.ref m1), (Value.str (Str.ofString "u16") t2, Value.ref m2), (Value.str (Str.ofString "i16") t3, Value.ref m3), (Value.str (Str.ofString "u24") t4, Value.ref m4), (Value.str (Str.ofString "u32") t5, Value.ref m5), (Value.str (Str.ofString "tag") t6, Value.ref m6)]) K.name = some (.ref M) := by
  cases K
  · exact ⟨_, h1, sp_hit⟩
  · exact ⟨_, h2, sp_miss (by decide) sp_hit⟩
  · exact ⟨_, h3, sp_miss (by decide) (sp_miss (by decide) sp_hit)⟩
  · exact ⟨_, h4, sp_miss (by decide) (sp_miss (by decide) (sp_miss (by decide) sp_hit))⟩
  · exact ⟨_, h5, sp_miss (by decide) (sp_miss (by decide) (sp_miss (by decide) (sp_miss (by decide) sp_hit)))⟩
theorem fnI_in (w : World) (K : NK) : fnIn (hd.heap_1 w.params) K.fnI = true := by cases K <;> k_is
section
variable {prog : Program} {w : World} {K : Type} [DecidableEq K] {knd : KeyKind prog w K} {A : Around} {E : Value → Shared → Prop} {s : Shared} {h₀ : Heap} {L d f : Addr} {self : Value} {news : List (Addr × Obj)} {o : Obj} {kvs : List (K × Value)} {k : K} {key : Value} {Q : Value → Shared → Prop}
theorem kdt_meth (N : News h₀ L s.heap news) (hp : (d, o) ∈ news) (hd : o.IsDictOf knd kvs) (hkey : knd.is k key = true) (hl : ∃ M, (M, methodObj (.ref f) self) ∈ news ∧ valueAt kvs k = some (.ref M)) (h : ∀ M, (M, methodObj (.ref f) self) ∈ news → Q (.ref M) { s with toks := s.toks + 1 }) : wpAny (model prog w) A (getItem (.ref d) key) Q E s := by
  obtain ⟨M, hM, ht⟩ := hl
  exact kdt_getItem N hp hd hkey ht (h M hM)
end
theorem nk_ne_add {n : Int} (K : NK) : (Fld.num K n).kind ≠ Str.ofString "add" := by
  show K.name ≠ _
  cases K <;> decide
theorem beI_one (k : Int) : beI [k] = k := by show 256 * 0 + k = k; omega
theorem take_snoc1 {ks : List Int} {p i : Nat} (h : p + i < ks.length) : (ks.drop p).take (i + 1) = (ks.drop p).take i ++ [beI ((ks.drop (p + i)).take 1)] := by
  have hi : (ks.drop p)[i]? = some ks[p + i] := by rw [List.getElem?_drop, List.getElem?_eq_getElem h]
  rw [List.take_add_one, hi, List.drop_eq_getElem_cons h]
  show _ ++ [ks[p + i]] = _ ++ [beI [ks[p + i]]]
  rw [beI_one]
theorem byteArr_bInts (b : Array UInt8) : byteArr (KBw.bInts b) = b := by
  obtain ⟨l⟩ := b
  show ((l.map fun c => (c.toNat : Int)).map fun n => n.toNat.toUInt8).toArray = _
  rw [List.map_map]
  congr 1
  conv => rhs; rw [← List.map_id l]
  refine List.map_congr_left fun c _ => ?_
  simp
theorem bInts_inR (b : Array UInt8) : KBa.In (KBw.bInts b) := fun _ h => KBw.ints_in h
theorem exc_off {q : Int} {o oC : Obj} {mC : Str → Option Value} {x : Str} {v : Value} (ha : ExcAt q o) (hC : LCg.NsObj oC mC) (hm : mC x = some v) (h1 : (Str.ofString "what" == x) = false) (h2 : (Str.ofString "at" == x) = false) : o ≠ oC := by
  obtain ⟨y1, y2, y3, y4, y5, y6, y7⟩ := ha
  obtain ⟨es, ep, hd, _, hn⟩ := hC
  rintro rfl
  have e : es = [(⟨y1, .str "what" y2, .str y5 y6⟩ : DictEntry), ⟨y3, .str "at" y4, .int q y7⟩].toArray := by
    injection hd with h1 h2
    exact h1.symm
  have := hn x
  rw [hm, e] at this
  have g1 : Value.isStr (.str "what" y2) x = false := h1
  have g2 : Value.isStr (.str "at" y4) x = false := h2
  simp [nsFind, findBy, g1, g2] at this
theorem flies_ne {base G : Heap} {l : List Env} {e D a b : Addr} {oa ob : Obj} {news : List (Addr × Obj)} {h : Heap} (R : Flies base G l e D news h) (ha : (a, oa) ∈ news) (hb : (b, ob) ∈ news) (hne : oa ≠ ob) : @Ne Nat a b := by
  obtain ⟨B, _, _, b2, _⟩ := R
  rintro rfl
  have := (b2 _ ha).1
  have h2 := (b2 _ hb).1
  rw [this] at h2
  exact hne (Option.some.inj h2)
theorem news_four {h₀ h : Heap} {L : Addr} {x y z v : Addr × Obj} {r : List (Addr × Obj)} (_ : News h₀ L h (x :: y :: z :: v :: r)) : ∃ v', v' = v := ⟨v, rfl⟩
set_option maxHeartbeats 8000000 in
theorem taken_c {w : World} {mean : ExcName → Option Value} {mg mb : Str → Option Value} {dp un : Nat} {gd : Option (List Code)} {cn : Str} {cs : Scope} {a : Addr} {ccd : Value} {cl : List (Str × Addr)} {A₀ : Around} {base h₀ : Heap} {L : Addr} {m : Str → Option Value} {s : Shared} {Q E : Value → Shared → Prop}
    {b x : Array UInt8} {p : Int} {tb tp k1 k2 : Tok} {news : List (Addr × Obj)} {ks : List Int} {I D : Addr} {h1 h2 : Int} {V : Addr} {f : Fld} {v : Value} {tk : Tok} {e : Nat}
    (B : Below A₀ base [] h₀) (F : Fr h₀ L s.heap m) (X : (hd.heap_1 w.params).In h₀) (N : News h₀ L s.heap ((I, instObj 175 D) :: (D, inD h1 k1 b tb h2 k2 p tp) :: news))
    (T : Top vw (looseW vw [Str.ofString "ShapeError"]) mean mg mb h₀) (XB : (hd.heap_1 w.params).In base) (TB : Top vw (looseW vw [Str.ofString "ShapeError"]) mean mg mb base) (hk : cs.kind = .function)
    (hID : @Ne Nat I D) (hD : ∀ p ∈ news, p.1 ≠ D) (hV : (V, tupF f.kind tk v e) ∈ news) (hW : WorthIn news v f) (hok : f.Ok) (hx : f.enc = some x)
    (hbi : KBw.bInts b = ks) (hks : ks.length = b.size) (hb : b.size ≤ 1000) (hp : 0 ≤ p) (hsub : p + x.size ≤ b.size → (ks.drop p.toNat).take x.size = KBw.bInts x) (hdp : dp < 490) (hun : un < 4400)
    (ok : (p + x.size ≤ b.size ∨ (x.size = 0 ∧ f.kind = Str.ofString "add")) → ∀ V' v' nw e t tp' h' tk', WorthIn nw v' f → Fr h₀ L h' m → News h₀ L h' ((V', tup2 v' (.int (-2) t) e) :: nw ++ (I, instObj 175 D) :: (D, inD h1 k1 b tb h2 k2 (p + x.size) tp') :: news) → Q (.ref V') { s with heap := h', toks := tk' })
    (no : (b.size : Int) < p + x.size → ¬ (x.size = 0 ∧ f.kind = Str.ofString "add") → ∀ V' q e t tp' h' tk', (f.kind ≠ Str.ofString "add" → q = p) → Fr h₀ L h' m → News h₀ L h' ((V', tup2 .none (.int q t) e) :: (I, instObj 175 D) :: (D, inD h1 k1 b tb h2 k2 q tp') :: news) → Q (.ref V') { s with heap := h', toks := tk' }) :
    wpAny (model Challenge.pw_nz0115_01 w) (ktrTop dp un gd cn cs L a ccd cl []) (call (.ref 312) [.ref I, .ref V]) Q E s := by
  have hVD : @Ne Nat V D := hD _ hV
  cases hW with
  | tag y t =>
    obtain ⟨hx4, hxy⟩ := tag_back hx
    have N2 : News h₀ L s.heap ((I, instObj 175 D) :: (D, inD h1 k1 b tb h2 k2 p tp) :: (V, tupF (Str.ofString "tag") tk (.str y t) e) :: news) := news_sub N (sub_cons (.head _) (sub_cons (.tail _ (.head _)) (sub_cons (.tail _ (.tail _ hV)) fun p hp => .tail _ (.tail _ hp))))
    refine wpAny_call ?_
    k_dflt ktr_enter
    refine wpAny_letA ?_; intro ak
    k_steps
    unfold Stop
    rename News _ _ _ _ => NN
    refine call_meth NN (by k_mem) ?_
    refine' intag_k (news := news) ?o1t0 ?o2t0 ?o3t0 ?o4t0 ?o5t0 ?o6t0 hID hD hbi hks hb ?o8t0 ?o9t0 ?okt0 ?rait0
    case o1t0 => assumption
    case o2t0 => k_asm
    case o3t0 => k_asm
    case o4t0 => exact news_sub NN (by ktr_rel)
    case o5t0 => k_asm
    case o6t0 => exact rfl
    case o8t0 => ktr_room
    case o9t0 => ktr_units
    case okt0 =>
      intro q1 q2 t' tp' h' tk' F' N'
      dsimp only
      k_steps
      refine' ok (.inl (by omega)) _ _ [] _ _ tp' _ _ ?wt0 ?ft0 ?nt0
      case ft0 => k_asm
      case nt0 => rw [hx4]; exact news_sub (by k_asm) (by ktr_rel)
      case wt0 =>
        have e := hsub (by omega)
        rw [hx4] at e
        rw [e, hxy]
        exact .tag y _
    case rait0 =>
      intro qr e' D' o' g' h' tk' ha' R' FG' U'
      obtain ⟨y1, y2, y3, y4, y5, y6, y7⟩ := ha'
      dsimp only
      refine' fl_caughtB (by assumption) (by assumption) (by assumption) (by assumption) XB TB (by k_is) KtsTurn.refl ?kt0
      intro h' g' vs sl tk T' F' N' B' X' P'
      k_steps
      rename News _ _ _ _ => NN2
      refine' x_getattr (C := 54) ?xX0 ?xI0 ?xga0 ?xgr0 ?xp0 ?xf0 ?xv0 ?_
      case xX0 => exact Frag.In.keeps (by k_asm) (Fr.keep (by k_asm))
      case xI0 => exact (⟨(NN2 _ (.head _)).1, rfl, rfl, (NN2 _ (.tail _ (.head _))).1⟩ : InstAt _ _ (excG _ vs sl) 54 (some _))
      case xga0 => k_is
      case xgr0 => k_is
      case xp0 => rfl
      case xf0 => exact findObj_own (by k_is) (by k_is : findIn (hd.heap_1 w.params) (.ref 54) (Str.ofString "at") = some none) rfl (by rw [lookIn_dict]; k_get)
      case xv0 => k_handed
      k_steps
      exact no (by omega) (fun q => by omega) _ _ _ _ _ _ _ (fun _ => rfl) (by k_asm) (news_sub (by k_asm) (by ktr_rel))
  | @rows R ys ns le hR hi =>
    obtain ⟨hx4, hxr⟩ := rows_back hx (fun k hk => (hok.2 k hk).1)
    have hns : ns.length ≤ 4 := hok.1
    have hyl := hi.length
    have N2 : News h₀ L s.heap ((I, instObj 175 D) :: (D, inD h1 k1 b tb h2 k2 p tp) :: (V, tupF (Str.ofString "rows") tk (.ref R) e) :: (R, listOf ys.toArray le) :: news) := news_sub N (sub_cons (.head _) (sub_cons (.tail _ (.head _)) (sub_cons (.tail _ (.tail _ hV)) (sub_cons (.tail _ (.tail _ hR)) fun p hp => .tail _ (.tail _ hp)))))
    refine wpAny_call ?_
    k_dflt ktr_enter
    refine wpAny_letA ?_; intro ak
    k_steps
    unfold Stop
    rename News _ _ _ _ => NN
    refine wpAny_call ?_
    refine' inrows_k (news := news) (c := ns.length) ?o1r ?o2r ?o3r ?o4r ?o5r ?o6r hID hD hns hbi hks hb ?o8r ?o9r ?okr ?rair
    case o1r => assumption
    case o2r => k_asm
    case o3r => k_asm
    case o4r => exact news_sub NN (by ktr_rel)
    case o5r => k_asm
    case o6r => exact rfl
    case o8r => ktr_room
    case o9r => ktr_units
    case okr =>
      intro q1 q2 RL zs tp' h' tk' hS n1 n2 n3 F' N'
      dsimp only
      k_steps
      refine' ok (.inl (by omega)) _ _ [(RL, listOf zs.toArray zs.length)] _ _ tp' _ _ ?wtr ?ftr ?ntr
      case ftr => k_asm
      case ntr => rw [show p + (x.size : Int) = p + 2 * (ns.length : Int) by omega]; exact news_sub (by k_asm) (by ktr_rel)
      case wtr =>
        have e := hsub (by omega)
        rw [hx4] at e
        rw [rowsI_sub e, hxr] at hS
        exact .rows (.head _) hS
    case rair =>
      intro qr e' D' o' g' h' tk' ha' R' FG' U'
      obtain ⟨y1, y2, y3, y4, y5, y6, y7⟩ := ha'
      dsimp only
      refine' fl_caughtB (by assumption) (by assumption) (by assumption) (by assumption) XB TB (by k_is) KtsTurn.refl ?ktr
      intro h' g' vs sl tk T' F' N' B' X' P'
      k_steps
      rename News _ _ _ _ => NN2
      refine' x_getattr (C := 54) ?xXr ?xIr ?xgar ?xgrr ?xpr ?xfr ?xvr ?_
      case xXr => exact Frag.In.keeps (by k_asm) (Fr.keep (by k_asm))
      case xIr => exact (⟨(NN2 _ (.head _)).1, rfl, rfl, (NN2 _ (.tail _ (.head _))).1⟩ : InstAt _ _ (excG _ vs sl) 54 (some _))
      case xgar => k_is
      case xgrr => k_is
      case xpr => rfl
      case xfr => exact findObj_own (by k_is) (by k_is : findIn (hd.heap_1 w.params) (.ref 54) (Str.ofString "at") = some none) rfl (by rw [lookIn_dict]; k_get)
      case xvr => k_handed
      k_steps
      exact no (by omega) (fun q => absurd q.2 (by show Str.ofString "rows" ≠ _; decide)) _ _ _ _ _ _ _ (fun _ => rfl) (by k_asm) (news_sub (by k_asm) (by ktr_rel))
  | add c t =>
    have hx4 : c = x := Option.some.inj hx
    subst hx4
    have hc4 : c.size ≤ 4 := hok
    have N2 : News h₀ L s.heap ((I, instObj 175 D) :: (D, inD h1 k1 b tb h2 k2 p tp) :: (V, tupF (Str.ofString "add") tk (.bytes c t) e) :: news) := news_sub N (sub_cons (.head _) (sub_cons (.tail _ (.head _)) (sub_cons (.tail _ (.tail _ hV)) fun p hp => .tail _ (.tail _ hp))))
    refine wpAny_call ?_
    k_dflt ktr_enter
    refine wpAny_letA ?_; intro ak
    k_steps
    rename News _ _ _ (_ :: _ :: _ :: _) => NN
    obtain ⟨pc, hpc⟩ := news_head NN
    obtain ⟨pv, hpv⟩ := news_four NN
    refine' lcs_range (n := c.size) (fun i ys nw => ∃ q tq, q = p + i ∧ nw = pc :: (I, instObj 175 D) :: (D, inD h1 k1 b tb h2 k2 q tq) :: pv :: news ∧ IntsAre ys ((ks.drop p.toNat).take i) ∧ (i = 0 ∨ p + i ≤ b.size)) rfl ?kF ?kN ?kr ?ks ?kn (by omega) ?k0 ?kt ?kf
    case kF => k_asm
    case kN => k_asm
    case kr => assumption
    case ks => exact small_one (by omega) (by omega) (by omega) (by omega)
    case kn => rw [rangeSize_nat]; omega
    case k0 =>
      refine ⟨p, tp, by simp, ?_, .nil, .inl rfl⟩
      rw [hpc, hpv]
    case kt =>
      rintro i t hi ys nw I' oI C oC D' m₂ h tk hoC hm F1 N1 off ne yl ⟨q, tq, hq, rfl, hS, hib⟩
      subst hpc hpv
      k_steps
      · rename_i qr e1 De oe g1 h9 tk1 ha1 R1 FG1 U1
        have hCe : @Ne Nat De C := flies_ne R1 (.head _) (by k_mem) (exc_off ha1 hoC hm rfl rfl)
        refine' lc_err ((De, oe) :: (I, instObj 175 D) :: (D, inD h1 k1 b tb h2 k2 q tq) :: news) ?K ?F ?U R1 hoC ?hC ?h2 ?h3 ?hE
        case K => assumption
        case F => assumption
        case U => assumption
        case hC => k_mem
        case h2 => ktr_rel
        case h3 =>
          intro q hq
          rcases List.mem_cons.mp hq with rfl | hq
          · exact hCe
          rcases List.mem_cons.mp hq with rfl | hq
          · exact off.2.1.2.1
          rcases List.mem_cons.mp hq with rfl | hq
          · exact off.2.2.1.2.1
          · exact (LCg.Off3.mem off.2.2.2.2 q hq).2.1
        case hE =>
          intro h3 R3 U3
          obtain ⟨y1, y2, y3, y4, y5, y6, y7⟩ := ha1
          dsimp only
          refine' fl_caughtB (by assumption) (by assumption) (by assumption) (by assumption) XB TB (by k_is) KtsTurn.refl ?kta
          intro h' g' vs sl tk T' F' N' B' X' P'
          k_steps
          rename News _ _ _ _ => NN2
          refine' x_getattr (C := 54) ?xXa ?xIa ?xgaa ?xgra ?xpa ?xfa ?xva ?_
          case xXa => exact Frag.In.keeps (by k_asm) (Fr.keep (by k_asm))
          case xIa => exact (⟨(NN2 _ (.head _)).1, rfl, rfl, (NN2 _ (.tail _ (.head _))).1⟩ : InstAt _ _ (excG _ vs sl) 54 (some _))
          case xgaa => k_is
          case xgra => k_is
          case xpa => rfl
          case xfa => exact findObj_own (by k_is) (by k_is : findIn (hd.heap_1 w.params) (.ref 54) (Str.ofString "at") = some none) rfl (by rw [lookIn_dict]; k_get)
          case xva => k_handed
          k_steps
          exact no (by omega) (fun q => by omega) _ _ _ _ _ _ _ (fun z => absurd rfl z) (by k_asm) (news_sub (by k_asm) (by ktr_rel))
      refine' LCg.CompEnd.intro (by k_asm) (by k_asm) _ ?sub ?off trivial ⟨_, _, ?e1, rfl, ?e2, ?e3⟩
      case sub => ktr_rel
      case off => exact off
      case e1 => omega
      case e3 => right; omega
      case e2 =>
        rw [take_snoc1 (ks := ks) (p := p.toNat) (i := i) (by omega), tn_add hp hq]
        exact ints_snoc hS
    case kf =>
      rintro R' h tk ys nw F1 N1 o1 yl ⟨q, tq, hq, rfl, hS, hib⟩
      subst hpc hpv
      simp only [LCg.Off1] at o1
      have hfin : (ks.drop p.toNat).take c.size = KBw.bInts c := by
        rcases hib with h0 | h1
        · rw [h0]; exact (List.length_eq_zero_iff.mp (by rw [KBw.ints_length]; exact h0)).symm
        · exact hsub h1
      rw [hfin] at hS
      have hin := bInts_inR c
      have hlen := KBw.ints_length c
      k_steps
      refine' ok ?hca _ _ [] _ _ tq _ _ ?wta ?fta ?nta
      case hca =>
        rcases hib with h0 | h1
        · exact .inr ⟨h0, rfl⟩
        · exact .inl h1
      case fta => k_asm
      case nta => rw [← hq]; exact news_sub (by k_asm) (by ktr_rel)
      case wta => rw [byteArr_bInts]; exact .add c _
  | num K n t =>
    have N2 : News h₀ L s.heap ((I, instObj 175 D) :: (D, inD h1 k1 b tb h2 k2 p tp) :: (V, tupF K.name tk (.int n t) e) :: news) := news_sub N (sub_cons (.head _) (sub_cons (.tail _ (.head _)) (sub_cons (.tail _ (.tail _ hV)) fun p hp => .tail _ (.tail _ hp))))
    refine wpAny_call ?_
    k_dflt ktr_enter
    refine wpAny_letA ?_; intro ak
    k_steps
    unfold Stop
    rename News _ _ _ _ => NNd
    refine' kdt_tail (knd := PySem.strKind _ _) ?t1n ?t2n ?t3n ?_
    case t1n => k_asm
    case t3n => k_asm
    case t2n => k_mem
    refine' kdt_meth (knd := PySem.strKind _ _) (k := K.name) (f := K.fnI) (self := .ref I) ?g1n ?g2n ?g3n ?g4n ?g5n ?_
    case g1n => k_asm
    case g3n => k_asm
    case g2n => k_mem
    case g4n => exact strKind_is _ _ _ _
    case g5n => exact nk_lookI K (by k_mem) (by k_mem) (by k_mem) (by k_mem) (by k_mem)
    intro M hM
    dsimp only
    refine' callWith_M0 (K := hd.heap_1 w.params) (g := K.fnI) (self := .ref I) ?cwx (fnI_in w K) ?_
    case cwx => exact methP (by k_asm) hM (by k_in)
    try dsimp only [List.nil_append]
    rename News _ _ _ _ => NN
    refine call_meth NN hM ?_
    refine' num_k (news := news) ?o1n ?o2n ?o3n ?o4n ?o5n ?o6n hID hD hx hbi hb hp hsub ?o8n ?o9n ?okn ?rain
    case o1n => assumption
    case o2n => k_asm
    case o3n => k_asm
    case o4n => exact news_sub NN (by ktr_rel)
    case o5n => k_asm
    case o6n => exact rfl
    case o8n => ktr_room
    case o9n => ktr_units
    case okn =>
      intro q2 t' tp' h' tk' F' N'
      dsimp only
      k_steps
      refine' ok (.inl q2) _ _ [] _ _ tp' _ _ ?wtn ?ftn ?ntn
      case ftn => k_asm
      case ntn => exact news_sub (by k_asm) (by ktr_rel)
      case wtn => exact .num K n _
    case rain =>
      intro qr e' D' o' g' h' tk' ha' R' FG' U'
      obtain ⟨y1, y2, y3, y4, y5, y6, y7⟩ := ha'
      dsimp only
      refine' fl_caughtB (by assumption) (by assumption) (by assumption) (by assumption) XB TB (by k_is) KtsTurn.refl ?ktn
      intro h' g' vs sl tk T' F' N' B' X' P'
      k_steps
      rename News _ _ _ _ => NN2
      refine' x_getattr (C := 54) ?xXn ?xIn ?xgan ?xgrn ?xpn ?xfn ?xvn ?_
      case xXn => exact Frag.In.keeps (by k_asm) (Fr.keep (by k_asm))
      case xIn => exact (⟨(NN2 _ (.head _)).1, rfl, rfl, (NN2 _ (.tail _ (.head _))).1⟩ : InstAt _ _ (excG _ vs sl) 54 (some _))
      case xgan => k_is
      case xgrn => k_is
      case xpn => rfl
      case xfn => exact findObj_own (by k_is) (by k_is : findIn (hd.heap_1 w.params) (.ref 54) (Str.ofString "at") = some none) rfl (by rw [lookIn_dict]; k_get)
      case xvn => k_handed
      k_steps
      exact no qr (fun q => absurd q.2 (nk_ne_add K)) _ _ _ _ _ _ _ (fun _ => rfl) (by k_asm) (news_sub (by k_asm) (by ktr_rel))
theorem zs31 : True := by w_top off; trivial
end Z41
end Z33
end Z32
end Z31
end Z30
end Z29
theorem zr15 {p : Program} {w : World} {A : Around} {e : Env} {Q : Flow → Shared → Prop} {E : Value → Shared → Prop} {s : Shared} (h : wpAny (model p w) A (execs [] e) Q E s) : wpAny (model p w) A (execs [] e) Q E s := by
  w_top off
  first | (walk1; fail) | exact h
section Z42
local macro_rules | `(tactic| walk_at $s) => lines s [
  ("wpC", here (alt [
    sq (shC "call (Value.builtin _) (List.cons (Value.ref _) (List.cons (Value.bytes _ _) List.nil))") (sq (dfl (fill "extendK" "aaufE_")) (ins 3)),
    sq (shC "callWith _ (Value.builtin _) _ _ _") (dfl (rf "callWithC_builtin ?_")),
    sq (shC "execs (List.cons (Stmt.Expr (Expr.Call (Expr.Attribute _ _ _) _ _ _) _) _) _") (dfl (rf "execsC_cons (exprC (methodCallC ?_))")),
    sq (shC "execs (List.cons _ _) _") (dfl (rf "execsC_cons (wpC_of ?_)")),
    sq (shC "execs _ _") (rf "wpC_of ?_")]))]
section Z43
local macro_rules | `(tactic| ktr_enter) => ent "codeC_defS" "aaaaaffgiiRxL_rrrd" "fg" 9
section Z44
local macro_rules | `(tactic| walk_at $s) => lines s [
  ("wpC", here (alt [
    sq (shC "execs (List.cons (Stmt.Expr (Expr.Call (Expr.Subscript _ _ _) _ _ _) _) _) _") (dfl (rf "execsC_cons (exprC (subCallC ?_))")),
    sq (shC "execs (List.cons (Stmt.Try _ _ _ _ _) _) _") (sq (dfl (rf "execsC_cons (tryC ?_)")) (tryT letT))]))]
section Z45
local macro_rules | `(tactic| walk_at $s) => lines s [
  ("subscriptTail", stA "subscriptTail _ _ (Value.ref _) (Value.str (Fld.kind _) _)")]
theorem put_news {h₀ h : Heap} {L : Addr} {x y z v : Addr × Obj} {news : List (Addr × Obj)} (N : News h₀ L h (x :: y :: z :: news)) (hv : v ∈ news) : News h₀ L h (x :: y :: z :: v :: news) :=
  news_sub N (sub_cons (.head _) (sub_cons (.tail _ (.head _)) (sub_cons (.tail _ (.tail _ (.head _))) (sub_cons (.tail _ (.tail _ (.tail _ hv))) fun p hp => .tail _ (.tail _ (.tail _ hp))))))
theorem enc_okT {x : Str} (h4 : x.length = 4) (lo : ∀ c ∈ x.cps.toList, c < 256) : (Fld.tag x).enc = some (byteArr (KStt.codes x)) := if_pos ⟨h4, lo⟩
theorem enc_noT {x : Str} (h : x.length ≠ 4 ∨ ∃ c ∈ x.cps.toList, 256 ≤ c) : (Fld.tag x).enc = none := by
  refine if_neg fun q => ?_
  rcases h with h | ⟨c, hc, h⟩
  · exact h q.1
  · exact absurd (q.2 c hc) (by omega)
set_option maxHeartbeats 8000000 in
theorem put_c {w : World} {mean : ExcName → Option Value} {mg mb : Str → Option Value} {dp un : Nat} {cn : Str} {cs : Scope} {a : Addr} {ccd : Value} {cl : List (Str × Addr)} {A₀ : Around} {base h₀ : Heap} {L : Addr} {m : Str → Option Value} {s : Shared} {Q E : Value → Shared → Prop}
    {k1 : Tok} {news : List (Addr × Obj)} {O DO BA : Addr} {h1 : Int} {b0 : Array UInt8} {V : Addr} {f : Fld} {v : Value} {tk : Tok} {e : Nat}
    (B : Below A₀ base [] h₀) (F : Fr h₀ L s.heap m) (X : (hd.heap_1 w.params).In h₀) (N : News h₀ L s.heap ((O, instObj 267 DO) :: (DO, dictOf [⟨h1, .str "made" k1, .ref BA⟩] 1) :: (BA, baO b0) :: news))
    (T : Top vw (looseW vw [Str.ofString "ShapeError"]) mean mg mb h₀) (XB : (hd.heap_1 w.params).In base) (TB : Top vw (looseW vw [Str.ofString "ShapeError"]) mean mg mb base) (hk : cs.kind = .function)
    (hOB : @Ne Nat O BA) (hDB : @Ne Nat DO BA) (hB : ∀ p ∈ news, p.1 ≠ BA) (hV : (V, tupF f.kind tk v e) ∈ news) (hW : WorthIn news v f) (hok : f.Ok) (hz : b0.size ≤ 800) (hdp : dp < 490) (hun : un < 4500)
    (ret : ∀ h' tk', Fr h₀ L h' m → News h₀ L h' ((O, instObj 267 DO) :: (DO, dictOf [⟨h1, .str "made" k1, .ref BA⟩] 1) :: (BA, baO (b0 ++ f.enc.getD #[])) :: news) → Q (.bool f.enc.isNone) { s with heap := h', toks := tk' }) :
    wpC (model Challenge.pw_nz0115_01 w) (ktrTop dp un (some []) cn cs L a ccd cl []) (call (.ref 307) [.ref O, .ref V]) Q E s := by
  refine wpC_call ?_
  have hVB : @Ne Nat V BA := hB _ hV
  have N2 := put_news N hV
  k_dflt ktr_enter
  refine wpC_letA ?_; intro ak
  k_steps
  unfold Stop
  refine' kdt_tail (knd := PySem.strKind _ _) ?t1 ?t2 ?t3 ?_
  case t1 => k_asm
  case t3 => k_asm
  case t2 => k_mem
  repeat (rename ∀ q : Addr × Obj, q ∈ _ → @LT.lt Nat _ q.1 _ => zl; clear zl)
  cases hW with
  | tag x t =>
    refine' kdt_getItem (knd := PySem.strKind _ _) (k := Str.ofString "tag") ?g1z0 ?g2z0 ?g3z0 ?g4z0 ?g5z0 ?_
    case g1z0 => k_asm
    case g3z0 => k_asm
    case g2z0 => k_mem
    case g4z0 => exact strKind_is _ _ _ _
    case g5z0 => exact sp_miss (by decide) (sp_miss (by decide) (sp_miss (by decide) (sp_miss (by decide) (sp_miss (by decide) (sp_hit)))))
    rename News _ _ _ _ => NN
    dsimp only
    refine' callWithC_M (K := hd.heap_1 w.params) (g := 238) (self := .ref O) NN ?cwmz0 ?cwfz0 ?_
    case cwmz0 => k_mem
    case cwfz0 => k_is
    k_steps
    rename News _ _ _ _ => NN2
    refine call_methC NN2 (by k_mem) ?_
    refine' outtag_c (news := news) ?o1z0 ?o2z0 ?o3z0 ?o4z0 ?o5z0 ?o6z0 hOB hDB hB ?o7z0 ?o8z0 ?o9z0 (tags_len x hok) (tags_lo x hok) ?okz0 ?raiz0
    case o1z0 => assumption
    case o2z0 => k_asm
    case o3z0 => k_asm
    case o4z0 => exact news_sub NN2 (by ktr_rel)
    case o5z0 => k_asm
    case o6z0 => exact rfl
    case o7z0 => omega
    case o8z0 => ktr_room
    case o9z0 => ktr_units
    case okz0 =>
      intro h4 lo h' tk' F' N'
      obtain ⟨e1, e2⟩ := put_ok (b0 := b0) (enc_okT h4 lo)
      rw [e1, e2] at ret
      dsimp only
      k_steps
      exact ret _ _ (by k_asm) (news_sub (by k_asm) (by ktr_rel))
    case raiz0 =>
      intro hc e De o g h' tk' R' FG' U'
      obtain ⟨e1, e2⟩ := put_no (b0 := b0) (enc_noT hc)
      rw [e1, e2] at ret
      dsimp only
      refine' fl_caught0 (by assumption) (by assumption) (by assumption) (by assumption) XB TB (by k_is) KtsTurn.refl ?kz0
      intro h' g' vs sl T' F' N' B' X' P'
      k_steps
      exact ret _ _ (by k_asm) (news_sub (by k_asm) (by ktr_rel))
  | @rows R ys ns le hR hi =>
    have hok' : ns.length ≤ 4 ∧ ∀ k ∈ ns, 0 ≤ k ∧ k ≤ 131072 := hok
    have hns : ∀ k ∈ ns, -10000000000 ≤ k ∧ k ≤ 10000000000 := fun k hk => by have := hok'.2 k hk; omega
    refine' kdt_getItem (knd := PySem.strKind _ _) (k := Str.ofString "rows") ?g1z1 ?g2z1 ?g3z1 ?g4z1 ?g5z1 ?_
    case g1z1 => k_asm
    case g3z1 => k_asm
    case g2z1 => k_mem
    case g4z1 => exact strKind_is _ _ _ _
    case g5z1 => exact sp_miss (by decide) (sp_miss (by decide) (sp_miss (by decide) (sp_miss (by decide) (sp_miss (by decide) (sp_miss (by decide) (sp_hit))))))
    rename News _ _ _ _ => NN
    dsimp only
    refine' callWithC_M (K := hd.heap_1 w.params) (g := 243) (self := .ref O) NN ?cwmz1 ?cwfz1 ?_
    case cwmz1 => k_mem
    case cwfz1 => k_is
    k_steps
    rename News _ _ _ _ => NN2
    refine call_methC NN2 (by k_mem) ?_
    refine' outrows_c (news := news) ?o1z1 ?o2z1 ?o3z1 ?o4z1 ?o5z1 ?o6z1 hOB hDB hB hR hi (by omega) hns ?o7z1 ?o8z1 ?o9z1 ?okz1 ?raiz1
    case o1z1 => assumption
    case o2z1 => k_asm
    case o3z1 => k_asm
    case o4z1 => exact news_sub NN2 (by ktr_rel)
    case o5z1 => k_asm
    case o6z1 => exact rfl
    case o7z1 => omega
    case o8z1 => ktr_room
    case o9z1 => ktr_units
    case okz1 =>
      intro hc h' tk' F' N'
      obtain ⟨e1, e2⟩ := put_ok (b0 := b0) (enc_okR hc)
      rw [e1, e2] at ret
      dsimp only
      k_steps
      exact ret _ _ (by k_asm) (news_sub (by k_asm) (by ktr_rel))
    case raiz1 =>
      intro hc e De g h' tk' R' FG' U'
      obtain ⟨e1, e2⟩ := put_no (b0 := b0) (enc_noR hok'.2 hc)
      rw [e1, e2] at ret
      dsimp only
      refine' fl_caught0 (by assumption) (by assumption) (by assumption) (by assumption) XB TB (by k_is) KtsTurn.refl ?kz1
      intro h' g' vs sl T' F' N' B' X' P'
      k_steps
      exact ret _ _ (by k_asm) (news_sub (by k_asm) (by ktr_rel))
  | add b t =>
    have hok' : b.size ≤ 4 := hok
    refine' kdt_getItem (knd := PySem.strKind _ _) (k := Str.ofString "add") ?g1z2 ?g2z2 ?g3z2 ?g4z2 ?g5z2 ?_
    case g1z2 => k_asm
    case g3z2 => k_asm
    case g2z2 => k_mem
    case g4z2 => exact strKind_is _ _ _ _
    case g5z2 => exact sp_miss (by decide) (sp_miss (by decide) (sp_miss (by decide) (sp_miss (by decide) (sp_miss (by decide) (sp_miss (by decide) (sp_miss (by decide) (sp_hit)))))))
    rename News _ _ _ _ => NN
    dsimp only
    refine' callWithC_M (K := hd.heap_1 w.params) (g := 250) (self := .ref O) NN ?cwmz2 ?cwfz2 ?_
    case cwmz2 => k_mem
    case cwfz2 => k_is
    k_steps
    rename News _ _ _ _ => NN2
    refine call_methC NN2 (by k_mem) ?_
    refine' outadd_c (news := news) ?o1z2 ?o2z2 ?o3z2 ?o4z2 ?o5z2 ?o6z2 hOB hDB hB ?o7z2 ?o8z2 ?o9z2 ?okz2
    case o1z2 => assumption
    case o2z2 => k_asm
    case o3z2 => k_asm
    case o4z2 => exact news_sub NN2 (by ktr_rel)
    case o5z2 => k_asm
    case o6z2 => exact rfl
    case o7z2 => omega
    case o8z2 => ktr_room
    case o9z2 => ktr_units
    case okz2 =>
      intro h' tk' F' N'
      obtain ⟨e1, e2⟩ := put_ok (b0 := b0) ((rfl : (Fld.add b).enc = some b))
      rw [e1, e2] at ret
      dsimp only
      k_steps
      exact ret _ _ (by k_asm) (news_sub (by k_asm) (by ktr_rel))
  | num K n t =>
    obtain ⟨hn1, hn2⟩ : -32769 ≤ n ∧ n ≤ 4294967296 := hok
    cases K with
    | u8 =>
      refine' kdt_getItem (knd := PySem.strKind _ _) (k := Str.ofString "u8") ?g1z3 ?g2z3 ?g3z3 ?g4z3 ?g5z3 ?_
      case g1z3 => k_asm
      case g3z3 => k_asm
      case g2z3 => k_mem
      case g4z3 => exact strKind_is _ _ _ _
      case g5z3 => exact sp_hit
      rename News _ _ _ _ => NN
      dsimp only
      refine' callWithC_M (K := hd.heap_1 w.params) (g := 205) (self := .ref O) NN ?cwmz3 ?cwfz3 ?_
      case cwmz3 => k_mem
      case cwfz3 => k_is
      k_steps
      rename News _ _ _ _ => NN2
      refine call_methC NN2 (by k_mem) ?_
      refine' outu8_c (news := news) ?o1z3 ?o2z3 ?o3z3 ?o4z3 ?o5z3 ?o6z3 hOB hDB hB ?o7z3 (by omega) (by omega) ?o8z3 ?o9z3 ?okz3 ?raiz3
      case o1z3 => assumption
      case o2z3 => k_asm
      case o3z3 => k_asm
      case o4z3 => exact news_sub NN2 (by ktr_rel)
      case o5z3 => k_asm
      case o6z3 => exact rfl
      case o7z3 => omega
      case o8z3 => ktr_room
      case o9z3 => ktr_units
      case okz3 =>
        intro hc1 hc2 h' tk' F' N'
        obtain ⟨e1, e2⟩ := put_ok (b0 := b0) (enc_okU (K := .u8) rfl hc1 hc2)
        rw [e1, e2] at ret
        dsimp only
        k_steps
        exact ret _ _ (by k_asm) (news_sub (by k_asm) (by ktr_rel))
      case raiz3 =>
        intro hc e De o g h' tk' R' FG' U'
        obtain ⟨e1, e2⟩ := put_no (b0 := b0) (enc_noU (K := .u8) rfl hc)
        rw [e1, e2] at ret
        dsimp only
        refine' fl_caught0 (by assumption) (by assumption) (by assumption) (by assumption) XB TB (by k_is) KtsTurn.refl ?kz3
        intro h' g' vs sl T' F' N' B' X' P'
        k_steps
        exact ret _ _ (by k_asm) (news_sub (by k_asm) (by ktr_rel))
    | u16 =>
      refine' kdt_getItem (knd := PySem.strKind _ _) (k := Str.ofString "u16") ?g1z4 ?g2z4 ?g3z4 ?g4z4 ?g5z4 ?_
      case g1z4 => k_asm
      case g3z4 => k_asm
      case g2z4 => k_mem
      case g4z4 => exact strKind_is _ _ _ _
      case g5z4 => exact sp_miss (by decide) (sp_hit)
      rename News _ _ _ _ => NN
      dsimp only
      refine' callWithC_M (K := hd.heap_1 w.params) (g := 212) (self := .ref O) NN ?cwmz4 ?cwfz4 ?_
      case cwmz4 => k_mem
      case cwfz4 => k_is
      k_steps
      rename News _ _ _ _ => NN2
      refine call_methC NN2 (by k_mem) ?_
      refine' outu16_c (news := news) ?o1z4 ?o2z4 ?o3z4 ?o4z4 ?o5z4 ?o6z4 hOB hDB hB ?o7z4 (by omega) (by omega) ?o8z4 ?o9z4 ?okz4 ?raiz4
      case o1z4 => assumption
      case o2z4 => k_asm
      case o3z4 => k_asm
      case o4z4 => exact news_sub NN2 (by ktr_rel)
      case o5z4 => k_asm
      case o6z4 => exact rfl
      case o7z4 => omega
      case o8z4 => ktr_room
      case o9z4 => ktr_units
      case okz4 =>
        intro hc1 hc2 h' tk' F' N'
        obtain ⟨e1, e2⟩ := put_ok (b0 := b0) (enc_okU (K := .u16) rfl hc1 hc2)
        rw [e1, e2] at ret
        dsimp only
        k_steps
        exact ret _ _ (by k_asm) (news_sub (by k_asm) (by ktr_rel))
      case raiz4 =>
        intro hc e De o g h' tk' R' FG' U'
        obtain ⟨e1, e2⟩ := put_no (b0 := b0) (enc_noU (K := .u16) rfl hc)
        rw [e1, e2] at ret
        dsimp only
        refine' fl_caught0 (by assumption) (by assumption) (by assumption) (by assumption) XB TB (by k_is) KtsTurn.refl ?kz4
        intro h' g' vs sl T' F' N' B' X' P'
        k_steps
        exact ret _ _ (by k_asm) (news_sub (by k_asm) (by ktr_rel))
    | i16 =>
      refine' kdt_getItem (knd := PySem.strKind _ _) (k := Str.ofString "i16") ?g1z5 ?g2z5 ?g3z5 ?g4z5 ?g5z5 ?_
      case g1z5 => k_asm
      case g3z5 => k_asm
      case g2z5 => k_mem
      case g4z5 => exact strKind_is _ _ _ _
      case g5z5 => exact sp_miss (by decide) (sp_miss (by decide) (sp_hit))
      rename News _ _ _ _ => NN
      dsimp only
      refine' callWithC_M (K := hd.heap_1 w.params) (g := 219) (self := .ref O) NN ?cwmz5 ?cwfz5 ?_
      case cwmz5 => k_mem
      case cwfz5 => k_is
      k_steps
      rename News _ _ _ _ => NN2
      refine call_methC NN2 (by k_mem) ?_
      refine' outi16_c (news := news) ?o1z5 ?o2z5 ?o3z5 ?o4z5 ?o5z5 ?o6z5 hOB hDB hB ?o7z5 (by omega) (by omega) ?o8z5 ?o9z5 ?okz5 ?raiz5
      case o1z5 => assumption
      case o2z5 => k_asm
      case o3z5 => k_asm
      case o4z5 => exact news_sub NN2 (by ktr_rel)
      case o5z5 => k_asm
      case o6z5 => exact rfl
      case o7z5 => omega
      case o8z5 => ktr_room
      case o9z5 => ktr_units
      case okz5 =>
        intro hc1 hc2 h' tk' F' N'
        obtain ⟨e1, e2⟩ := put_ok (b0 := b0) (enc_ok16 hc1 hc2)
        rw [e1, e2] at ret
        dsimp only
        k_steps
        exact ret _ _ (by k_asm) (news_sub (by k_asm) (by ktr_rel))
      case raiz5 =>
        intro hc e De o g h' tk' R' FG' U'
        obtain ⟨e1, e2⟩ := put_no (b0 := b0) (enc_no16 hc)
        rw [e1, e2] at ret
        dsimp only
        refine' fl_caught0 (by assumption) (by assumption) (by assumption) (by assumption) XB TB (by k_is) KtsTurn.refl ?kz5
        intro h' g' vs sl T' F' N' B' X' P'
        k_steps
        exact ret _ _ (by k_asm) (news_sub (by k_asm) (by ktr_rel))
    | u24 =>
      refine' kdt_getItem (knd := PySem.strKind _ _) (k := Str.ofString "u24") ?g1z6 ?g2z6 ?g3z6 ?g4z6 ?g5z6 ?_
      case g1z6 => k_asm
      case g3z6 => k_asm
      case g2z6 => k_mem
      case g4z6 => exact strKind_is _ _ _ _
      case g5z6 => exact sp_miss (by decide) (sp_miss (by decide) (sp_miss (by decide) (sp_hit)))
      rename News _ _ _ _ => NN
      dsimp only
      refine' callWithC_M (K := hd.heap_1 w.params) (g := 226) (self := .ref O) NN ?cwmz6 ?cwfz6 ?_
      case cwmz6 => k_mem
      case cwfz6 => k_is
      k_steps
      rename News _ _ _ _ => NN2
      refine call_methC NN2 (by k_mem) ?_
      refine' outu24_c (news := news) ?o1z6 ?o2z6 ?o3z6 ?o4z6 ?o5z6 ?o6z6 hOB hDB hB ?o7z6 (by omega) (by omega) ?o8z6 ?o9z6 ?okz6 ?raiz6
      case o1z6 => assumption
      case o2z6 => k_asm
      case o3z6 => k_asm
      case o4z6 => exact news_sub NN2 (by ktr_rel)
      case o5z6 => k_asm
      case o6z6 => exact rfl
      case o7z6 => omega
      case o8z6 => ktr_room
      case o9z6 => ktr_units
      case okz6 =>
        intro hc1 hc2 h' tk' F' N'
        obtain ⟨e1, e2⟩ := put_ok (b0 := b0) (enc_okU (K := .u24) rfl hc1 hc2)
        rw [e1, e2] at ret
        dsimp only
        k_steps
        exact ret _ _ (by k_asm) (news_sub (by k_asm) (by ktr_rel))
      case raiz6 =>
        intro hc e De o g h' tk' R' FG' U'
        obtain ⟨e1, e2⟩ := put_no (b0 := b0) (enc_noU (K := .u24) rfl hc)
        rw [e1, e2] at ret
        dsimp only
        refine' fl_caught0 (by assumption) (by assumption) (by assumption) (by assumption) XB TB (by k_is) KtsTurn.refl ?kz6
        intro h' g' vs sl T' F' N' B' X' P'
        k_steps
        exact ret _ _ (by k_asm) (news_sub (by k_asm) (by ktr_rel))
    | u32 =>
      refine' kdt_getItem (knd := PySem.strKind _ _) (k := Str.ofString "u32") ?g1z7 ?g2z7 ?g3z7 ?g4z7 ?g5z7 ?_
      case g1z7 => k_asm
      case g3z7 => k_asm
      case g2z7 => k_mem
      case g4z7 => exact strKind_is _ _ _ _
      case g5z7 => exact sp_miss (by decide) (sp_miss (by decide) (sp_miss (by decide) (sp_miss (by decide) (sp_hit))))
      rename News _ _ _ _ => NN
      dsimp only
      refine' callWithC_M (K := hd.heap_1 w.params) (g := 233) (self := .ref O) NN ?cwmz7 ?cwfz7 ?_
      case cwmz7 => k_mem
      case cwfz7 => k_is
      k_steps
      rename News _ _ _ _ => NN2
      refine call_methC NN2 (by k_mem) ?_
      refine' outu32_c (news := news) ?o1z7 ?o2z7 ?o3z7 ?o4z7 ?o5z7 ?o6z7 hOB hDB hB ?o7z7 (by omega) (by omega) ?o8z7 ?o9z7 ?okz7 ?raiz7
      case o1z7 => assumption
      case o2z7 => k_asm
      case o3z7 => k_asm
      case o4z7 => exact news_sub NN2 (by ktr_rel)
      case o5z7 => k_asm
      case o6z7 => exact rfl
      case o7z7 => omega
      case o8z7 => ktr_room
      case o9z7 => ktr_units
      case okz7 =>
        intro hc1 hc2 h' tk' F' N'
        obtain ⟨e1, e2⟩ := put_ok (b0 := b0) (enc_okU (K := .u32) rfl hc1 hc2)
        rw [e1, e2] at ret
        dsimp only
        k_steps
        exact ret _ _ (by k_asm) (news_sub (by k_asm) (by ktr_rel))
      case raiz7 =>
        intro hc e De o g h' tk' R' FG' U'
        obtain ⟨e1, e2⟩ := put_no (b0 := b0) (enc_noU (K := .u32) rfl hc)
        rw [e1, e2] at ret
        dsimp only
        refine' fl_caught0 (by assumption) (by assumption) (by assumption) (by assumption) XB TB (by k_is) KtsTurn.refl ?kz7
        intro h' g' vs sl T' F' N' B' X' P'
        k_steps
        exact ret _ _ (by k_asm) (news_sub (by k_asm) (by ktr_rel))
theorem zs32 : True := by w_top off; trivial
theorem eqvAll_ints (ns : List Int) : PyData.eqvAll (ns.map PyData.int) (ns.map PyData.int) = true := by
  induction ns with
  | nil => rfl
  | cons k r ih => simp [PyData.eqvAll, PyData.eqv, ih]
theorem tags_ok : ∀ x ∈ tags, PyData.strOk x = true := by decide +kernel
theorem int_eqAt {A : Around} {s : Shared} {n : Int} {t t' : Tok} (hu : A.units + 64 < cLine) : SeqAt.EqAt A s (.int n t) (.int n t') true := fun prog w E Q h => by
  refine SeqAt.eqBoolOverData prog w A E s _ _ (.int n) (.int n) _ _ Q (.int _ _) (.int _ _) rfl rfl ?_ ?_
  · show A.units + min 0 0 < cLine
    omega
  · simpa [PyData.eqv] using h
theorem worth_eqAt {A : Around} {s : Shared} {news : List (Addr × Obj)} {v v' : Value} {f : Fld} (hn : ∀ p ∈ news, s.heap.get? p.1 = some p.2) (h1 : WorthIn news v f) (h2 : WorthIn news v' f) (hok : f.Ok) (hu : A.units + 64 < cLine) : SeqAt.EqAt A s v v' true := by
  intro prog w E Q h
  cases h1 with
  | tag x t =>
    cases h2 with
    | tag _ t' =>
      refine SeqAt.eqBoolOverData prog w A E s _ _ (.str x) (.str x) _ _ Q (.str _ _) (.str _ _) (tags_ok x hok) (tags_ok x hok) ?_ ?_
      · show A.units + min 0 0 < cLine
        omega
      · simpa [PyData.eqv] using h
  | num k n t =>
    cases h2 with
    | num _ _ t' => exact int_eqAt hu prog w E Q h
  | add b t =>
    cases h2 with
    | add _ t' => exact eqBool_bytes (by simpa using h)
  | @rows R ys ns le hR hi =>
    cases h2 with
    | @rows R' ys' _ le' hR' hi' =>
      have ha : s.heap.IsList R ys.toArray := PySem.IsL.isList (n := le) (hn _ hR)
      have hb : s.heap.IsList R' ys'.toArray := PySem.IsL.isList (n := le') (hn _ hR')
      refine SeqAt.eqBoolOverData prog w A E s _ _ (.list (ns.map PyData.int)) (.list (ns.map PyData.int)) _ _ Q (reads_newData ha (ke_carried hi)) (reads_newData hb (ke_carried hi')) (ke_canLayAll0 ns) (ke_canLayAll0 ns) ?_ ?_
      · simp [PyData.depth, ke_depthAll]; omega
      · simpa [PyData.eqv, eqvAll_ints] using h
theorem worth_ne {prog : Program} {w : World} {A : Around} {E : Value → Shared → Prop} {s : Shared} {news : List (Addr × Obj)} {v v' : Value} {f : Fld} {Q : Value → Shared → Prop} (hn : ∀ p ∈ news, s.heap.get? p.1 = some p.2) (h1 : WorthIn news v f) (h2 : WorthIn news v' f) (hu : A.units + 64 < cLine)
    (h : Q (.bool false) s) : wpAny (model prog w) A (compareOp .NotEq v v') Q E s := by
  cases h1 with
  | tag x t =>
    cases h2 with
    | tag _ t' => exact SeqAt.RcNeAt.str_str x t x t' prog w E Q (by simpa using h)
  | num k n t =>
    cases h2 with
    | num _ _ t' => exact SeqAt.RcNeAt.int_int n t n t' prog w E Q (by simpa using h)
  | add b t =>
    cases h2 with
    | add _ t' => exact ne_bytes (by simpa using h)
  | @rows R ys ns le hR hi =>
    cases h2 with
    | @rows R' ys' _ le' hR' hi' => exact ke_ne_ints (PySem.IsL.isList (n := le) (hn _ hR)) (PySem.IsL.isList (n := le') (hn _ hR')) hi hi' hu (by simpa using h)
theorem worth_tup {prog : Program} {w : World} {A : Around} {E : Value → Shared → Prop} {s : Shared} {news : List (Addr × Obj)} {v v' : Value} {f : Fld} {Q : Value → Shared → Prop} {V V' : Addr} {t t' : Tok} {k : Int} {e e' : Nat} (hn : ∀ p ∈ news, s.heap.get? p.1 = some p.2)
    (hV : (V, tup2 v (.int k t) e) ∈ news) (hV' : (V', tup2 v' (.int k t') e') ∈ news) (h1 : WorthIn news v f) (h2 : WorthIn news v' f) (hok : f.Ok) (hu : A.units + 74 < cLine)
    (h : Q (.bool false) s) : wpAny (model prog w) A (compareOp .NotEq (.ref V) (.ref V')) Q E s := by
  have hk : SeqAt.EqAt A.in1 s (.int k t) (.int k t') true := int_eqAt (by simp only [units_in1]; omega)
  refine SeqAt.RcNeAt.tuples (items := #[v, .int k t]) (items2 := #[v', .int k t']) (e := fun _ => true) ⟨_, hn _ hV, rfl, _, rfl⟩ ⟨_, hn _ hV', rfl, _, rfl⟩ (by omega) (fun j j1 j2 => ?_) prog w E Q h
  match j, j1 with
  | 0, _ => exact worth_eqAt hn h1 h2 hok (by simp only [units_in1]; omega)
  | 1, _ => exact hk
theorem zs33 : True := by w_top off; trivial
theorem callC_cellsN {prog : Program} {w : World} {A : Around} {R : Result → Shared → Prop} {s : Shared} {name : Str} {params : Arguments} {body : List Stmt} {scope : Scope}
    {pm cd doc : Value} {a : Addr} {o : Obj} {args : List Value} {binds : List (Str × Value)}
    (hroom : A.depth < recursionLimit) (ho : s.heap.get? a = some o) (hdata : o.data = .func (Calls.docDef name params body scope pm cd doc)) (hlim : s.heap.NoLimit) (hcd : s.heap.CodeRec cd name)
    (hbind : bindArgs (Calls.docDef name params body scope pm cd doc) ⟨args, []⟩ = pure binds)
    (hkind : ∀ x ∈ binds, scope.names.lookup x.1 = some .local ∨ (scope.names.lookup x.1 = some .cell ∧ ((cellsFrom (s.heap.objs.size + 1) scope.names []).lookup x.1).isSome = true))
    (hnd : ((cellsFrom 0 scope.names []).map (·.1)).Nodup)
    (h : ∀ h₁ tk cells, Fr s.heap s.heap.objs.size h₁ (bindL (envOfC name scope s.heap.objs.size a cd).kindOf binds fun _ => none) → News s.heap s.heap.objs.size h₁ cells →
      CellsAre (bindC (envOfC name scope s.heap.objs.size a cd).kindOf binds fun _ => none) (cellsFrom (s.heap.objs.size + 1) scope.names []) cells →
      wpC (model prog w) (A.deeper (envOfC name scope s.heap.objs.size a cd)) (execs body (envOfC name scope s.heap.objs.size a cd))
        (fun f s' => R (.ok (.ret (match f with | .ret v => v | _ => .none))) s')
        (fun e s' => wpAny (model prog w) (A.deeper (envOfC name scope s.heap.objs.size a cd)) (leaving (envOfC name scope s.heap.objs.size a cd) e)
          (fun _ s'' => R (.error e) s'') (fun e' s'' => R (.error e') s'') s')
        { s with heap := h₁, toks := tk })
    (hco : scope.isCoroutine = false := by rfl) (hgen : scope.isGenerator = false := by rfl) (hk : scope.kind = .function := by rfl) :
    codeC (model prog w) A (.call (.ref a) ⟨args, []⟩) R s := by
  refine codeC_call_function (fd := Calls.docDef name params body scope pm cd doc) hroom ho hdata hco hgen rfl hcd ?_
  refine wpAny_of_eq hbind ?_
  refine wpAny_newFunctionEnv_cells hk hkind fun env' he s' x => ?_
  subst he
  refine ⟨hlim.keeps x.toInCall.keep, codeC_func ?_⟩
  obtain ⟨h₁, tk, rfl, _⟩ := x.done
  obtain ⟨cells, NC, Y⟩ := Cl.news (h₀ := s.heap) (Nat.le_refl _) fun n c hm => ⟨x.cell n c (lookup_of_mem_nodup (cellsFrom_names scope.names 0 (s.heap.objs.size + 1) [] [] rfl ▸ hnd) hm), x.above n c hm⟩
  exact h h₁ tk cells ⟨x.toInCall.ns, x.toInCall.keep, x.toInCall.fresh⟩ NC Y
theorem enter_callC {M : Model} {A : Around} {s : Shared} {f : Value} {pos : List Value} {kw : List (Str × Value)} {c : ClaimW} {cl : Str → Option Addr} {mean : ExcName → Option Value} {args : List WData} {s₁ : Shared}
    (h : codeC M A (.call f ⟨pos, kw⟩) (GoodWG c cl mean args s₁) s) : wpC M A (PySem.call f pos kw) (fun v s' => GoodWG c cl mean args s₁ (.ok (.ret v)) s') (fun e s' => GoodWG c cl mean args s₁ (.error e) s') s :=
  wpC_call (codeC_mono h fun res s' g => by rcases g.1 with ⟨v, _, _, rfl, _⟩ | ⟨e, _, _, rfl, _⟩ <;> exact g)
section
variable {prog : Program} {w : World} {A : Around} {E : Value → Shared → Prop} {s : Shared} {env : Env} {h₀ : Heap} {x : Str} {px : Pos} {body : List Stmt} {Q : Flow → Shared → Prop} {m₀ : Str → Option Value} {news : List (Addr × Obj)} {L : Addr}
theorem rangeC_at {r : Addr} {ra rb rc : Int} {t u v : Tok} {n : Nat} (J : Nat → (Str → Option Value) → List (Addr × Obj) → Prop) (hh : A.handled = none) (hL : env.locals = L) (hx : env.kindOf x = some .local)
    (hp : (env.scope.kind == .class || (env.scope.kind == .module && env.locals != env.globals)) = false)
    (F : Fr h₀ L s.heap m₀) (N : News h₀ L s.heap news) (hr : IsRange s.heap r ra rb rc t u v) (hsm : Builtin.Range.small ra rb rc = true) (hn : Builtin.Range.rangeSize ra rb rc = ((n : Nat) : Int)) (h0 : J 0 m₀ news)
    (turn : ∀ i t m₁ nw I oI h tk, i < n → oI.cls = .type "range_iterator" → J i m₁ nw → (∀ p ∈ nw, p.1 ≠ I) → Fr h₀ L h (fun y => if y = x then some (.int (ra + i * rc) t) else m₁ y) → News h₀ L h ((I, oI) :: nw) →
      wpC (model prog w) A (execs body env) (TurnEnd h₀ L (J (i + 1)) I oI { s with heap := h, toks := tk } Q) (fun _ _ => False) { s with heap := h, toks := tk })
    (done : ∀ m₁ nw h tk, J n m₁ nw → Fr h₀ L h m₁ → News h₀ L h nw → Q .next { s with heap := h, toks := tk }) :
    wpAny (model prog w) A (pyIter (.ref r)) (fun it s₂ => codeC (model prog w) A (.forLoop (.Name x px) it body [] env) (fun r s' => match r with | .ok f => Q f s' | .error _ => False) s₂) E s := by
  refine wpAny_pyIter_range hr hsm ?_
  have F' := F.push { cls := .type "range_iterator", data := .fields #[rawInt ra, rawInt (Builtin.Range.rangeSize ra rb rc), rawInt rc] }
  exact loopC_range (n := n) (L := L) (news := news) J hh hL hx hp (Walks.range hh s.heap.objs.size ra rc n) (by show IsRangeIter _ _ _ _ _; rw [hn]; exact Heap.get?_push_size _ rfl) (next_is_new F) (Nat.ne_of_lt F.ns.lt) F' (News.pushKeep N _) (fun p hp => Nat.ne_of_lt (Heap.lt_size (N p hp).1)) h0
    (fun i t m₁ nw oI h tk hi hc hJ ho F₁ N₁ => turn i t m₁ nw _ oI h tk hi hc hJ ho F₁ N₁) (fun m₁ nw h tk hJ F₁ N₁ => done m₁ nw h tk hJ F₁ N₁)
theorem callWithC_K {K : Frag} {f : Value} {first : List Value} {pos : Pos} {e : Expr} {rest : List Expr} {Q : Value → Shared → Prop} (hk : keepIn K f = true)
    (h : wpAny (model prog w) A (spliced (backTo pos (starEach (e :: rest) env))) (fun vs s₁ => K.In s₁.heap ∧ wpC (model prog w) A (call f (first ++ vs)) Q E s₁) E s)
    (he : starEach (e :: rest) env = (false, eval e env) :: starEach rest env := by rfl) (hplain : (backTo pos (starEach rest env)).any (·.1) = false := by rfl) :
    wpC (model prog w) A (callWith pos f first (backTo pos (starEach (e :: rest) env)) (backToKw pos (keywordEach [] env))) Q E s := by
  rw [he] at h ⊢
  exact callWithC_of (P := K.In) (by show ((false || (backTo pos (starEach rest env)).any (·.1)) || false) = false; rw [hplain]; rfl) (keeps_K hk) (Calls.evalArgs_plain h)
end
theorem m_form {m : Str → Option Value} {a : Str} {va : Value} (ha : m a = some va) : m = fun z => if z = a then some va else m z := by
  funext z
  by_cases h1 : z = a
  · subst h1; simp [ha]
  · simp [h1]
theorem news_off {h₀ h : Heap} {L : Addr} {news : List (Addr × Obj)} {a b : Addr} {oa ob : Obj} (N : News h₀ L h news) (ha : (a, oa) ∈ news) (hb : (b, ob) ∈ news) (hne : oa ≠ ob) : @Ne Nat a b := by
  rintro rfl
  have := (N _ ha).1
  rw [(N _ hb).1] at this
  exact hne (Option.some.inj this).symm
def lawD : { d : DefRec × List (Str × Expr) // defOf vw (Str.ofString "law") = some d } := ⟨(_, _), by exact rfl⟩
abbrev lawB : List Stmt := lawD.1.1.body
abbrev lawS : Scope := lawD.1.1.scope
abbrev lawE (L a : Addr) (cd : Value) : Env := envOfC (Str.ofString "law") lawS L a cd
/-- what loop 1 has kept: the fields whose octets stand, each with its octets -/
structure KeptIs (tail : List (Addr × Obj)) (ws : List Value) (fl : List (Fld × Array UInt8)) : Prop where
  len : ws.length = fl.length
  at_ : ∀ (i : Nat) (f : Fld) (x : Array UInt8), fl[i]? = some (f, x) → ∃ (V : Addr) (tk : Tok) (e : Nat) (v : Value), ws[i]? = some (Value.ref V) ∧ (V, tupF f.kind tk v e) ∈ tail ∧ WorthIn tail v f ∧ f.Ok ∧ f.enc = some x
def offs (fl : List (Fld × Array UInt8)) (i : Nat) : Nat := ((fl.take i).map fun p => p.2.size).sum
def datOf (fl : List (Fld × Array UInt8)) : Array UInt8 := (fl.map (·.2)).foldl (· ++ ·) #[]
theorem datOf_snoc (fl : List (Fld × Array UInt8)) (f : Fld) (x : Array UInt8) : datOf (fl ++ [(f, x)]) = datOf fl ++ x := by
  simp [datOf]
theorem worth_mono {n1 n2 : List (Addr × Obj)} {v : Value} {f : Fld} (h : WorthIn n1 v f) (hs : ∀ p ∈ n1, p ∈ n2) : WorthIn n2 v f := by
  cases h with
  | tag x t => exact .tag x t
  | rows hR hi => exact .rows (hs _ hR) hi
  | add b t => exact .add b t
  | num k n t => exact .num k n t
theorem KeptIs.nil {tail : List (Addr × Obj)} : KeptIs tail [] [] := ⟨rfl, fun i f x h => by simp at h⟩
theorem KeptIs.snoc {tail own : List (Addr × Obj)} {ws : List Value} {fl : List (Fld × Array UInt8)} {f : Fld} {x : Array UInt8} {V : Addr} {tk : Tok} {e : Nat} {v : Value} (h : KeptIs tail ws fl)
    (hV : (V, tupF f.kind tk v e) ∈ own) (hs : ∀ p ∈ tail, p ∈ own) (hW : WorthIn own v f) (hok : f.Ok) (hx : f.enc = some x) : KeptIs own (ws ++ [.ref V]) (fl ++ [(f, x)]) := by
  refine ⟨by simp [h.len], fun i g y hi => ?_⟩
  by_cases hlt : i < fl.length
  · rw [List.getElem?_append_left hlt] at hi
    obtain ⟨V', tk', e', v', h1, h2, h3, h4, h5⟩ := h.at_ i g y hi
    exact ⟨V', tk', e', v', by rw [List.getElem?_append_left (by rw [h.len]; exact hlt)]; exact h1, hs _ h2, worth_mono h3 hs, h4, h5⟩
  · rw [List.getElem?_append_right (by omega)] at hi
    have hz : i - fl.length = 0 := by
      have := (List.getElem?_eq_some_iff.mp hi).1
      simp at this; omega
    rw [hz] at hi
    cases hi
    exact ⟨V, tk, e, v, by rw [List.getElem?_append_right (by rw [h.len]; omega), h.len, hz]; rfl, hV, hW, hok, hx⟩
theorem enc_size {f : Fld} {x : Array UInt8} (hok : f.Ok) (h : f.enc = some x) : x.size ≤ 8 := by
  cases f with
  | tag y => have := (tag_back h).1; omega
  | rows ns => have := (rows_back h fun k hk => (hok.2 k hk).1).1; have : ns.length ≤ 4 := hok.1; omega
  | add b => obtain rfl : b = x := Option.some.inj h; have : b.size ≤ 4 := hok; omega
  | num K n => have := (num_back h).1; have := K.size_le; omega
def offL (fl : List (Fld × Array UInt8)) : List Int := (List.range fl.length).map fun i => (offs fl i : Int)
theorem datOf_size (fl : List (Fld × Array UInt8)) : (datOf fl).size = (fl.map fun p => p.2.size).sum := by
  have go : ∀ (l : List (Fld × Array UInt8)) (a : Array UInt8), ((l.map (·.2)).foldl (· ++ ·) a).size = a.size + (l.map fun p => p.2.size).sum := by
    intro l
    induction l with
    | nil => intro a; simp
    | cons p r ih => intro a; simp only [List.map_cons, List.foldl_cons, List.sum_cons]; rw [ih, Array.size_append]; omega
  show ((fl.map (·.2)).foldl (· ++ ·) #[]).size = _
  rw [go]; simp
theorem offs_snoc {fl : List (Fld × Array UInt8)} {q : Fld × Array UInt8} {i : Nat} (h : i ≤ fl.length) : offs (fl ++ [q]) i = offs fl i := by
  unfold offs; rw [List.take_append_of_le_length h]
theorem offs_all (fl : List (Fld × Array UInt8)) : offs fl fl.length = (datOf fl).size := by unfold offs; rw [List.take_length, datOf_size]
theorem offL_snoc (fl : List (Fld × Array UInt8)) (q : Fld × Array UInt8) : offL (fl ++ [q]) = offL fl ++ [((datOf fl).size : Int)] := by
  unfold offL
  rw [List.length_append, List.length_singleton, List.range_succ, List.map_append]
  refine congr (congrArg _ (List.map_congr_left fun i hi => ?_)) ?_
  · rw [offs_snoc (Nat.le_of_lt (List.mem_range.mp hi))]
  · show [((offs (fl ++ [q]) fl.length : Nat) : Int)] = _
    rw [offs_snoc (Nat.le_refl _), offs_all]
theorem datOf_le {fl : List (Fld × Array UInt8)} (h : ∀ p ∈ fl, p.2.size ≤ 8) : (datOf fl).size ≤ 8 * fl.length := by
  rw [datOf_size]
  induction fl with
  | nil => simp
  | cons p r ih => have := ih fun q hq => h q (.tail _ hq); have := h p (.head _); simp only [List.map_cons, List.sum_cons, List.length_cons]; omega
theorem dat_ints (fl : List (Fld × Array UInt8)) : KBw.bInts (datOf fl) = (fl.map fun p => KBw.bInts p.2).flatten := by
  have go : ∀ (l : List (Fld × Array UInt8)) (a : Array UInt8), KBw.bInts ((l.map (·.2)).foldl (· ++ ·) a) = KBw.bInts a ++ (l.map fun p => KBw.bInts p.2).flatten := by
    intro l
    induction l with
    | nil => intro a; simp
    | cons p r ih => intro a; simp only [List.map_cons, List.foldl_cons, List.flatten_cons]; rw [ih, KBw.ints_app rfl rfl, List.append_assoc]
  show KBw.bInts ((fl.map (·.2)).foldl (· ++ ·) #[]) = _
  rw [go]; rfl
theorem dat_at {fl : List (Fld × Array UInt8)} {i : Nat} {f : Fld} {x : Array UInt8} (h : fl[i]? = some (f, x)) :
    offs fl i + x.size ≤ (datOf fl).size ∧ offs fl (i + 1) = offs fl i + x.size ∧ ((KBw.bInts (datOf fl)).drop (offs fl i)).take x.size = KBw.bInts x := by
  have key : ∀ (l : List (Fld × Array UInt8)) (i : Nat), l[i]? = some (f, x) → ((l.take i).map fun p => p.2.size).sum + x.size ≤ (l.map fun p => p.2.size).sum ∧
      ((l.take (i + 1)).map fun p => p.2.size).sum = ((l.take i).map fun p => p.2.size).sum + x.size ∧ (((l.map fun p => KBw.bInts p.2).flatten).drop ((l.take i).map fun p => p.2.size).sum).take x.size = KBw.bInts x := by
    intro l
    induction l with
    | nil => intro i h; simp at h
    | cons p r ih =>
      intro i h
      cases i with
      | zero =>
        have hp : p = (f, x) := by simpa using h
        subst hp
        refine ⟨by simp, by simp, ?_⟩
        simp only [List.take_zero, List.map_nil, List.sum_nil, List.drop_zero, List.map_cons, List.flatten_cons]
        rw [List.take_append_of_le_length (by rw [KBw.ints_length]; exact Nat.le_refl _), List.take_of_length_le (by rw [KBw.ints_length]; exact Nat.le_refl _)]
      | succ i =>
        have h' : r[i]? = some (f, x) := by simpa using h
        obtain ⟨a, b, c⟩ := ih i h'
        refine ⟨by simp only [List.take_succ_cons, List.map_cons, List.sum_cons]; omega, by simp only [List.take_succ_cons, List.map_cons, List.sum_cons]; omega, ?_⟩
        simp only [List.take_succ_cons, List.map_cons, List.sum_cons, List.flatten_cons]
        rw [List.drop_append, show List.drop (p.2.size + _) (KBw.bInts p.2) = [] from List.drop_eq_nil_of_le (by rw [KBw.ints_length]; omega), List.nil_append, KBw.ints_length, Nat.add_sub_cancel_left]
        exact c
  obtain ⟨a, b, c⟩ := key fl i h
  rw [datOf_size, dat_ints]
  exact ⟨a, b, c⟩
abbrev outD (h1 : Int) (k1 : Tok) (BA : Addr) : Obj := dictOf [⟨h1, .str "made" k1, .ref BA⟩] 1
def NE (a b : Nat) : Prop := a ≠ b
theorem NE.to {a b : Nat} (h : NE a b) : a ≠ b := h
theorem NE.sym {a b : Nat} (h : NE a b) : b ≠ a := fun e => h e.symm
theorem NE.of {a b : Nat} (h : a ≠ b) : NE a b := h
def OffA (P C BA c1 c2 c3 : Addr) (l : List (Addr × Obj)) : Prop := ∀ p ∈ l, (NE p.1 P) ∧ (NE p.1 C) ∧ (NE p.1 BA) ∧ (NE p.1 c1) ∧ (NE p.1 c2) ∧ (NE p.1 c3)
structure Six (P C BA c1 c2 c3 O DO : Addr) : Prop where
  f1 : NE P C
  f2 : NE P BA
  f3 : NE P c1
  f4 : NE P c2
  f5 : NE P c3
  g2 : NE C BA
  g3 : NE C c1
  g4 : NE C c2
  g5 : NE C c3
  i3 : NE BA c1
  i4 : NE BA c2
  i5 : NE BA c3
  j1 : NE c1 c2
  j2 : NE c1 c3
  j3 : NE c2 c3
  o1 : (NE O P) ∧ (NE O C) ∧ (NE O BA) ∧ (NE O c1) ∧ (NE O c2) ∧ (NE O c3)
  o2 : (NE DO P) ∧ (NE DO C) ∧ (NE DO BA) ∧ (NE DO c1) ∧ (NE DO c2) ∧ (NE DO c3)
abbrev lawA (dp un L a : Nat) (ccd : Value) : Around := ktrTop dp un (some []) (Str.ofString "law") lawS L a ccd (cellsFrom (L + 1) lawS.names []) []
theorem off_I {I : Addr} {l : List (Addr × Obj)} (h : ∀ p ∈ l, p.1 ≠ I) : ∀ p ∈ l, NE p.1 I := h
theorem tup_off {h₀ h : Heap} {L P C BA V c1 c2 c3 : Addr} {oP oC o1 o2 o3 oV : Obj} {b : Array UInt8} {v1 v2 v3 : Option Value} {news : List (Addr × Obj)} {els : Array Value} {e : Nat} (N : News h₀ L h news) (hV : (V, oV) ∈ news) (hp : (P, oP) ∈ news) (hc : (C, oC) ∈ news) (hb : (BA, baO b) ∈ news)
    (h1 : (c1, o1) ∈ news) (h2 : (c2, o2) ∈ news) (h3 : (c3, o3) ∈ news) (hpen : Pen oP oC C) (d1 : o1.data = .cell v1) (d2 : o2.data = .cell v2) (d3 : o3.data = .cell v3) (eV : oV = { cls := .type "tuple", data := .seq els e }) :
    (NE V P) ∧ (NE V C) ∧ (NE V BA) ∧ (NE V c1) ∧ (NE V c2) ∧ (NE V c3) := by
  subst eV
  obtain ⟨n, d, t1, t2, e1, e2, vs, ns, rfl, rfl, hi, hz⟩ := hpen
  refine ⟨news_off N hV hp ?_, news_off N hV hc ?_, news_off N hV hb ?_, news_off N hV h1 ?_, news_off N hV h2 ?_, news_off N hV h3 ?_⟩
  · intro q; injection q with q; exact absurd q (by decide)
  · intro q; injection q with q; exact absurd q (by decide)
  · intro q; injection q with q; exact absurd q (by decide)
  · rintro rfl; cases d1
  · rintro rfl; cases d2
  · rintro rfl; cases d3
theorem news_own {h₀ h : Heap} {L : Addr} {x y z : Addr × Obj} {own pre tail : List (Addr × Obj)} (N : News h₀ L h (x :: y :: z :: (own ++ (pre ++ tail)))) : News h₀ L h (x :: y :: z :: (pre ++ (own ++ tail))) :=
  news_sub N (sub_cons (.head _) (sub_cons (.tail _ (.head _)) (sub_cons (.tail _ (.tail _ (.head _))) fun p hp => .tail _ (.tail _ (.tail _ (by
    rcases List.mem_append.mp hp with hp | hp
    · exact List.mem_append.mpr (.inr (List.mem_append.mpr (.inl hp)))
    rcases List.mem_append.mp hp with hp | hp
    · exact List.mem_append.mpr (.inl hp)
    · exact List.mem_append.mpr (.inr (List.mem_append.mpr (.inr hp)))))))))
theorem four_form {m : Str → Option Value} {a b c d : Str} {va vb vc vd : Value} (ha : m a = some va) (hb : m b = some vb) (hc : m c = some vc) (hd : m d = some vd) :
    m = fun z => if z = a then some va else if z = b then some vb else if z = c then some vc else if z = d then some vd else m z := by
  funext z
  by_cases h1 : z = a
  · subst h1; simp [ha]
  by_cases h2 : z = b
  · subst h2; simp [h1, hb]
  by_cases h3 : z = c
  · subst h3; simp [h1, h2, hc]
  by_cases h4 : z = d
  · subst h4; simp [h1, h2, h3, hd]
  · simp [h1, h2, h3, h4]
def OrB (Q : Value → Shared → Prop) (v : Value) (s₁ : Shared) : Prop := (v = .none ∧ ∀ t tk, Q (.bytes #[] t) { s₁ with toks := tk }) ∨ ∃ x t, v = .bytes x t ∧ x.size ≤ 1000 ∧ ∀ t' tk, Q (.bytes x t') { s₁ with toks := tk }
theorem OrB.nil {Q : Value → Shared → Prop} {s₁ : Shared} (h : ∀ t tk, Q (.bytes #[] t) { s₁ with toks := tk }) : OrB Q .none s₁ := .inl ⟨rfl, h⟩
theorem OrB.has {Q : Value → Shared → Prop} {s₁ : Shared} {x : Array UInt8} {t : Tok} (hz : x.size ≤ 1000) (h : ∀ t' tk, Q (.bytes x t') { s₁ with toks := tk }) : OrB Q (.bytes x t) s₁ := .inr ⟨x, t, rfl, hz, h⟩
theorem or_b {prog : Program} {w : World} {A : Around} {E : Value → Shared → Prop} {s : Shared} {env : Env} {e : Expr} {k : Nat} {p2 pos : Pos} {Q : Value → Shared → Prop}
    (h : wpAny (model prog w) A (eval e env) (OrB Q) E s) :
    wpAny (model prog w) A (eval (.BoolOp .Or [e, .Constant (.bytes []) k p2] pos) env) Q E s := by
  refine BoolOp_or (wpAny_mono h (fun v s₁ h₁ => ?_) fun _ _ x => x)
  rcases h₁ with ⟨rfl, hq⟩ | ⟨x, t, rfl, hz, hq⟩
  · refine truthy_none ?_
    rw [if_neg (by decide)]
    refine BoolOp_one ?_
    intro _ _ _
    exact hq _ _
  refine KBw.truthy_K (ks := KBw.bInts x) rfl (by rw [KBw.ints_length]; omega) ?_
  by_cases hx : 0 < x.size
  · rw [KBw.ints_length, if_pos (decide_eq_true hx)]
    exact hq _ _
  · rw [KBw.ints_length, if_neg (by simpa using Nat.le_of_not_lt hx)]
    obtain rfl : x = #[] := Array.eq_empty_of_size_eq_zero (by omega)
    refine BoolOp_one ?_
    intro _ _ _
    exact hq _ _
theorem fr_four {h₀ h : Heap} {L : Addr} {m : Str → Option Value} {a b c d : Str} {va vb vc vd : Value} (F : Fr h₀ L h m) (ha : m a = some va) (hb : m b = some vb) (hc : m c = some vc) (hd : m d = some vd) :
    Fr h₀ L h (fun z => if z = a then some va else if z = b then some vb else if z = c then some vc else if z = d then some vd else m z) := by
  have := four_form ha hb hc hd
  rw [← this]; exact F
theorem fr_ref {h₀ h : Heap} {L : Addr} {m : Str → Option Value} (x : Str) {K : Addr} (_ : Fr h₀ L h m) (_ : m x = some (.ref K)) : ∃ K', K' = K := ⟨K, rfl⟩
theorem news_ob {h₀ h : Heap} {L : Addr} {news : List (Addr × Obj)} (c : Addr) {o : Obj} (_ : News h₀ L h news) (_ : (c, o) ∈ news) : ∃ o', o' = o := ⟨o, rfl⟩
theorem news_nw {h₀ h : Heap} {L : Addr} {x v : Addr × Obj} {nw pre tail : List (Addr × Obj)} (N : News h₀ L h (x :: nw ++ (pre ++ tail))) (hv : v ∈ tail) : News h₀ L h (x :: v :: (pre ++ (nw ++ tail))) := by
  refine news_sub N (sub_cons (.head _) (sub_cons ?_ fun p hp => ?_))
  · exact List.mem_append.mpr (.inr (List.mem_append.mpr (.inr hv)))
  rcases List.mem_append.mp hp with hp | hp
  · exact List.mem_append.mpr (.inr (List.mem_append.mpr (.inl hp)))
  rcases List.mem_append.mp hp with hp | hp
  · exact List.mem_append.mpr (.inl (.tail _ hp))
  · exact List.mem_append.mpr (.inr (List.mem_append.mpr (.inr hp)))
theorem news_nw2 {h₀ h : Heap} {L : Addr} {x v : Addr × Obj} {nw pre tail : List (Addr × Obj)} (N : News h₀ L h (x :: nw ++ (pre ++ tail))) (hv : v ∈ pre) : News h₀ L h (x :: v :: (pre ++ (nw ++ tail))) := by
  refine news_sub N (sub_cons (.head _) (sub_cons ?_ fun p hp => ?_))
  · exact List.mem_append.mpr (.inr (List.mem_append.mpr (.inl hv)))
  rcases List.mem_append.mp hp with hp | hp
  · exact List.mem_append.mpr (.inr (List.mem_append.mpr (.inl hp)))
  rcases List.mem_append.mp hp with hp | hp
  · exact List.mem_append.mpr (.inl (.tail _ hp))
  · exact List.mem_append.mpr (.inr (List.mem_append.mpr (.inr hp)))
theorem zs34 : True := by w_top off; trivial
theorem getD_at {ks : List Int} {n : Nat} (h : n < ks.length) : ks.getD n 0 = ks[n] := by simp [List.getD, h]
theorem sum_be {ksd : List Int} {z : Int} {c : Nat} (hc : c = 2 ∨ c = 4) (h0 : 0 ≤ z) (h1 : z + c ≤ ksd.length) (hr : ∀ k ∈ ksd, 0 ≤ k ∧ k < 256) :
    (List.map (fun k' => if 0 ≤ ksd.getD (z + k').toNat 0 ∧ ksd.getD (z + k').toNat 0 < 256 then ksd.getD (z + k').toNat 0 * 256 ^ ((c : Int) - 1 - k').toNat else k') (rangeKs 0 ((c : Int) - 0).toNat)).sum = beI ((ksd.drop z.toNat).take c) := by
  obtain ⟨n, rfl⟩ := Int.eq_ofNat_of_zero_le h0
  have key : ∀ j : Nat, j < c → (if 0 ≤ ksd.getD ((n : Int) + j).toNat 0 ∧ ksd.getD ((n : Int) + j).toNat 0 < 256 then ksd.getD ((n : Int) + j).toNat 0 * 256 ^ ((c : Int) - 1 - j).toNat else (j : Int)) = ksd.getD (n + j) 0 * 256 ^ (c - 1 - j) := fun j hj => by
    have e1 : ((n : Int) + j).toNat = n + j := rfl
    have e2 : ((c : Int) - 1 - j).toNat = c - 1 - j := toNat_sub2 c j
    have hlt : n + j < ksd.length := by omega
    rw [e1, e2, getD_at hlt, if_pos (hr _ (List.getElem_mem hlt))]
  have tk : (ksd.drop n).take c = (List.range c).map fun j => ksd.getD (n + j) 0 := by
    refine List.ext_getElem (by simp; omega) fun j h2 h3 => ?_
    have hj : j < c := by simpa using h3
    rw [List.getElem_take, List.getElem_drop, List.getElem_map, List.getElem_range, getD_at (by omega)]
  have en : ((n : Nat) : Int).toNat = n := rfl
  rw [en, tk]
  have lhs : List.map (fun k' : Int => if 0 ≤ ksd.getD ((n : Int) + k').toNat 0 ∧ ksd.getD ((n : Int) + k').toNat 0 < 256 then ksd.getD ((n : Int) + k').toNat 0 * 256 ^ ((c : Int) - 1 - k').toNat else k') (rangeKs 0 ((c : Int) - 0).toNat) = (List.range c).map fun j => ksd.getD (n + j) 0 * 256 ^ (c - 1 - j) := by
    unfold rangeKs
    rw [List.map_map, show ((c : Int) - 0).toNat = c by rw [Int.sub_zero]; rfl]
    refine List.map_congr_left fun j hj => ?_
    have := key j (List.mem_range.mp hj)
    show (if 0 ≤ ksd.getD ((n : Int) + (0 + (j : Int))).toNat 0 ∧ ksd.getD ((n : Int) + (0 + (j : Int))).toNat 0 < 256 then ksd.getD ((n : Int) + (0 + (j : Int))).toNat 0 * 256 ^ ((c : Int) - 1 - (0 + (j : Int))).toNat else (0 + (j : Int))) = _
    rw [Int.zero_add]
    exact this
  rw [lhs]
  generalize hg : (fun j : Nat => ksd.getD (n + j) 0) = g
  have eg : ∀ j, ksd.getD (n + j) 0 = g j := fun j => by rw [← hg]
  simp only [eg]
  rcases hc with rfl | rfl
  · show (g 0 * 256 + (g 1 * 1 + 0) : Int) = 256 * (256 * 0 + g 0) + g 1
    omega
  · show (g 0 * 16777216 + (g 1 * 65536 + (g 2 * 256 + (g 3 * 1 + 0))) : Int) = 256 * (256 * (256 * (256 * 0 + g 0) + g 1) + g 2) + g 3
    omega
theorem tup_ne {prog : Program} {w : World} {A : Around} {E : Value → Shared → Prop} {s : Shared} {V D : Addr} {a b a' b' : Value} {e e' : Nat} {Q : Value → Shared → Prop} (hV : s.heap.get? V = some (tup2 a b e)) (hD : s.heap.get? D = some (tup2 a' b' e'))
    (h1 : SeqAt.EqAt A.in1 s a a' true) (h2 : SeqAt.EqAt A.in1 s b b' true) (hu : A.units < cLine) (h : Q (.bool false) s) : wpAny (model prog w) A (compareOp .NotEq (.ref V) (.ref D)) Q E s := by
  refine SeqAt.RcNeAt.tuples (items := #[a, b]) (items2 := #[a', b']) (e := fun _ => true) ⟨_, hV, rfl, _, rfl⟩ ⟨_, hD, rfl, _, rfl⟩ hu (fun j j1 j2 => ?_) prog w E Q h
  match j, j1 with
  | 0, _ => exact h1
  | 1, _ => exact h2
theorem at_c {w : World} {mean : ExcName → Option Value} {mg mb : Str → Option Value} {dp un : Nat} {gd : Option (List Code)} {cn : Str} {cs : Scope} {a : Addr} {ccd : Value} {cl : List (Str × Addr)} {A₀ : Around} {base h₀ : Heap} {L : Addr} {m : Str → Option Value} {s : Shared} {Q E : Value → Shared → Prop}
    {b : Array UInt8} {at_ : Int} {tb ta : Tok} {news : List (Addr × Obj)} {ks : List Int} {c : Nat} {dd : Addr} (hcd : (c = 2 ∧ dd = 77) ∨ (c = 4 ∧ dd = 84))
    (B : Below A₀ base [] h₀) (F : Fr h₀ L s.heap m) (X : (hd.heap_1 w.params).In h₀) (N : News h₀ L s.heap news)
    (T : Top vw (looseW vw [Str.ofString "ShapeError"]) mean mg mb h₀) (XB : (hd.heap_1 w.params).In base) (TB : Top vw (looseW vw [Str.ofString "ShapeError"]) mean mg mb base) (hk : cs.kind = .function)
    (hbi : KBw.bInts b = ks) (hb : b.size ≤ 1000) (hdp : dp < 490) (hun : un < 4500)
    (ok : 0 ≤ at_ → at_ + c ≤ b.size → ∀ V e t t' h' tk', Fr h₀ L h' m → News h₀ L h' ((V, tup2 (.int (beI ((ks.drop at_.toNat).take c)) t) (.int (-2) t') e) :: news) → Q (.ref V) { s with heap := h', toks := tk' })
    (no : (at_ < 0 ∨ (b.size : Int) < at_ + c) → ∀ V e t h' tk', Fr h₀ L h' m → News h₀ L h' ((V, tup2 .none (.int at_ t) e) :: news) → Q (.ref V) { s with heap := h', toks := tk' }) :
    wpAny (model Challenge.pw_nz0115_01 w) (ktrTop dp un gd cn cs L a ccd cl []) (call (.ref 319) [.ref dd, .bytes b tb, .int at_ ta]) Q E s := by
  rcases hcd with ⟨rfl, rfl⟩ | ⟨rfl, rfl⟩
  · exact at16_c B F X N T XB TB hk hbi hb hdp hun ok no
  · exact at32_c B F X N T XB TB hk hbi hb hdp hun ok no
theorem news_rest4 {h₀ h : Heap} {L : Addr} {x1 x2 x3 x4 : Addr × Obj} {r : List (Addr × Obj)} (_ : News h₀ L h (x1 :: x2 :: x3 :: x4 :: r)) : ∃ r', r' = [x1, x2, x3, x4] := ⟨_, rfl⟩
theorem fr_one {h₀ h : Heap} {L : Addr} {m : Str → Option Value} {a : Str} {va : Value} (F : Fr h₀ L h m) (ha : m a = some va) : Fr h₀ L h (fun z => if z = a then some va else m z) := by
  rw [← m_form ha]; exact F
theorem news_rest7 {h₀ h : Heap} {L : Addr} {x1 x2 x3 x4 y1 y2 y3 : Addr × Obj} {r : List (Addr × Obj)} (_ : News h₀ L h (x1 :: y1 :: y2 :: y3 :: x2 :: x3 :: x4 :: r)) : ∃ r', r' = [x1, x2, x3, x4] := ⟨_, rfl⟩
theorem news_pen {h₀ h : Heap} {L P C : Addr} {n d : Int} {t1 t2 : Tok} {e : Nat} {news : List (Addr × Obj)} (_ : News h₀ L h news) (_ : (P, listOf #[.ref C, .int n t1, .int d t2] e) ∈ news) : ∃ C', C' = C := ⟨C, rfl⟩
theorem fr_heap {h₀ h : Heap} {L : Addr} {m : Str → Option Value} (_ : Fr h₀ L h m) : ∃ h', h' = h := ⟨h, rfl⟩
theorem zs35 : True := by w_top off; trivial
end Z45
end Z44
end Z43
end Z42
theorem zr16 {p : Program} {w : World} {A : Around} {e : Env} {Q : Flow → Shared → Prop} {E : Value → Shared → Prop} {s : Shared} (h : wpAny (model p w) A (execs [] e) Q E s) : wpAny (model p w) A (execs [] e) Q E s := by
  w_top off
  first | (walk1; fail) | exact h
section Z46
local macro_rules | `(tactic| walk_at $s) => lines s [
  ("call ref", cl 283 "draw_u" "aaaaaeHnnqqAARS_" 11)]
section Z47
local macro_rules | `(tactic| walk_at $s) => lines s [
  ("call ref", stops [295, 300, 257, 264, 312, 319])]
section Z48
local macro_rules | `(tactic| k_ne) => neT
local macro_rules | `(tactic| ktr_room) => rmT ["lawA"]
local macro_rules | `(tactic| k_all) => alt [allT, ex "List.forall_mem_nil _", fill "all_cons" "NA"]
section Z49
local macro_rules | `(tactic| walk_at $s) => lines s [
  ("eval BoolOp", here (sq (shA "eval (Expr.BoolOp BoolOp.Or (List.cons (Expr.Name _ _) (List.cons (Expr.Constant (Const.bytes List.nil) _ _) List.nil)) _) _") (dfl (rf "or_b ?_")))),
  ("binaryOp Add bytes bytes", here (sq (shA "binaryOp _ (Value.bytes _ _) (Value.bytes _ _)") (sq (fill "KBy.add_bytes" "B_") (ins 2))))]
section Z50
local macro_rules | `(tactic| walk_at $s) => lines s [
  ("binaryOp Add ref ref", here (sq (shA "binaryOp _ (Value.ref _) (Value.ref _)") (sq (dfl (fill "m_add" "aammz_")) (sq (ins 5) swp))))]
/-- what stands at the head of a turn of the first loop -/
inductive Inv1 (h1 : Int) (k1 : Tok) (P C O DO BA : Addr) (L : Nat) (o2 o3 : Obj) (i : Nat) : (Str → Option Value) → List (Addr × Obj) → Prop
  | mk {oP oC o1 : Obj} {K PL : Addr} {eK eP : Nat} {ws ps : List Value} {fl : List (Fld × Array UInt8)} {tail : List (Addr × Obj)} {td : Tok} {mr : Str → Option Value} :
      Pen oP oC C → o1.data = .cell (some (.bytes (datOf fl) td)) → OffA P C BA (L + 1) (L + 1 + 1) (L + 1 + 1 + 1) ((K, listOf ws.toArray eK) :: (PL, listOf ps.toArray eP) :: tail) → KeptIs tail ws fl → IntsAre ps (offL fl) → fl.length ≤ i → (∀ p ∈ fl, p.2.size ≤ 8) →
      Inv1 h1 k1 P C O DO BA L o2 o3 i (fun y => if y = Str.ofString "pen" then some (.ref P) else if y = Str.ofString "out" then some (.ref O) else if y = Str.ofString "kept" then some (.ref K) else if y = Str.ofString "places" then some (.ref PL) else mr y)
        ((P, oP) :: (C, oC) :: (L + 1 + 1 + 1, o3) :: (L + 1 + 1, o2) :: (L + 1, o1) :: (O, instObj 267 DO) :: (DO, outD h1 k1 BA) :: (BA, baO (datOf fl)) :: (K, listOf ws.toArray eK) :: (PL, listOf ps.toArray eP) :: tail)
theorem Inv1.of {h1 : Int} {k1 : Tok} {P C O DO BA : Addr} {L : Nat} {o2 o3 : Obj} {i : Nat} {m₁ : Str → Option Value} {oP oC o1 : Obj} {K PL : Addr} {eK eP : Nat} {ws ps : List Value} {fl : List (Fld × Array UInt8)} {tail nn : List (Addr × Obj)} {td : Tok} {h₀ h : Heap}
    (_ : News h₀ L h nn) (_ : (L + 1, o1) ∈ nn) (a : m₁ (Str.ofString "pen") = some (.ref P)) (b : m₁ (Str.ofString "out") = some (.ref O)) (c : m₁ (Str.ofString "kept") = some (.ref K)) (d : m₁ (Str.ofString "places") = some (.ref PL))
    (g1 : Pen oP oC C) (g2 : o1.data = .cell (some (.bytes (datOf fl) td))) (g3 : OffA P C BA (L + 1) (L + 1 + 1) (L + 1 + 1 + 1) ((K, listOf ws.toArray eK) :: (PL, listOf ps.toArray eP) :: tail)) (g4 : KeptIs tail ws fl) (g5 : IntsAre ps (offL fl)) (g6 : fl.length ≤ i) (g7 : ∀ p ∈ fl, p.2.size ≤ 8) :
    Inv1 h1 k1 P C O DO BA L o2 o3 i m₁ ((P, oP) :: (C, oC) :: (L + 1 + 1 + 1, o3) :: (L + 1 + 1, o2) :: (L + 1, o1) :: (O, instObj 267 DO) :: (DO, outD h1 k1 BA) :: (BA, baO (datOf fl)) :: (K, listOf ws.toArray eK) :: (PL, listOf ps.toArray eP) :: tail) := by
  rw [four_form a b c d]
  exact .mk g1 g2 g3 g4 g5 g6 g7
set_option maxHeartbeats 8000000 in
theorem loop1 {w : World} {mean : ExcName → Option Value} {mg mb : Str → Option Value} {dp un : Nat} {a : Addr} {ccd : Value} {A₀ : Around} {base h₀ : Heap} {L : Addr} {mr : Str → Option Value} {s : Shared} {Q : Flow → Shared → Prop} {E : Value → Shared → Prop}
    {P C O DO BA K PL : Addr} {oP oC o1 o2 o3 : Obj} {h1 : Int} {k1 td : Tok} {eK eP : Nat}
    (B : Below A₀ base [] h₀) (F : Fr h₀ L s.heap (fun y => if y = Str.ofString "pen" then some (.ref P) else if y = Str.ofString "out" then some (.ref O) else if y = Str.ofString "kept" then some (.ref K) else if y = Str.ofString "places" then some (.ref PL) else mr y))
    (X : (hd.heap_1 w.params).In h₀)
    (N : News h₀ L s.heap ((L + 1 + 1 + 1, o3) :: (L + 1 + 1, o2) :: (L + 1, o1) :: (P, oP) :: (C, oC) :: (O, instObj 267 DO) :: (DO, outD h1 k1 BA) :: (BA, baO #[]) :: (K, listOf ([] : List Value).toArray eK) :: (PL, listOf ([] : List Value).toArray eP) :: []))
    (T : Top vw (looseW vw [Str.ofString "ShapeError"]) mean mg mb h₀) (XB : (hd.heap_1 w.params).In base) (TB : Top vw (looseW vw [Str.ofString "ShapeError"]) mean mg mb base)
    (hpen : Pen oP oC C) (d1 : o1.data = .cell (some (.bytes #[] td))) (v2 v3 : Option Value) (d2 : o2.data = .cell v2) (d3 : o3.data = .cell v3) (x6 : Six P C BA (L + 1) (L + 1 + 1) (L + 1 + 1 + 1) O DO) (hoff : OffA P C BA (L + 1) (L + 1 + 1) (L + 1 + 1 + 1) [(K, listOf ([] : List Value).toArray eK), (PL, listOf ([] : List Value).toArray eP)])
    (hdp : dp < 480) (hun : un < 4400)
    (next : ∀ (oP oC o1 : Obj) (K PL : Addr) (eK eP : Nat) (ws ps : List Value) (fl : List (Fld × Array UInt8)) (tail : List (Addr × Obj)) (td : Tok) (mr : Str → Option Value) (h : Heap) (tk : Nat),
      Fr h₀ L h (fun y => if y = Str.ofString "pen" then some (.ref P) else if y = Str.ofString "out" then some (.ref O) else if y = Str.ofString "kept" then some (.ref K) else if y = Str.ofString "places" then some (.ref PL) else mr y) →
      News h₀ L h ((P, oP) :: (C, oC) :: (L + 1 + 1 + 1, o3) :: (L + 1 + 1, o2) :: (L + 1, o1) :: (O, instObj 267 DO) :: (DO, outD h1 k1 BA) :: (BA, baO (datOf fl)) :: (K, listOf ws.toArray eK) :: (PL, listOf ps.toArray eP) :: tail) →
      Pen oP oC C → o1.data = .cell (some (.bytes (datOf fl) td)) → OffA P C BA (L + 1) (L + 1 + 1) (L + 1 + 1 + 1) ((K, listOf ws.toArray eK) :: (PL, listOf ps.toArray eP) :: tail) → KeptIs tail ws fl → IntsAre ps (offL fl) → fl.length ≤ 12 → (∀ p ∈ fl, p.2.size ≤ 8) →
      wpC (model Challenge.pw_nz0115_01 w) (lawA dp un L a ccd) (execs (lawB.drop 3) (lawE L a ccd)) Q E { s with heap := h, toks := tk }) :
    wpC (model Challenge.pw_nz0115_01 w) (lawA dp un L a ccd) (execs (lawB.drop 2) (lawE L a ccd)) Q E s := by
  obtain ⟨f1, f2, f3, f4, f5, g2, g3, g4, g5, i3, i4, i5, j1, j2, j3, qq, rr⟩ := x6
  have q1 := qq.1
  have q2 := qq.2.1
  have q3 := qq.2.2.1
  have q4 := qq.2.2.2.1
  have q5 := qq.2.2.2.2.1
  have q6 := qq.2.2.2.2.2
  have r1 := rr.1
  have r2 := rr.2.1
  have r3 := rr.2.2.1
  have r4 := rr.2.2.2.1
  have r5 := rr.2.2.2.2.1
  have r6 := rr.2.2.2.2.2
  have hPC : @Ne Nat P C := f1
  have hK := hoff _ (.head _)
  have hPL := hoff _ (.tail _ (.head _))
  have y1 : NE K P := hK.1
  have y2 : NE K C := hK.2.1
  have y3 : NE K BA := hK.2.2.1
  have y4 : NE K (L + 1) := hK.2.2.2.1
  have y5 : NE K (L + 1 + 1) := hK.2.2.2.2.1
  have y6 : NE K (L + 1 + 1 + 1) := hK.2.2.2.2.2
  have z1 : NE PL P := hPL.1
  have z2 : NE PL C := hPL.2.1
  have z3 : NE PL BA := hPL.2.2.1
  have z4 : NE PL (L + 1) := hPL.2.2.2.1
  have z5 : NE PL (L + 1 + 1) := hPL.2.2.2.2.1
  have z6 : NE PL (L + 1 + 1 + 1) := hPL.2.2.2.2.2
  dsimp only [lawB, lawS, lawE, lawD, List.drop]
  refine execsC_cons (forC_gen ?_)
  k_steps
  rename (0 : Int) ≤ _ => hr0
  rename (_ : Int) < 12 => hr1
  rename IsRange _ _ _ _ _ _ _ _ => hrg
  rename News _ _ _ (_ :: _ :: _) => NN
  obtain ⟨c, hc⟩ := Int.eq_ofNat_of_zero_le hr0
  refine' rangeC_at (n := 1 + c) (Inv1 h1 k1 P C O DO BA L o2 o3)
      rfl rfl rfl rfl ?kF ?kN ?kr ?ks ?kn ?k0 ?kt ?kd
  case kF => k_asm
  case kN => exact NN
  case kr => assumption
  case ks => exact small_one (by omega) (by omega) (by omega) (by omega)
  case kn => rw [rangeSize_nat]; omega
  case k0 => exact .mk (fl := []) (by assumption) d1 hoff KeptIs.nil .nil (Nat.le_refl _) (fun _ h => nomatch h)
  case kt =>
    intro i t m₁ nw I oI h tk hi hcl hJ hI F1 N1
    cases hJ with | @mk oP oC o1 K PL eK eP ws ps fl tail td mr hpen d1 hoff hkept hps hfl h8 =>
    have hd8 := datOf_le h8
    have hI := off_I hI
    have n1 : NE P I := hI (_, _) mm0
    have n2 : NE C I := hI (_, _) mm1
    have n3 : NE (L + 1 + 1 + 1) I := hI (_, _) mm2
    have n4 : NE (L + 1 + 1) I := hI (_, _) mm3
    have n5 : NE (L + 1) I := hI (_, _) mm4
    have n6 : NE O I := hI (_, _) mm5
    have n7 : NE DO I := hI (_, _) mm6
    have n8 : NE BA I := hI (_, _) mm7
    have n9 : NE K I := hI (_, _) mm8
    have n10 : NE PL I := hI (_, _) mm9
    have nT : ∀ p ∈ tail, NE p.1 I := fun p hp => hI p (.tail _ (.tail _ (.tail _ (.tail _ (.tail _ (.tail _ (.tail _ (.tail _ (.tail _ (.tail _ hp))))))))))
    have hK := hoff (_, _) mm0
    have hPL := hoff (_, _) mm1
    have y1 : NE K P := hK.1
    have y2 : NE K C := hK.2.1
    have y3 : NE K BA := hK.2.2.1
    have y4 : NE K (L + 1) := hK.2.2.2.1
    have y5 : NE K (L + 1 + 1) := hK.2.2.2.2.1
    have y6 : NE K (L + 1 + 1 + 1) := hK.2.2.2.2.2
    have z1 : NE PL P := hPL.1
    have z2 : NE PL C := hPL.2.1
    have z3 : NE PL BA := hPL.2.2.1
    have z4 : NE PL (L + 1) := hPL.2.2.2.1
    have z5 : NE PL (L + 1 + 1) := hPL.2.2.2.2.1
    have z6 : NE PL (L + 1 + 1 + 1) := hPL.2.2.2.2.2
    have hT : ∀ p ∈ tail, (NE p.1 P) ∧ (NE p.1 C) ∧ (NE p.1 BA) ∧ (NE p.1 (L + 1)) ∧ (NE p.1 (L + 1 + 1)) ∧ (NE p.1 (L + 1 + 1 + 1)) := fun p hp => hoff p (.tail _ (.tail _ hp))
    clear hK hPL hI
    have tP : ∀ p ∈ tail, p.1 ≠ P := fun p hp => (hT p hp).1
    have tC : ∀ p ∈ tail, p.1 ≠ C := fun p hp => (hT p hp).2.1
    refine execsC_cons (wpC_of ?_)
    k_steps
    unfold Stop
    rename News _ _ _ _ => NN
    refine' field_c (rest := (I, oI) :: (L + 1 + 1 + 1, o3) :: (L + 1 + 1, o2) :: (L + 1, o1) :: (O, instObj 267 DO) :: (DO, outD h1 k1 BA) :: (BA, baO (datOf fl)) :: (K, listOf ws.toArray eK) :: (PL, listOf ps.toArray eP) :: tail) ?p1 ?p2 ?p3 ?p4 ?p5 ?p6 hpen hPC ?p7 ?p8 ?p9 ?p10 ?ret
    case p1 => assumption
    case p2 => k_asm
    case p3 => k_asm
    case p4 => exact news_sub NN (by ktr_rel)
    case p5 => k_asm
    case p6 => rfl
    case p7 => k_all
    case p8 => k_all
    case p9 => ktr_room
    case p10 => ktr_units
    intro f v V e tk2 own h' tk' oP2 oC2 hok hW hown hpen2 F2 N2
    have N3 : News h₀ L h' ((V, tupF f.kind tk2 v e) :: (P, oP2) :: (C, oC2) :: (I, oI) :: (L + 1 + 1 + 1, o3) :: (L + 1 + 1, o2) :: (L + 1, o1) :: (O, instObj 267 DO) :: (DO, outD h1 k1 BA) :: (BA, baO (datOf fl)) :: (K, listOf ws.toArray eK) :: (PL, listOf ps.toArray eP) :: (own ++ tail)) :=
      news_own (pre := [(I, oI), (L + 1 + 1 + 1, o3), (L + 1 + 1, o2), (L + 1, o1), (O, instObj 267 DO), (DO, outD h1 k1 BA), (BA, baO (datOf fl)), (K, listOf ws.toArray eK), (PL, listOf ps.toArray eP)]) N2
    clear N2
    obtain ⟨tl2, htl⟩ : ∃ t, t = own ++ tail := ⟨_, rfl⟩
    rw [← htl] at N3
    have hs1 : ∀ p ∈ own, p ∈ tl2 := fun p hp => by rw [htl]; exact List.mem_append_left _ hp
    have hs2 : ∀ p ∈ tail, p ∈ tl2 := fun p hp => by rw [htl]; exact List.mem_append_right _ hp
    have nI : ∀ p ∈ own, NE p.1 I := fun p hp => Ne.symm ((hown p hp).2.2 (I, oI) (by k_mem))
    have nT2 : ∀ p ∈ tl2, NE p.1 I := fun p hp => by rw [htl] at hp; exact (List.mem_append.mp hp).elim (nI p) (nT p)
    have hT2 : ∀ p ∈ tl2, (NE p.1 P) ∧ (NE p.1 C) ∧ (NE p.1 BA) ∧ (NE p.1 (L + 1)) ∧ (NE p.1 (L + 1 + 1)) ∧ (NE p.1 (L + 1 + 1 + 1)) := fun p hp => by
      rw [htl] at hp
      rcases List.mem_append.mp hp with hp | hp
      · obtain ⟨a1, a2, a3⟩ := hown p hp
        exact ⟨a1, a2, Ne.symm (a3 (BA, baO (datOf fl)) (by k_mem)), Ne.symm (a3 (L + 1, o1) (by k_mem)), Ne.symm (a3 (L + 1 + 1, o2) (by k_mem)), Ne.symm (a3 (L + 1 + 1 + 1, o3) (by k_mem))⟩
      · exact hT p hp
    have hW2 : WorthIn tl2 v f := worth_mono hW hs1
    have vv := tup_off N3 (.head _) (by k_mem) (by k_mem) (by k_mem) (by k_mem) (by k_mem) (by k_mem) hpen2 d1 d2 d3 rfl
    have vv1 := vv.1
    have vv2 := vv.2.1
    have vv3 := vv.2.2.1
    have vv4 := vv.2.2.2.1
    have vv5 := vv.2.2.2.2.1
    have vv6 := vv.2.2.2.2.2
    clear vv
    have vI : NE V I := news_off N3 (.head _) (by k_mem) (by rintro rfl; injection hcl with q; exact absurd q (by decide))
    clear nI hown htl hW hs1
    k_steps
    refine execsC_cons (wpC_of ?_)
    k_steps
    unfold Stop
    rename News _ _ _ _ => NN2
    refine' octets_c (V := V) (f := f) (v := v) (tk := tk2) (e := e) ?oa1 ?oa2 ?oa3 NN2 ?oa4 ?oa5 (by k_mem) ?oa6 hok ?oa7 ?oa8 ?reta
    case oa1 => assumption
    case oa2 => k_asm
    case oa3 => k_asm
    case oa4 => k_asm
    case oa5 => rfl
    case oa6 => exact worth_mono hW2 (by ktr_rel)
    case oa7 => ktr_room
    case oa8 => ktr_units
    intro r h' tk' hr F3 N4
    k_steps
    have tB : ∀ p ∈ tl2, p.1 ≠ BA := fun p hp => (hT2 p hp).2.2.1
    have tc1 : ∀ p ∈ tl2, p.1 ≠ L + 1 := fun p hp => (hT2 p hp).2.2.2.1
    cases hx : f.enc with
    | none =>
      unfold EncIs at hr
      rw [hx] at hr
      dsimp only at hr
      subst hr
      refine execsC_cons (ifC (boolopC (orC (cmpC (nameCallC ?_)))))
      k_steps
      refine callWithC_K (K := hd.heap_1 w.params) (by k_is) ?_
      k_steps
      rename News _ _ _ _ => NN3
      refine' put_c (V := V) (f := f) (v := v) (tk := tk2) (e := e) (b0 := datOf fl) (news := (V, tupF f.kind tk2 v e) :: (I, oI) :: (P, oP2) :: (C, oC2) :: (L + 1 + 1 + 1, o3) :: (L + 1 + 1, o2) :: (L + 1, o1) :: (K, listOf ws.toArray eK) :: (PL, listOf ps.toArray eP) :: tl2) ?pb1 ?pb2 ?pb3 ?pb4 ?pb5 XB TB rfl q3.to r3.to ?pb6 (.head _) ?pb7 hok ?pb8 ?pb9 ?pb10 ?retb
      case pb1 => assumption
      case pb2 => k_asm
      case pb3 => k_asm
      case pb4 => exact news_sub NN3 (by ktr_rel)
      case pb5 => k_asm
      case pb6 => k_all
      case pb7 => exact worth_mono hW2 (by ktr_rel)
      case pb8 => omega
      case pb9 => ktr_room
      case pb10 => ktr_units
      intro h' tk' F5 N5
      rw [hx] at N5 ⊢
      simp only [Option.getD_none, Array.append_empty, Option.isNone_none] at N5 ⊢
      k_steps
      refine wpC_of (wpAny_allTrue_Or_cons ?_)
      k_steps
      (try dsimp only)
      refine callWith_K0 (K := hd.heap_1 w.params) (by k_in) (by k_is) ?_
      k_steps
      unfold Stop
      rename News _ _ _ _ => NN4
      refine' outsize_c (b0 := datOf fl) (news := (V, tupF f.kind tk2 v e) :: (I, oI) :: (P, oP2) :: (C, oC2) :: (L + 1 + 1 + 1, o3) :: (L + 1 + 1, o2) :: (L + 1, o1) :: (K, listOf ws.toArray eK) :: (PL, listOf ps.toArray eP) :: tl2) ?pc1 ?pc2 ?pc3 ?pc4 ?pc5 rfl ?pc6 ?pc7 ?pc8 ?retc
      case pc1 => assumption
      case pc2 => k_asm
      case pc3 => k_asm
      case pc4 => exact news_sub NN4 (by ktr_rel)
      case pc5 => k_asm
      case pc6 => omega
      case pc7 => ktr_room
      case pc8 => ktr_units
      intro t' h' tk' F6 N6
      k_steps
      refine OrB.nil fun t8 tk8 => ?_
      k_steps
      · rename (_ : Int) ≠ _ => hne
        exact (hne (Int.add_zero _).symm).elim
      refine wpAny_allTrue_Or_nil ?_
      rw [if_neg (by decide)]
      refine wpC_of ?_
      k_steps
      (try dsimp only)
      refine execsC_cons (wpC_of ?_)
      k_steps
      (try dsimp only)
      refine wpC_of ?_
      k_steps
      refine' TurnEnd.next _ (by k_asm) (by k_asm) ?ks1 ?ko1 (Inv1.of (K := K) (PL := PL) (eK := eK) (eP := eP) (tail := (V, tupF f.kind tk2 v e) :: tl2) N6 (by k_mem) rfl rfl rfl rfl hpen2 d1 ?of1 ?kp1 hps (Nat.le_succ_of_le hfl) h8)
      case ks1 => ktr_rel
      case ko1 =>
        simp only [List.forall_mem_cons]
        exact ⟨n1, n2, n3, n4, n5, n6, n7, n8, n9, n10, vI, nT2⟩
      case of1 =>
        simp only [OffA, List.forall_mem_cons]
        exact ⟨⟨y1, y2, y3, y4, y5, y6⟩, ⟨z1, z2, z3, z4, z5, z6⟩, ⟨vv1, vv2, vv3, vv4, vv5, vv6⟩, hT2⟩
      case kp1 => exact ⟨hkept.len, fun j g x hj => let ⟨V', tk', e', v', p1, p2, p3, p4, p5⟩ := hkept.at_ j g x hj; ⟨V', tk', e', v', p1, .tail _ (hs2 _ p2), worth_mono p3 fun p hp => .tail _ (hs2 _ hp), p4, p5⟩⟩
    | some x =>
      unfold EncIs at hr
      rw [hx] at hr
      dsimp only at hr
      obtain ⟨tx, rfl⟩ := hr
      have hx8 := enc_size hok hx
      have hsz : (datOf fl ++ x).size = (datOf fl).size + x.size := Array.size_append
      refine execsC_cons (ifC (boolopC (orC (cmpC (nameCallC ?_)))))
      k_steps
      refine callWithC_K (K := hd.heap_1 w.params) (by k_is) ?_
      k_steps
      rename News _ _ _ _ => NN3
      refine' put_c (V := V) (f := f) (v := v) (tk := tk2) (e := e) (b0 := datOf fl) (news := (V, tupF f.kind tk2 v e) :: (I, oI) :: (P, oP2) :: (C, oC2) :: (L + 1 + 1 + 1, o3) :: (L + 1 + 1, o2) :: (L + 1, o1) :: (K, listOf ws.toArray eK) :: (PL, listOf ps.toArray eP) :: tl2) ?pe1 ?pe2 ?pe3 ?pe4 ?pe5 XB TB rfl q3.to r3.to ?pe6 (.head _) ?pe7 hok ?pe8 ?pe9 ?pe10 ?rete
      case pe1 => assumption
      case pe2 => k_asm
      case pe3 => k_asm
      case pe4 => exact news_sub NN3 (by ktr_rel)
      case pe5 => k_asm
      case pe6 => k_all
      case pe7 => exact worth_mono hW2 (by ktr_rel)
      case pe8 => omega
      case pe9 => ktr_room
      case pe10 => ktr_units
      intro h' tk' F5 N5
      rw [hx] at N5 ⊢
      simp only [Option.getD_some, Option.isNone_some] at N5 ⊢
      k_steps
      refine wpC_of (wpAny_allTrue_Or_cons ?_)
      k_steps
      (try dsimp only)
      refine callWith_K0 (K := hd.heap_1 w.params) (by k_in) (by k_is) ?_
      k_steps
      unfold Stop
      rename News _ _ _ _ => NN4
      refine' outsize_c (b0 := datOf fl ++ x) (news := (V, tupF f.kind tk2 v e) :: (I, oI) :: (P, oP2) :: (C, oC2) :: (L + 1 + 1 + 1, o3) :: (L + 1 + 1, o2) :: (L + 1, o1) :: (K, listOf ws.toArray eK) :: (PL, listOf ps.toArray eP) :: tl2) ?pf1 ?pf2 ?pf3 ?pf4 ?pf5 rfl ?pf6 ?pf7 ?pf8 ?retf
      case pf1 => assumption
      case pf2 => k_asm
      case pf3 => k_asm
      case pf4 => exact news_sub NN4 (by ktr_rel)
      case pf5 => k_asm
      case pf6 => omega
      case pf7 => ktr_room
      case pf8 => ktr_units
      intro t' h' tk' F6 N6
      k_steps
      refine OrB.has (by omega) fun t8 tk8 => ?_
      k_steps
      · rename (_ : Int) ≠ _ => hne
        exact (hne (by rw [hsz]; omega)).elim
      refine wpAny_allTrue_Or_nil ?_
      rw [if_neg (by decide)]
      refine wpC_of ?_
      k_steps
      (try dsimp only)
      refine execsC_cons (wpC_of ?_)
      have hwl := hkept.len
      have hpl : ps.length = fl.length := by rw [hps.length]; simp [offL]
      k_steps
      (try dsimp only)
      refine wpC_of ?_
      k_steps
      rename Fr _ _ _ _ => F9
      rename News _ _ _ _ => N9
      refine' TurnEnd.next _ (by k_asm) (by k_asm) ?ks2 ?ko2 (Inv1.of (eK := 0) (eP := 0) (ws := ws ++ [.ref V]) (ps := ps ++ [.int (datOf fl).size _]) (fl := fl ++ [(f, x)]) (tail := (V, tupF f.kind tk2 v e) :: tl2) N9 (by k_mem) rfl rfl rfl rfl hpen2 ?dd2 ?of2 ?kp2 ?ps2 ?le2 ?h82)
      case dd2 => rw [datOf_snoc]; assumption
      case ks2 => rw [datOf_snoc]; ktr_rel
      case ko2 =>
        simp only [List.forall_mem_cons]
        refine ⟨n1, n2, n3, n4, n5, n6, n7, n8, ?_, ?_, vI, nT2⟩ <;> (exact Nat.ne_of_gt (lt_of_all (by with_reducible assumption) (by k_mem)))
      case of2 =>
        simp only [OffA, List.forall_mem_cons]
        refine ⟨⟨?_, ?_, ?_, ?_, ?_, ?_⟩, ⟨?_, ?_, ?_, ?_, ?_, ?_⟩, ⟨vv1, vv2, vv3, vv4, vv5, vv6⟩, hT2⟩ <;> (exact NE.of (Nat.ne_of_gt (lt_of_all (by with_reducible assumption) (by k_mem))))
      case kp2 => exact KeptIs.snoc hkept (.head _) (fun p hp => .tail _ (hs2 p hp)) (worth_mono hW2 fun p hp => .tail _ hp) hok hx
      case ps2 => rw [offL_snoc]; exact ints_snoc hps
      case le2 => rw [List.length_append, List.length_singleton]; omega
      case h82 =>
        intro p hp
        rcases List.mem_append.mp hp with hp | hp
        · exact h8 p hp
        · obtain rfl := List.mem_singleton.mp hp
          exact hx8
  case kd =>
    intro m₁ nw h tk hJ F1 N1
    cases hJ with | @mk oP oC o1 K PL eK eP ws ps fl tail td mr hpen d1 hoff hkept hps hfl h8 =>
    exact next oP oC o1 K PL eK eP ws ps fl tail td mr h tk F1 N1 hpen d1 hoff hkept hps (by omega) h8
theorem zs36 : True := by w_top off; trivial
theorem bytes_some {prog : Program} {w : World} {A : Around} {E : Value → Shared → Prop} {s : Shared} {n : Int} {u : Tok} {Q : Value → Shared → Prop} (h0 : 0 ≤ n) (h1 : n ≤ 2)
    (hQ : ∀ (b : Array UInt8) t k, b.size ≤ 2 → Q (.bytes b t) { s with toks := k }) : wpAny (model prog w) A (call (.type "bytes") [.int n u]) Q E s :=
  call_bytes_int h0 (by omega) fun t k => hQ _ t k (by rw [Array.size_replicate]; omega)
section Z51
local macro_rules | `(tactic| walk_at $s) => lines s [
  ("call type:bytes", here (sq (shA "call (Value.type %bytes) (List.cons (Value.int _ _) List.nil)") (sq (fill "bytes_some" "Ho_") (ins 4)))),
  ("call ref", stops [172, 127])]
section Z52
local macro_rules | `(tactic| walk_at $s) => lines s [
  ("execs cons", alt [tokT, stA "execs (List.cons (Stmt.For _ _ _ _ _) _) _"])]
section Z53
local macro_rules | `(tactic| walk_at $s) => lines s [
  ("call ref", here (sq (shA "call (Value.ref 175) (List.cons (Value.bytes _ _) (List.cons (Value.int _ _) List.nil)) _") (sq (dfl (whole (fill "innew_c" "aaaaaeRS_"))) (sq (ins 12) swp))))]
set_option maxHeartbeats 8000000 in
theorem mid {w : World} {mean : ExcName → Option Value} {mg mb : Str → Option Value} {dp un : Nat} {a : Addr} {ccd : Value} {A₀ : Around} {base h₀ : Heap} {L : Addr} {mr : Str → Option Value} {s : Shared} {Q : Flow → Shared → Prop} {E : Value → Shared → Prop}
    {P C O DO BA K PL : Addr} {oP oC o1 o2 o3 : Obj} {h1 : Int} {k1 td : Tok} {eK eP : Nat} {ws ps : List Value} {fl : List (Fld × Array UInt8)} {tail : List (Addr × Obj)}
    (B : Below A₀ base [] h₀) (F : Fr h₀ L s.heap (fun y => if y = Str.ofString "pen" then some (.ref P) else if y = Str.ofString "out" then some (.ref O) else if y = Str.ofString "kept" then some (.ref K) else if y = Str.ofString "places" then some (.ref PL) else mr y))
    (X : (hd.heap_1 w.params).In h₀)
    (N : News h₀ L s.heap ((P, oP) :: (C, oC) :: (L + 1 + 1 + 1, o3) :: (L + 1 + 1, o2) :: (L + 1, o1) :: (O, instObj 267 DO) :: (DO, outD h1 k1 BA) :: (BA, baO (datOf fl)) :: (K, listOf ws.toArray eK) :: (PL, listOf ps.toArray eP) :: tail))
    (T : Top vw (looseW vw [Str.ofString "ShapeError"]) mean mg mb h₀) (XB : (hd.heap_1 w.params).In base) (TB : Top vw (looseW vw [Str.ofString "ShapeError"]) mean mg mb base)
    (hpen : Pen oP oC C) (d1 : o1.data = .cell (some (.bytes (datOf fl) td))) (v2 v3 : Option Value) (d2 : o2.data = .cell v2) (d3 : o3.data = .cell v3) (x6 : Six P C BA (L + 1) (L + 1 + 1) (L + 1 + 1 + 1) O DO)
    (hoff : OffA P C BA (L + 1) (L + 1 + 1) (L + 1 + 1 + 1) ((K, listOf ws.toArray eK) :: (PL, listOf ps.toArray eP) :: tail)) (hkept : KeptIs tail ws fl) (hps : IntsAre ps (offL fl)) (hfl : fl.length ≤ 12) (h8 : ∀ p ∈ fl, p.2.size ≤ 8)
    (hdp : dp < 480) (hun : un < 4400)
    (next : ∀ (oP oC : Obj) (I D : Addr) (h1 h2 : Int) (k1 k2 tb tp : Tok) (ah : Array UInt8) (mr : Str → Option Value) (h : Heap) (tk : Nat), ah.size ≤ 2 → Pen oP oC C →
      Fr h₀ L h (fun y => if y = Str.ofString "whole" then some (.ref I) else if y = Str.ofString "pen" then some (.ref P) else if y = Str.ofString "kept" then some (.ref K) else if y = Str.ofString "places" then some (.ref PL) else mr y) →
      News h₀ L h ((I, instObj 175 D) :: (D, inD h1 k1 (ah ++ datOf fl) tb h2 k2 ah.size tp) :: (P, oP) :: (C, oC) :: (L + 1 + 1 + 1, o3) :: (L + 1 + 1, o2) :: (L + 1, o1) :: (K, listOf ws.toArray eK) :: (PL, listOf ps.toArray eP) :: tail) →
      (∀ q ∈ (P, oP) :: (C, oC) :: (L + 1 + 1 + 1, o3) :: (L + 1 + 1, o2) :: (L + 1, o1) :: (K, listOf ws.toArray eK) :: (PL, listOf ps.toArray eP) :: tail, @LT.lt Nat _ q.1 D) → @LT.lt Nat _ D I →
      wpAny (model Challenge.pw_nz0115_01 w) (lawA dp un L a ccd) (execs (lawB.drop 8) (lawE L a ccd)) Q E { s with heap := h, toks := tk }) :
    wpAny (model Challenge.pw_nz0115_01 w) (lawA dp un L a ccd) (execs (lawB.drop 3) (lawE L a ccd)) Q E s := by
  obtain ⟨f1, f2, f3, f4, f5, g2, g3, g4, g5, i3, i4, i5, j1, j2, j3, qq, rr⟩ := x6
  have q1 := qq.1
  have q2 := qq.2.1
  have q3 := qq.2.2.1
  have q4 := qq.2.2.2.1
  have q5 := qq.2.2.2.2.1
  have q6 := qq.2.2.2.2.2
  have r1 := rr.1
  have r2 := rr.2.1
  have r3 := rr.2.2.1
  have r4 := rr.2.2.2.1
  have r5 := rr.2.2.2.2.1
  have r6 := rr.2.2.2.2.2
  have hPC : @Ne Nat P C := f1
  have hd8 := datOf_le h8
  have hK := hoff (_, _) mm0
  have hPL := hoff (_, _) mm1
  have y1 : NE K P := hK.1
  have y2 : NE K C := hK.2.1
  have y3 : NE K BA := hK.2.2.1
  have y4 : NE K (L + 1) := hK.2.2.2.1
  have y5 : NE K (L + 1 + 1) := hK.2.2.2.2.1
  have y6 : NE K (L + 1 + 1 + 1) := hK.2.2.2.2.2
  have z1 : NE PL P := hPL.1
  have z2 : NE PL C := hPL.2.1
  have z3 : NE PL BA := hPL.2.2.1
  have z4 : NE PL (L + 1) := hPL.2.2.2.1
  have z5 : NE PL (L + 1 + 1) := hPL.2.2.2.2.1
  have z6 : NE PL (L + 1 + 1 + 1) := hPL.2.2.2.2.2
  have hT : ∀ p ∈ tail, (NE p.1 P) ∧ (NE p.1 C) ∧ (NE p.1 BA) ∧ (NE p.1 (L + 1)) ∧ (NE p.1 (L + 1 + 1)) ∧ (NE p.1 (L + 1 + 1 + 1)) := fun p hp => hoff p (.tail _ (.tail _ hp))
  clear hK hPL
  have tP : ∀ p ∈ tail, p.1 ≠ P := fun p hp => (hT p hp).1
  have tC : ∀ p ∈ tail, p.1 ≠ C := fun p hp => (hT p hp).2.1
  dsimp only [lawB, lawS, lawE, lawD, List.drop]
  k_steps
  dsimp only
  refine callWith_K0 (K := hd.heap_1 w.params) (by k_in) (by k_is) ?_
  k_steps
  unfold Stop
  rename News _ _ _ _ => NN
  refine' outoctets_c (b0 := datOf fl) (news := (P, oP) :: (C, oC) :: (L + 1 + 1 + 1, o3) :: (L + 1 + 1, o2) :: (L + 1, o1) :: (K, listOf ws.toArray eK) :: (PL, listOf ps.toArray eP) :: tail) ?pa1 ?pa2 ?pa3 ?pa4 ?pa5 rfl ?pa6 ?pa7 ?pa8 ?reta
  case pa1 => assumption
  case pa2 => k_asm
  case pa3 => k_asm
  case pa4 => exact news_sub NN (by ktr_rel)
  case pa5 => k_asm
  case pa6 => omega
  case pa7 => ktr_room
  case pa8 => ktr_units
  intro t' h' tk' F2 N2
  k_steps
  · rename (_ != _) = true => hne
    simp at hne
  unfold Stop
  rename News _ _ _ (_ :: _ :: _) => NN2
  refine' inhere_c ?pb1 ?pb2 ?pb3 NN2 ?pb5 rfl ?pb7 ?pb8 ?retb
  case pb1 => assumption
  case pb2 => k_asm
  case pb3 => k_asm
  case pb5 => k_asm
  case pb7 => ktr_room
  case pb8 => ktr_units
  intro I2 D2 hh1 kk1 hh2 kk2 h' tk' F3 N3 lA l2
  k_steps
  dsimp only
  refine callWith_K0 (K := hd.heap_1 w.params) (by k_in) (by k_is) ?_
  k_steps
  unfold Stop
  rename News _ _ _ _ => NN3
  refine' u8_c (ks := [97, 98, 99]) ?pc1 ?pc2 ?pc3 NN3 ?pc5 rfl (Nat.ne_of_gt l2) ?pc6 ?pc7 ?pc8 ?pc9 ?pc10 ?retc ?raic
  case pc1 => assumption
  case pc2 => k_asm
  case pc3 => k_asm
  case pc5 => k_asm
  case pc6 => exact fun q hq => Nat.ne_of_lt (lA q hq)
  case pc7 => decide
  case pc8 => decide
  case pc9 => ktr_room
  case pc10 => ktr_units
  case raic =>
    intro hb
    exfalso
    have h3 : (#[97, 98, 99] : Array UInt8).size = 3 := rfl
    rcases hb with hb | hb
    · exact absurd hb (by decide)
    · exact absurd hb (by decide)
  intro q1' q2' t9 tp9 h' tk' F4 N4
  k_steps
  rename Array UInt8 => ah
  rename ah.size ≤ 2 => hah
  unfold Stop
  rename ∀ q : Addr × Obj, q ∈ _ → @LT.lt Nat _ q.1 _ => lB
  rename @LT.lt Nat _ _ _ => l9
  rename News _ _ _ _ => NN9
  rename Fr _ _ _ _ => FF9
  rename Pen _ _ _ => hpen9
  exact next _ _ _ _ _ _ _ _ _ _ ah _ _ _ hah hpen9 (fr_four FF9 rfl rfl rfl rfl) (news_sub NN9 (by ktr_rel)) (fun q hq => lB q ((by ktr_rel : ∀ q ∈ _, q ∈ _) q hq)) (by assumption)
theorem zs37 : True := by w_top off; trivial
end Z53
end Z52
end Z51
end Z50
theorem zr17 {p : Program} {w : World} {A : Around} {e : Env} {Q : Flow → Shared → Prop} {E : Value → Shared → Prop} {s : Shared} (h : wpAny (model p w) A (execs [] e) Q E s) : wpAny (model p w) A (execs [] e) Q E s := by
  w_top off
  first | (walk1; fail) | exact h
section Z54
local macro_rules | `(tactic| walk_at $s) => lines s [
  ("compareOp NotEq ref ref", stA "compareOp _ (Value.ref _) (Value.ref _)")]
section Z55
local macro_rules | `(tactic| walk_at $s) => lines s [
  ("exec For Name Name cons nil", forT),
  ("pyIter ref", here (sq (shI "LoopAtV _ _ _ _ _ _ _ _ _ _ _") stp))]
set_option maxHeartbeats 8000000 in
theorem loop2 {w : World} {mean : ExcName → Option Value} {mg mb : Str → Option Value} {dp un : Nat} {a : Addr} {ccd : Value} {A₀ : Around} {base h₀ : Heap} {L : Addr} {mr : Str → Option Value} {s : Shared} {Q : Flow → Shared → Prop}
    {P C I D K PL : Addr} {oP oC o1 o2 o3 : Obj} {h1 h2 : Int} {k1 k2 tb tp td : Tok} {eK eP : Nat} {ws ps : List Value} {fl : List (Fld × Array UInt8)} {tail : List (Addr × Obj)} {ah : Array UInt8}
    (B : Below A₀ base [] h₀) (F : Fr h₀ L s.heap (fun y => if y = Str.ofString "whole" then some (.ref I) else if y = Str.ofString "pen" then some (.ref P) else if y = Str.ofString "kept" then some (.ref K) else if y = Str.ofString "places" then some (.ref PL) else mr y))
    (X : (hd.heap_1 w.params).In h₀)
    (N : News h₀ L s.heap ((I, instObj 175 D) :: (D, inD h1 k1 (ah ++ datOf fl) tb h2 k2 ah.size tp) :: (P, oP) :: (C, oC) :: (L + 1 + 1 + 1, o3) :: (L + 1 + 1, o2) :: (L + 1, o1) :: (K, listOf ws.toArray eK) :: (PL, listOf ps.toArray eP) :: tail))
    (T : Top vw (looseW vw [Str.ofString "ShapeError"]) mean mg mb h₀) (XB : (hd.heap_1 w.params).In base) (TB : Top vw (looseW vw [Str.ofString "ShapeError"]) mean mg mb base)
    (hpen : Pen oP oC C) (d1 : o1.data = .cell (some (.bytes (datOf fl) td))) (hah : ah.size ≤ 2)
    (hlt : ∀ q ∈ (P, oP) :: (C, oC) :: (L + 1 + 1 + 1, o3) :: (L + 1 + 1, o2) :: (L + 1, o1) :: (K, listOf ws.toArray eK) :: (PL, listOf ps.toArray eP) :: tail, @LT.lt Nat _ q.1 D) (hDI : @LT.lt Nat _ D I)
    (hkept : KeptIs tail ws fl) (hfl : fl.length ≤ 12) (h8 : ∀ p ∈ fl, p.2.size ≤ 8)
    (hdp : dp < 480) (hun : un < 4400)
    (next : ∀ (mr : Str → Option Value) (h : Heap) (tk : Nat),
      Fr h₀ L h (fun y => if y = Str.ofString "whole" then some (.ref I) else if y = Str.ofString "pen" then some (.ref P) else if y = Str.ofString "kept" then some (.ref K) else if y = Str.ofString "places" then some (.ref PL) else mr y) →
      News h₀ L h ((P, oP) :: (C, oC) :: (L + 1 + 1 + 1, o3) :: (L + 1 + 1, o2) :: (L + 1, o1) :: (K, listOf ws.toArray eK) :: (PL, listOf ps.toArray eP) :: tail) →
      wpAny (model Challenge.pw_nz0115_01 w) (lawA dp un L a ccd) (execs (lawB.drop 9) (lawE L a ccd)) Q (fun _ _ => False) { s with heap := h, toks := tk }) :
    wpAny (model Challenge.pw_nz0115_01 w) (lawA dp un L a ccd) (execs (lawB.drop 8) (lawE L a ccd)) Q (fun _ _ => False) s := by
  have hd8 := datOf_le h8
  have hwl := hkept.len
  have hbs : (ah ++ datOf fl).size = ah.size + (datOf fl).size := Array.size_append
  have hmem : ∀ z : Addr × Obj, z ∈ tail → z ∈ (P, oP) :: (C, oC) :: (L + 1 + 1 + 1, o3) :: (L + 1 + 1, o2) :: (L + 1, o1) :: (K, listOf ws.toArray eK) :: (PL, listOf ps.toArray eP) :: tail := fun z hz => by
    (repeat' refine List.mem_cons_of_mem _ ?_); exact hz
  dsimp only [lawB, lawS, lawE, lawD, List.drop]
  refine wpAny_execs_cons ?_
  refine For_invVF F rfl rfl ?_
  k_steps
  unfold Stop
  refine' loop_list (items := ws) (le := eK) (fun i m₁ nw => ∃ (tp : Tok) (mr : Str → Option Value),
      m₁ = (fun y => if y = Str.ofString "whole" then some (.ref I) else if y = Str.ofString "pen" then some (.ref P) else if y = Str.ofString "kept" then some (.ref K) else if y = Str.ofString "places" then some (.ref PL) else mr y) ∧
      nw = (I, instObj 175 D) :: (D, inD h1 k1 (ah ++ datOf fl) tb h2 k2 (ah.size + offs fl i : Nat) tp) :: (P, oP) :: (C, oC) :: (L + 1 + 1 + 1, o3) :: (L + 1 + 1, o2) :: (L + 1, o1) :: (K, listOf ws.toArray eK) :: (PL, listOf ps.toArray eP) :: tail) rfl rfl ?kF ?kN ?km ?k0 ?kj ?kt ?kd
  case kF => k_asm
  case kN => k_asm
  case km => k_mem
  case k0 => exact ⟨tp, _, rfl, rfl⟩
  case kj =>
    rintro i m₁ nw ⟨tp, mr, _, rfl⟩
    k_mem
  case kt =>
    rintro i v m₁ nw It oIt h tk hv ⟨tp, mr, rfl, rfl⟩ hI F1 N1
    have hil : i < fl.length := by rw [← hwl]; exact (List.getElem?_eq_some_iff.mp hv).1
    refine let_goal fun PP back => ?_
    obtain ⟨f, x, hfx⟩ : ∃ f x, fl[i]? = some (f, x) := ⟨fl[i].1, fl[i].2, by rw [List.getElem?_eq_getElem hil]⟩
    obtain ⟨V, tk2, e, wv, hwV, hV, hW, hok, hx⟩ := hkept.at_ i f x hfx
    refine back ?_
    clear back
    rw [hv] at hwV
    obtain rfl := Option.some.inj hwV
    have da := dat_at hfx
    have da1 := da.1
    have da2 := da.2.1
    have da3 := da.2.2
    clear da
    have nI := off_I hI
    have n1 : NE I It := nI (_, _) mm0
    have n2 : NE D It := nI (_, _) mm1
    have n3 : NE P It := nI (_, _) mm2
    have n4 : NE C It := nI (_, _) mm3
    have n5 : NE (L + 1 + 1 + 1) It := nI (_, _) mm4
    have n6 : NE (L + 1 + 1) It := nI (_, _) mm5
    have n7 : NE (L + 1) It := nI (_, _) mm6
    have n8 : NE K It := nI (_, _) mm7
    have n9 : NE PL It := nI (_, _) mm8
    have nT : ∀ p ∈ tail, NE p.1 It := fun p hp => nI p (.tail _ (.tail _ (.tail _ (.tail _ (.tail _ (.tail _ (.tail _ (.tail _ (.tail _ hp)))))))))
    clear nI
    refine wpAny_execs_cons ?_
    k_steps
    unfold Stop
    rename News _ _ _ _ => NN
    refine' taken_c (x := x) (p := (ah.size + offs fl i : Nat)) (ks := KBw.bInts (ah ++ datOf fl)) (V := V) (f := f) (v := wv) (tk := tk2) (e := e) (news := (It, oIt) :: (P, oP) :: (C, oC) :: (L + 1 + 1 + 1, o3) :: (L + 1 + 1, o2) :: (L + 1, o1) :: (K, listOf ws.toArray eK) :: (PL, listOf ps.toArray eP) :: tail) ?pa1 ?pa2 ?pa3 ?pa4 ?pa5 XB TB rfl (Nat.ne_of_gt hDI) ?pa6 ?pa7 ?pa8 hok hx rfl ?pa9 ?pa10 ?pa11 ?pa12 ?pa13 ?pa14 ?oka ?noa
    case pa1 => assumption
    case pa2 => k_asm
    case pa3 => k_asm
    case pa4 => exact news_sub NN (by ktr_rel)
    case pa5 => k_asm
    case pa6 => exact List.forall_mem_cons.mpr ⟨NE.sym n2, fun q hq => Nat.ne_of_lt (hlt q hq)⟩
    case pa7 => exact .tail _ (hmem _ hV)
    case pa8 => exact worth_mono hW fun p hp => .tail _ (hmem _ hp)
    case pa9 => exact KBw.ints_length _
    case pa10 => omega
    case pa11 => omega
    case pa12 =>
      intro _
      rw [KBw.ints_app rfl rfl, show ((ah.size + offs fl i : Nat) : Int).toNat = ah.size + offs fl i from rfl, List.drop_append, List.drop_eq_nil_of_le (by rw [KBw.ints_length]; omega), List.nil_append, KBw.ints_length, Nat.add_sub_cancel_left]
      exact da3
    case pa13 => ktr_room
    case pa14 => ktr_units
    case noa =>
      intro hlt'
      exfalso
      omega
    case oka =>
      intro _ V' v' nw e' t' tp' h' tk' hW' F2 N2
      have N3 : News h₀ L h' ((V', tup2 v' (.int (-2) t') e') :: (V, tupF f.kind tk2 wv e) :: (I, instObj 175 D) :: (D, inD h1 k1 (ah ++ datOf fl) tb h2 k2 ((ah.size + offs fl i : Nat) + x.size) tp') :: (It, oIt) :: (P, oP) :: (C, oC) :: (L + 1 + 1 + 1, o3) :: (L + 1 + 1, o2) :: (L + 1, o1) :: (K, listOf ws.toArray eK) :: (PL, listOf ps.toArray eP) :: (nw ++ tail)) :=
        news_nw (pre := [(I, instObj 175 D), (D, inD h1 k1 (ah ++ datOf fl) tb h2 k2 ((ah.size + offs fl i : Nat) + x.size) tp'), (It, oIt), (P, oP), (C, oC), (L + 1 + 1 + 1, o3), (L + 1 + 1, o2), (L + 1, o1), (K, listOf ws.toArray eK), (PL, listOf ps.toArray eP)]) N2 hV
      clear N2
      obtain ⟨tl3, htl⟩ : ∃ t, t = nw ++ tail := ⟨_, rfl⟩
      rw [← htl] at N3
      have hs1 : ∀ p ∈ nw, p ∈ tl3 := fun p hp => by rw [htl]; exact List.mem_append_left _ hp
      have hs2 : ∀ p ∈ tail, p ∈ tl3 := fun p hp => by rw [htl]; exact List.mem_append_right _ hp
      k_steps
      unfold Stop
      rename News _ _ _ (_ :: _ :: _ :: _) => NN4
      refine' worth_tup (fun p hp => (NN4 p hp).1) ?wt1 ?wt2 (f := f) ?wt3 ?wt4 hok ?wt5 ?wt6
      case wt1 => k_mem
      case wt2 => k_mem
      case wt3 => exact worth_mono hW' fun p hp => ((by ktr_rel : ∀ q ∈ tl3, q ∈ _) p (hs1 p hp))
      case wt4 => exact worth_mono hW fun p hp => ((by ktr_rel : ∀ q ∈ tl3, q ∈ _) p (hs2 p hp))
      case wt5 => ktr_units
      k_steps
      refine' TurnEnd.next _ (by k_asm) (by k_asm) ?ks ?ko ⟨tp', _, four_form rfl rfl rfl rfl, rfl⟩
      case ks =>
        rw [show ((ah.size + offs fl (i + 1) : Nat) : Int) = ((ah.size + offs fl i : Nat) : Int) + x.size by rw [da2]; omega]
        ktr_rel
        exact fun p hp => ((by ktr_rel : ∀ q ∈ tl3, q ∈ _) p (hs2 p hp))
      case ko =>
        simp only [List.forall_mem_cons]
        exact ⟨n1, n2, n3, n4, n5, n6, n7, n8, n9, nT⟩
  case kd =>
    rintro m₁ nw h tk ⟨tp, mr, rfl, rfl⟩ F1 N1
    exact next mr h tk F1 (fun p hp => N1 p (.tail _ (.tail _ hp)))
theorem zs38 : True := by w_top off; trivial
end Z55
theorem zr18 {p : Program} {w : World} {A : Around} {e : Env} {Q : Flow → Shared → Prop} {E : Value → Shared → Prop} {s : Shared} (h : wpAny (model p w) A (execs [] e) Q E s) : wpAny (model p w) A (execs [] e) Q E s := by
  w_top off
  first | (walk1; fail) | exact h
section Z56
local macro_rules | `(tactic| walk_at $s) => lines s [
  ("pyIter ref", here (sq (shI "TurnsAt _ _ _ _ _ _ _ _ _ _ _") stp)),
  ("eval Subscript", boxT)]
def lawI4 : List Stmt := match lawD.1.1.body.drop 11 with
  | .For _ _ b _ _ :: _ => b
  | _ => []
set_option maxHeartbeats 8000000 in
theorem inner4 {w : World} {mean : ExcName → Option Value} {mg mb : Str → Option Value} {dp un : Nat} {a : Addr} {ccd : Value} {A₀ : Around} {base h₀ : Heap} {L : Addr} {mr : Str → Option Value} {s : Shared} {Q : Flow → Shared → Prop}
    {o1 o2 o3 : Obj} {td ts : Tok} {dat : Array UInt8} {c : Nat} {dd : Addr} {rest : List (Addr × Obj)}
    (hcd : (c = 2 ∧ dd = 77) ∨ (c = 4 ∧ dd = 84))
    (B : Below A₀ base [] h₀) (F : Fr h₀ L s.heap (fun y => if y = Str.ofString "deed" then some (.ref dd) else mr y))
    (X : (hd.heap_1 w.params).In h₀)
    (N : News h₀ L s.heap ((L + 1 + 1 + 1, o3) :: (L + 1 + 1, o2) :: (L + 1, o1) :: rest))
    (T : Top vw (looseW vw [Str.ofString "ShapeError"]) mean mg mb h₀) (XB : (hd.heap_1 w.params).In base) (TB : Top vw (looseW vw [Str.ofString "ShapeError"]) mean mg mb base)
    (d1 : o1.data = .cell (some (.bytes dat td))) (v2 : Option Value) (d2 : o2.data = .cell v2) (d3 : o3.data = .cell (some (.int (c : Nat) ts))) (hrest : ∀ p ∈ rest, p.1 ≠ L + 1 + 1) (hz : dat.size ≤ 100)
    (hdp : dp < 480) (hun : un < 4400)
    (fin : ∀ (h' : Heap) (tk' : Nat) (m' : Str → Option Value) (o2 : Obj) (v2 : Option Value), o2.data = .cell v2 → Fr h₀ L h' m' → News h₀ L h' ((L + 1 + 1 + 1, o3) :: (L + 1 + 1, o2) :: (L + 1, o1) :: rest) → Q .next { s with heap := h', toks := tk' }) :
    wpAny (model Challenge.pw_nz0115_01 w) (lawA dp un L a ccd) (execs lawI4 (lawE L a ccd)) Q (fun _ _ => False) s := by
  obtain ⟨ksd, hbi⟩ : ∃ ks, KBw.bInts dat = ks := ⟨_, rfl⟩
  have hkl : ksd.length = dat.size := by rw [← hbi]; exact KBw.ints_length _
  have hc4 : c ≤ 4 := by omega
  have hc2 : c = 2 ∨ c = 4 := by omega
  dsimp only [lawI4, lawS, lawE, lawD, List.drop]
  refine wpAny_execs_cons ?_
  refine For_turns F ?_
  k_steps
  unfold Stop
  rename IsRange _ _ _ _ _ _ _ _ => hrg
  rename Fr _ _ _ _ => F9
  rename News _ _ _ (_ :: _ :: _ :: _) => N9
  refine' loop_rangeT (n := dat.size + 3) (news := (L + 1 + 1 + 1, o3) :: (L + 1 + 1, o2) :: (L + 1, o1) :: rest) (fun i m₁ nw => ∃ (o2 : Obj) (v2 : Option Value) (mr : Str → Option Value),
      m₁ = (fun y => if y = Str.ofString "deed" then some (.ref dd) else mr y) ∧ nw = (L + 1 + 1 + 1, o3) :: (L + 1 + 1, o2) :: (L + 1, o1) :: rest ∧ o2.data = .cell v2) rfl rfl ?kF ?kN ?kr ?ks ?kn ?k0 ?kt ?kd
  case kF => exact F9
  case kN => exact news_sub N9 (by ktr_rel)
  case kr => exact hrg
  case ks => exact small_one (by omega) (by omega) (by omega) (by omega)
  case kn => rw [rangeSize_nat]; omega
  case k0 => exact ⟨o2, v2, mr, rfl, rfl, d2⟩
  case kt =>
    rintro i t m₁ nw I oI h tk hi hcl ⟨o2, v2, mr, rfl, rfl, d2⟩ hI F1 N1
    obtain ⟨z, hzz⟩ : ∃ z : Int, z = 0 - 1 + (i : Int) * 1 := ⟨_, rfl⟩
    have nI := off_I hI
    have n1 : NE (L + 1 + 1 + 1) I := nI (_, _) mm0
    have n2 : NE (L + 1 + 1) I := nI (_, _) mm1
    have n3 : NE (L + 1) I := nI (_, _) mm2
    have nr : ∀ p ∈ rest, NE p.1 I := fun p hp => nI p (.tail _ (.tail _ (.tail _ hp)))
    clear nI
    k_steps
    · unfold Stop
      rename News _ _ _ _ => NNg1
      refine' at_c (c := c) hcd ?a1g1 ?a2g1 ?a3g1 NNg1 ?a5g1 XB TB rfl hbi (Nat.le_trans hz (by decide)) ?a8g1 ?a9g1 ?okg1 ?nog1
      case a1g1 => assumption
      case a2g1 => k_asm
      case a3g1 => k_asm
      case a5g1 => k_asm
      case a8g1 => ktr_room
      case a9g1 => ktr_units
      case okg1 =>
        intro q1 q2 V e t1 t2 h' tk' F5 N5
        rw [← sum_be hc2 q1 (by omega) (fun k hk => KBw.ints_in (b := dat) (by rw [hbi]; exact hk))] at N5
        k_steps
        unfold Stop
        rename News _ _ _ _ => NMg1
        refine tup_ne (News.get NMg1 (by k_mem)) (News.get NMg1 (by k_mem)) (int_eqAt (by simp only [units_in1]; ktr_units)) (int_eqAt (by simp only [units_in1]; ktr_units)) ?_ ?_
        · ktr_units
        k_steps
        rename Fr _ _ _ _ => F9
        obtain ⟨o29, eo2⟩ := news_ob (L + 1 + 1) NMg1 (by k_mem)
        subst eo2
        refine TurnEnd.next ((L + 1 + 1 + 1, o3) :: (L + 1 + 1, o29) :: (L + 1, o1) :: rest) F9 (by k_asm) (by ktr_rel) ?_ ⟨o29, _, _, m_form rfl, rfl, by assumption⟩
        simp only [List.forall_mem_cons]
        exact ⟨n1, n2, n3, nr⟩
      case nog1 =>
        intro q1
        exfalso
        omega
    · unfold Stop
      rename News _ _ _ _ => NNg2
      refine' at_c (c := c) hcd ?a1g2 ?a2g2 ?a3g2 NNg2 ?a5g2 XB TB rfl hbi (Nat.le_trans hz (by decide)) ?a8g2 ?a9g2 ?okg2 ?nog2
      case a1g2 => assumption
      case a2g2 => k_asm
      case a3g2 => k_asm
      case a5g2 => k_asm
      case a8g2 => ktr_room
      case a9g2 => ktr_units
      case okg2 =>
        intro q1 q2
        exfalso
        omega
      case nog2 =>
        intro q1 V e t1 h' tk' F5 N5
        k_steps
        unfold Stop
        rename News _ _ _ _ => NMg2
        refine tup_ne (News.get NMg2 (by k_mem)) (News.get NMg2 (by k_mem)) (SeqAt.EqAt.same _) (int_eqAt (by simp only [units_in1]; ktr_units)) ?_ ?_
        · ktr_units
        k_steps
        rename Fr _ _ _ _ => F9
        obtain ⟨o29, eo2⟩ := news_ob (L + 1 + 1) NMg2 (by k_mem)
        subst eo2
        refine TurnEnd.next ((L + 1 + 1 + 1, o3) :: (L + 1 + 1, o29) :: (L + 1, o1) :: rest) F9 (by k_asm) (by ktr_rel) ?_ ⟨o29, _, _, m_form rfl, rfl, by assumption⟩
        simp only [List.forall_mem_cons]
        exact ⟨n1, n2, n3, nr⟩
    · unfold Stop
      rename News _ _ _ _ => NNg3
      refine' at_c (c := c) hcd ?a1g3 ?a2g3 ?a3g3 NNg3 ?a5g3 XB TB rfl hbi (Nat.le_trans hz (by decide)) ?a8g3 ?a9g3 ?okg3 ?nog3
      case a1g3 => assumption
      case a2g3 => k_asm
      case a3g3 => k_asm
      case a5g3 => k_asm
      case a8g3 => ktr_room
      case a9g3 => ktr_units
      case okg3 =>
        intro q1 q2
        exfalso
        omega
      case nog3 =>
        intro q1 V e t1 h' tk' F5 N5
        k_steps
        unfold Stop
        rename News _ _ _ _ => NMg3
        refine tup_ne (News.get NMg3 (by k_mem)) (News.get NMg3 (by k_mem)) (SeqAt.EqAt.same _) (int_eqAt (by simp only [units_in1]; ktr_units)) ?_ ?_
        · ktr_units
        k_steps
        rename Fr _ _ _ _ => F9
        obtain ⟨o29, eo2⟩ := news_ob (L + 1 + 1) NMg3 (by k_mem)
        subst eo2
        refine TurnEnd.next ((L + 1 + 1 + 1, o3) :: (L + 1 + 1, o29) :: (L + 1, o1) :: rest) F9 (by k_asm) (by ktr_rel) ?_ ⟨o29, _, _, m_form rfl, rfl, by assumption⟩
        simp only [List.forall_mem_cons]
        exact ⟨n1, n2, n3, nr⟩
  case kd =>
    rintro m₁ nw h tk ⟨o2, v2, mr, rfl, rfl, d2⟩ F1 N1
    exact wpAny_execs_nil (fin h tk _ o2 v2 d2 F1 N1)
theorem zs39 : True := by w_top off; trivial
end Z56
theorem zr19 {p : Program} {w : World} {A : Around} {e : Env} {Q : Flow → Shared → Prop} {E : Value → Shared → Prop} {s : Shared} (h : wpAny (model p w) A (execs [] e) Q E s) : wpAny (model p w) A (execs [] e) Q E s := by
  w_top off
  first | (walk1; fail) | exact h
section Z57
local macro_rules | `(tactic| walk_at $s) => lines s [
  ("execs cons", alt [tokT, stA "execs (List.cons (Stmt.For _ _ _ _ _) _) _"])]
section Z58
local macro_rules | `(tactic| walk_at $s) => lines s [
  ("call ref", here (sq (shA "call (Value.ref 175) (List.cons (Value.bytes _ _) (List.cons (Value.int _ _) List.nil)) _") (sq (dfl (whole (fill "innew_c" "aaaaaeRS_"))) (sq (ins 12) swp))))]
section Z59
local macro_rules | `(tactic| walk_at $s) => lines s [
  ("subscriptTail", here (sq (shA "subscriptTail _ _ (Value.ref _) (Value.int _ _)") (sq (fill "item_int" "amHHH_w") (ins 1)))),
  ("call type:enumerate", here stp)]
def lawT3 : List Stmt := match lawD.1.1.body.drop 10 with
  | .For _ _ b _ _ :: _ => b
  | _ => []
theorem fr_five {h₀ h : Heap} {L : Addr} {m : Str → Option Value} {a b c d e : Str} {va vb vc vd ve : Value} (F : Fr h₀ L h m) (ha : m a = some va) (hb : m b = some vb) (hc : m c = some vc) (hd : m d = some vd) (he : m e = some ve) :
    Fr h₀ L h (fun z => if z = a then some va else if z = b then some vb else if z = c then some vc else if z = d then some vd else if z = e then some ve else m z) := by
  have h1 : m = (fun z => if z = a then some va else if z = b then some vb else if z = c then some vc else if z = d then some vd else if z = e then some ve else m z) := by
    funext z
    by_cases h1 : z = a
    · subst h1; simp [ha]
    by_cases h2 : z = b
    · subst h2; simp [h1, hb]
    by_cases h3 : z = c
    · subst h3; simp [h1, h2, hc]
    by_cases h4 : z = d
    · subst h4; simp [h1, h2, h3, hd]
    by_cases h5 : z = e
    · subst h5; simp [h1, h2, h3, h4, he]
    · simp [h1, h2, h3, h4, h5]
  rw [← h1]; exact F
theorem two_m {m : Str → Option Value} {a b : Str} {va vb : Value} (ha : m a = some va) (hb : m b = some vb) : m = fun z => if z = a then some va else if z = b then some vb else m z := by
  funext z
  by_cases h1 : z = a
  · subst h1; simp [ha]
  by_cases h2 : z = b
  · subst h2; simp [h1, hb]
  · simp [h1, h2]
set_option maxHeartbeats 8000000 in
theorem loop3t {w : World} {mean : ExcName → Option Value} {mg mb : Str → Option Value} {dp un : Nat} {a : Addr} {ccd : Value} {A₀ : Around} {base h₀ : Heap} {L : Addr} {mr : Str → Option Value} {s : Shared} {Q : Flow → Shared → Prop}
    {I D V Ie Il K PL : Addr} {oe ol o1 o2 o3 : Obj} {h1 h2 : Int} {k1 k2 tb tp tt tk2 tc : Tok} {eK eP e i cut : Nat} {ws ps : List Value} {l : List Int} {tail : List (Addr × Obj)} {f : Fld} {x b : Array UInt8} {wv : Value} {off : Nat} {lk : Bool}
    (B : Below A₀ base [] h₀) (F : Fr h₀ L s.heap (fun y => if y = Str.ofString "lacking" then some (.bool lk) else if y = Str.ofString "short" then some (.ref I) else if y = Str.ofString "field" then some (.ref V) else if y = Str.ofString "places" then some (.ref PL) else if y = Str.ofString "cut" then some (.int (cut : Nat) tc) else mr y))
    (X : (hd.heap_1 w.params).In h₀)
    (N : News h₀ L s.heap ((I, instObj 175 D) :: (D, inD h1 k1 b tb h2 k2 off tp) :: (V, tupF f.kind tk2 wv e) :: (Ie, oe) :: (Il, ol) :: (L + 1 + 1 + 1, o3) :: (L + 1 + 1, o2) :: (L + 1, o1) :: (K, listOf ws.toArray eK) :: (PL, listOf ps.toArray eP) :: tail))
    (T : Top vw (looseW vw [Str.ofString "ShapeError"]) mean mg mb h₀) (XB : (hd.heap_1 w.params).In base) (TB : Top vw (looseW vw [Str.ofString "ShapeError"]) mean mg mb base)
    (d2 : o2.data = .cell (some (.int (i : Nat) tt))) (hlt : ∀ q ∈ (V, tupF f.kind tk2 wv e) :: (Ie, oe) :: (Il, ol) :: (L + 1 + 1 + 1, o3) :: (L + 1 + 1, o2) :: (L + 1, o1) :: (K, listOf ws.toArray eK) :: (PL, listOf ps.toArray eP) :: tail, @LT.lt Nat _ q.1 D) (hDI : @LT.lt Nat _ D I)
    (hps : IntsAre ps l) (hplace : l[i]? = some (off : Int)) (hol : l.length ≤ 100)
    (hW : WorthIn tail wv f) (hok : f.Ok) (hx : f.enc = some x) (hb : b.size ≤ 1000) (hsub : (off : Int) + x.size ≤ b.size → ((KBw.bInts b).drop off).take x.size = KBw.bInts x)
    (hlk : lk = true ↔ ((b.size : Int) < off + x.size ∧ ¬ (x.size = 0 ∧ f.kind = Str.ofString "add")))
    (hdp : dp < 480) (hun : un < 4400)
    (fin : ∀ (h' : Heap) (tk' : Nat) (mr' : Str → Option Value), Fr h₀ L h' (fun y => if y = Str.ofString "lacking" then some (.bool lk) else if y = Str.ofString "short" then some (.ref I) else if y = Str.ofString "field" then some (.ref V) else if y = Str.ofString "places" then some (.ref PL) else if y = Str.ofString "cut" then some (.int (cut : Nat) tc) else mr' y) →
      News h₀ L h' ((V, tupF f.kind tk2 wv e) :: (Ie, oe) :: (Il, ol) :: (L + 1 + 1 + 1, o3) :: (L + 1 + 1, o2) :: (L + 1, o1) :: (K, listOf ws.toArray eK) :: (PL, listOf ps.toArray eP) :: tail) → Q .next { s with heap := h', toks := tk' }) :
    wpAny (model Challenge.pw_nz0115_01 w) (lawA dp un L a ccd) (execs (lawT3.drop 2) (lawE L a ccd)) Q (fun _ _ => False) s := by
  have hx8 := enc_size hok hx
  dsimp only [lawT3, lawB, lawS, lawE, lawD, List.drop]
  refine wpAny_execs_cons ?_
  k_steps
  unfold Stop
  rename News _ _ _ _ => NN
  refine' taken_c (x := x) (p := (off : Nat)) (ks := KBw.bInts b) (V := V) (f := f) (v := wv) (tk := tk2) (e := e) (news := (V, tupF f.kind tk2 wv e) :: (Ie, oe) :: (Il, ol) :: (L + 1 + 1 + 1, o3) :: (L + 1 + 1, o2) :: (L + 1, o1) :: (K, listOf ws.toArray eK) :: (PL, listOf ps.toArray eP) :: tail) ?pa1 ?pa2 ?pa3 ?pa4 ?pa5 XB TB rfl (Nat.ne_of_gt hDI) ?pa6 ?pa7 ?pa8 hok hx rfl ?pa9 hb ?pa11 ?pa12 ?pa13 ?pa14 ?oka ?noa
  case pa1 => assumption
  case pa2 => k_asm
  case pa3 => k_asm
  case pa4 => exact news_sub NN (by ktr_rel)
  case pa5 => k_asm
  case pa6 => exact fun q hq => Nat.ne_of_lt (hlt q hq)
  case pa7 => exact .head _
  case pa8 => exact worth_mono hW (by ktr_rel)
  case pa9 => exact KBw.ints_length _
  case pa11 => omega
  case pa12 => exact hsub
  case pa13 => ktr_room
  case pa14 => ktr_units
  case oka =>
    intro hc V' v' nw e' t' tp' h' tk' hW' F2 N2
    have hl : lk = false := by
      cases lk with
      | false => rfl
      | true =>
        obtain ⟨c1, c2⟩ := hlk.mp rfl
        rcases hc with hc | hc
        · omega
        · exact absurd hc c2
    subst hl
    have N3 : News h₀ L h' ((V', tup2 v' (.int (-2) t') e') :: (V, tupF f.kind tk2 wv e) :: (I, instObj 175 D) :: (D, inD h1 k1 b tb h2 k2 ((off : Nat) + x.size) tp') :: (V, tupF f.kind tk2 wv e) :: (Ie, oe) :: (Il, ol) :: (L + 1 + 1 + 1, o3) :: (L + 1 + 1, o2) :: (L + 1, o1) :: (K, listOf ws.toArray eK) :: (PL, listOf ps.toArray eP) :: (nw ++ tail)) :=
      news_nw2 (pre := [(I, instObj 175 D), (D, inD h1 k1 b tb h2 k2 ((off : Nat) + x.size) tp'), (V, tupF f.kind tk2 wv e), (Ie, oe), (Il, ol), (L + 1 + 1 + 1, o3), (L + 1 + 1, o2), (L + 1, o1), (K, listOf ws.toArray eK), (PL, listOf ps.toArray eP)]) N2 (by k_mem)
    clear N2
    obtain ⟨tl3, htl⟩ : ∃ t, t = nw ++ tail := ⟨_, rfl⟩
    rw [← htl] at N3
    have hs1 : ∀ p ∈ nw, p ∈ tl3 := fun p hp => by rw [htl]; exact List.mem_append_left _ hp
    have hs2 : ∀ p ∈ tail, p ∈ tl3 := fun p hp => by rw [htl]; exact List.mem_append_right _ hp
    k_steps
    rename News _ _ _ _ => NN4
    refine worth_ne (f := f) (fun p hp => (NN4 p hp).1) ?w1 ?w2 ?w3 ?w4
    case w1 => exact worth_mono hW' fun p hp => ((by ktr_rel : ∀ q ∈ tl3, q ∈ _) p (hs1 p hp))
    case w2 => exact worth_mono hW fun p hp => ((by ktr_rel : ∀ q ∈ tl3, q ∈ _) p (hs2 p hp))
    case w3 => ktr_units
    k_steps
    rename Fr _ _ _ _ => F9
    refine fin _ _ _ (fr_five F9 rfl rfl rfl rfl rfl) (news_sub (by k_asm) ?_)
    ktr_rel
    exact fun p hp => ((by ktr_rel : ∀ q ∈ tl3, q ∈ _) p (hs2 p hp))
  case noa =>
    intro hc1 hc2 V' q e' t' tp' h' tk' hq F2 N2
    have hl : lk = true := hlk.mpr ⟨hc1, hc2⟩
    subst hl
    k_steps
    all_goals first
      | (exfalso
         have hk9 : f.kind ≠ Str.ofString "add" := bne_iff_ne.mp (by assumption)
         exact absurd (hq hk9) (by assumption))
      | (rename Fr _ _ _ _ => F9
         exact fin _ _ _ (fr_five F9 rfl rfl rfl rfl rfl) (news_sub (by k_asm) (by ktr_rel)))
theorem zs40 : True := by w_top off; trivial
theorem news_inst {h₀ h : Heap} {L I D : Addr} {news : List (Addr × Obj)} (_ : News h₀ L h news) (_ : (I, instObj 175 D) ∈ news) : ∃ D', D' = D := ⟨D, rfl⟩
section Z60
local macro_rules | `(tactic| walk_at $s) => lines s [
  ("execs cons", alt [tokT, stA "execs (List.cons (Stmt.Assign (List.cons (Expr.Tuple (List.cons _ (List.cons _ List.nil)) _ _) List.nil) (Expr.Call _ _ _ _) _) _) _"])]
inductive InvE (L : Nat) (PL : Addr) (cut : Nat) (rest : List (Addr × Obj)) (i : Nat) (m₁ : Str → Option Value) : List (Addr × Obj) → Prop
  | mk {o2 o3 : Obj} {v2 v3 : Option Value} {tc : Tok} (hc : m₁ (Str.ofString "cut") = some (.int (cut : Nat) tc)) (hp : m₁ (Str.ofString "places") = some (.ref PL)) (d2 : o2.data = .cell v2) (d3 : o3.data = .cell v3) : InvE L PL cut rest i m₁ ((L + 1 + 1 + 1, o3) :: (L + 1 + 1, o2) :: rest)
theorem InvE.on {L : Nat} {PL : Addr} {cut : Nat} {rest nn : List (Addr × Obj)} {i : Nat} {m₁ : Str → Option Value} {o2 o3 : Obj} {v2 v3 : Option Value} {tc : Tok} {h₀ h : Heap} (_ : News h₀ L h nn) (_ : (L + 1 + 1, o2) ∈ nn) (_ : (L + 1 + 1 + 1, o3) ∈ nn)
    (hc : m₁ (Str.ofString "cut") = some (.int (cut : Nat) tc)) (hp : m₁ (Str.ofString "places") = some (.ref PL)) (d2 : o2.data = .cell v2) (d3 : o3.data = .cell v3) : InvE L PL cut rest i m₁ ((L + 1 + 1 + 1, o3) :: (L + 1 + 1, o2) :: rest) := .mk hc hp d2 d3
set_option maxHeartbeats 8000000 in
theorem loop3 {w : World} {mean : ExcName → Option Value} {mg mb : Str → Option Value} {dp un : Nat} {a : Addr} {ccd : Value} {A₀ : Around} {base h₀ : Heap} {L : Addr} {mr : Str → Option Value} {s : Shared} {Q : Flow → Shared → Prop}
    {P C BA I O DO K PL : Addr} {oP oC o1 o2 o3 : Obj} {td : Tok} {eK eP : Nat} {ws ps : List Value} {fl : List (Fld × Array UInt8)} {tail : List (Addr × Obj)}
    (B : Below A₀ base [] h₀) (F : Fr h₀ L s.heap (fun y => if y = Str.ofString "whole" then some (.ref I) else if y = Str.ofString "pen" then some (.ref P) else if y = Str.ofString "kept" then some (.ref K) else if y = Str.ofString "places" then some (.ref PL) else mr y))
    (X : (hd.heap_1 w.params).In h₀)
    (N : News h₀ L s.heap ((P, oP) :: (C, oC) :: (L + 1 + 1 + 1, o3) :: (L + 1 + 1, o2) :: (L + 1, o1) :: (K, listOf ws.toArray eK) :: (PL, listOf ps.toArray eP) :: tail))
    (T : Top vw (looseW vw [Str.ofString "ShapeError"]) mean mg mb h₀) (XB : (hd.heap_1 w.params).In base) (TB : Top vw (looseW vw [Str.ofString "ShapeError"]) mean mg mb base)
    (hpen : Pen oP oC C) (d1 : o1.data = .cell (some (.bytes (datOf fl) td))) (v2 v3 : Option Value) (d2 : o2.data = .cell v2) (d3 : o3.data = .cell v3) (x6 : Six P C BA (L + 1) (L + 1 + 1) (L + 1 + 1 + 1) O DO)
    (hoff : OffA P C BA (L + 1) (L + 1 + 1) (L + 1 + 1 + 1) ((K, listOf ws.toArray eK) :: (PL, listOf ps.toArray eP) :: tail)) (hkept : KeptIs tail ws fl) (hps : IntsAre ps (offL fl)) (hfl : fl.length ≤ 12) (h8 : ∀ p ∈ fl, p.2.size ≤ 8)
    (hdp : dp < 480) (hun : un < 4400)
    (next : ∀ (mr : Str → Option Value) (o2 o3 : Obj) (v2 v3 : Option Value) (h : Heap) (tk : Nat), Fr h₀ L h mr → o2.data = .cell v2 → o3.data = .cell v3 →
      News h₀ L h ((L + 1 + 1 + 1, o3) :: (L + 1 + 1, o2) :: (L + 1, o1) :: []) →
      wpAny (model Challenge.pw_nz0115_01 w) (lawA dp un L a ccd) (execs (lawB.drop 11) (lawE L a ccd)) Q (fun _ _ => False) { s with heap := h, toks := tk }) :
    wpAny (model Challenge.pw_nz0115_01 w) (lawA dp un L a ccd) (execs (lawB.drop 9) (lawE L a ccd)) Q (fun _ _ => False) s := by
  obtain ⟨f1, f2, f3, f4, f5, g2, g3, g4, g5, i3, i4, i5, j1, j2, j3, _, _⟩ := x6
  have hPC : @Ne Nat P C := f1
  have hd8 := datOf_le h8
  have hwl := hkept.len
  obtain ⟨ksd, hbi⟩ : ∃ ks, KBw.bInts (datOf fl) = ks := ⟨_, rfl⟩
  have hkl : ksd.length = (datOf fl).size := by rw [← hbi]; exact KBw.ints_length _
  have hol : (offL fl).length ≤ 100 := by simp [offL]; omega
  have hK := hoff (_, _) mm0
  have hPL := hoff (_, _) mm1
  have y1 : NE K P := hK.1
  have y2 : NE K C := hK.2.1
  have y3 : NE K BA := hK.2.2.1
  have y4 : NE K (L + 1) := hK.2.2.2.1
  have y5 : NE K (L + 1 + 1) := hK.2.2.2.2.1
  have y6 : NE K (L + 1 + 1 + 1) := hK.2.2.2.2.2
  have z1 : NE PL P := hPL.1
  have z2 : NE PL C := hPL.2.1
  have z3 : NE PL BA := hPL.2.2.1
  have z4 : NE PL (L + 1) := hPL.2.2.2.1
  have z5 : NE PL (L + 1 + 1) := hPL.2.2.2.2.1
  have z6 : NE PL (L + 1 + 1 + 1) := hPL.2.2.2.2.2
  have hT : ∀ p ∈ tail, (NE p.1 P) ∧ (NE p.1 C) ∧ (NE p.1 BA) ∧ (NE p.1 (L + 1)) ∧ (NE p.1 (L + 1 + 1)) ∧ (NE p.1 (L + 1 + 1 + 1)) := fun p hp => hoff p (.tail _ (.tail _ hp))
  clear hK hPL
  have tP : ∀ p ∈ tail, p.1 ≠ P := fun p hp => (hT p hp).1
  have tC : ∀ p ∈ tail, p.1 ≠ C := fun p hp => (hT p hp).2.1
  have t2 : ∀ p ∈ tail, p.1 ≠ L + 1 + 1 := fun p hp => (hT p hp).2.2.2.2.1
  have t3 : ∀ p ∈ tail, p.1 ≠ L + 1 + 1 + 1 := fun p hp => (hT p hp).2.2.2.2.2
  dsimp only [lawB, lawS, lawE, lawD, List.drop]
  k_steps
  unfold Stop
  rename (0 : Int) ≤ _ => hr0
  rename (_ : Int) < _ + 1 => hr1
  rename News _ _ _ (_ :: _ :: _ :: _) => NN
  rename Fr _ _ _ _ => FF
  refine wpAny_execs_cons ?_
  refine For_turns FF ?_
  k_steps
  unfold Stop
  obtain ⟨cut, hcut⟩ := Int.eq_ofNat_of_zero_le hr0
  refine' loop_enum (news := (L + 1 + 1 + 1, o3) :: (L + 1 + 1, o2) :: (L + 1, o1) :: (K, listOf ws.toArray eK) :: (PL, listOf ps.toArray eP) :: tail) (items := ws) (le := eK) (InvE L PL cut ((L + 1, o1) :: (K, listOf ws.toArray eK) :: (PL, listOf ps.toArray eP) :: tail)) rfl rfl ?kF ?kN ?km ?k0 ?kj ?kt ?kd
  case kF => k_asm
  case kN => exact news_sub NN (by ktr_rel)
  case km => k_mem
  case k0 =>
    subst hcut
    exact .mk rfl rfl d2 d3
  case kj =>
    intro i m₁ nw hJ
    cases hJ with | mk _ _ _ _ => k_mem
  case kt =>
    intro i v t T' m₁ nw Ie Il oe ol h tk hv hJ hce hcl hI hT' F1 N1
    cases hJ with | @mk o2 o3 v2 v3 tc hc9 hp9 d2 d3 =>
    rw [two_m hc9 hp9] at F1
    clear hc9 hp9
    have hil : i < fl.length := by rw [← hwl]; exact (List.getElem?_eq_some_iff.mp hv).1
    refine let_goal fun PP back => ?_
    obtain ⟨f, x, hfx⟩ : ∃ f x, fl[i]? = some (f, x) := ⟨fl[i].1, fl[i].2, by rw [List.getElem?_eq_getElem hil]⟩
    obtain ⟨V, tk2, e, wv, hwV, hV, hW, hok, hx⟩ := hkept.at_ i f x hfx
    refine back ?_
    clear back
    rw [hv] at hwV
    obtain rfl := Option.some.inj hwV
    have da := dat_at hfx
    have da1 := da.1
    have da2 := da.2.1
    have da3 := da.2.2
    clear da
    have hx8 := enc_size hok hx
    have hplace : (offL fl)[i]? = some ((offs fl i : Nat) : Int) := by simp [offL, hil]
    have nI : ∀ p ∈ ((L + 1 + 1 + 1, o3) :: (L + 1 + 1, o2) :: (L + 1, o1) :: (K, listOf ws.toArray eK) :: (PL, listOf ps.toArray eP) :: tail), NE p.1 Ie ∧ NE p.1 Il := hI
    have n1 : NE (L + 1 + 1 + 1) Ie := (nI (_, _) mm0).1
    have m1 : NE (L + 1 + 1 + 1) Il := (nI (_, _) mm0).2
    have n2 : NE (L + 1 + 1) Ie := (nI (_, _) mm1).1
    have m2 : NE (L + 1 + 1) Il := (nI (_, _) mm1).2
    have n3 : NE (L + 1) Ie := (nI (_, _) mm2).1
    have m3 : NE (L + 1) Il := (nI (_, _) mm2).2
    have n4 : NE K Ie := (nI (_, _) mm3).1
    have m4 : NE K Il := (nI (_, _) mm3).2
    have n5 : NE PL Ie := (nI (_, _) mm4).1
    have m5 : NE PL Il := (nI (_, _) mm4).2
    have nT : ∀ p ∈ tail, NE p.1 Ie ∧ NE p.1 Il := fun p hp => nI p (.tail _ (.tail _ (.tail _ (.tail _ (.tail _ hp)))))
    clear nI
    have tIe : ∀ p ∈ tail, p.1 ≠ Ie := fun p hp => (nT p hp).1
    have tIl : ∀ p ∈ tail, p.1 ≠ Il := fun p hp => (nT p hp).2
    have N2 : News h₀ L h ((V, tupF f.kind tk2 wv e) :: (Ie, oe) :: (Il, ol) :: (L + 1 + 1 + 1, o3) :: (L + 1 + 1, o2) :: (L + 1, o1) :: (K, listOf ws.toArray eK) :: (PL, listOf ps.toArray eP) :: tail) := fun p hp => by
      rcases List.mem_cons.mp hp with rfl | hp
      · exact N1 _ (by (repeat' refine List.mem_cons_of_mem _ ?_); exact hV)
      · exact N1 _ hp
    have vt := hT _ hV
    have vt1 := vt.1
    have vt2 := vt.2.1
    have vt3 := vt.2.2.1
    have vt4 := vt.2.2.2.1
    have vt5 := vt.2.2.2.2.1
    have vt6 := vt.2.2.2.2.2
    clear vt
    clear N1
    have hI8 : ∀ (o2 o3 : Obj), ∀ p ∈ ((L + 1 + 1 + 1, o3) :: (L + 1 + 1, o2) :: (L + 1, o1) :: (K, listOf ws.toArray eK) :: (PL, listOf ps.toArray eP) :: tail), p.1 ≠ Ie ∧ p.1 ≠ Il := fun o2 o3 => by
      simp only [List.forall_mem_cons]
      exact ⟨⟨n1, m1⟩, ⟨n2, m2⟩, ⟨n3, m3⟩, ⟨n4, m4⟩, ⟨n5, m5⟩, nT⟩
    k_steps
    unfold Stop
    rename News _ _ _ _ => NN2
    refine' octets_c (V := V) (f := f) (v := wv) (tk := tk2) (e := e) ?oa1 ?oa2 ?oa3 NN2 ?oa4 ?oa5 (by k_mem) ?oa6 hok ?oa7 ?oa8 ?reta
    case oa1 => assumption
    case oa2 => k_asm
    case oa3 => k_asm
    case oa4 => k_asm
    case oa5 => rfl
    case oa6 => exact worth_mono hW (by ktr_rel)
    case oa7 => ktr_room
    case oa8 => ktr_units
    intro r h' tk' hr F3 N4
    unfold EncIs at hr
    rw [hx] at hr
    dsimp only at hr
    obtain ⟨tx, rfl⟩ := hr
    k_steps
    all_goals
      unfold Stop
      rename Fr _ _ _ _ => F9
      rename News _ _ _ _ => N9
      rename KBw.bInts (KBy.picked _ _ _) = _ => hK
      obtain ⟨I9, eI9⟩ := fr_ref (Str.ofString "short") F9 rfl
      obtain ⟨D9, eD9⟩ := news_inst (I := I9) N9 (by rw [eI9]; k_mem)
      obtain ⟨o29, eo2⟩ := news_ob (L + 1 + 1) N9 (by k_mem)
      obtain ⟨o39, eo3⟩ := news_ob (L + 1 + 1 + 1) N9 (by k_mem)
      subst eI9 eD9 eo2 eo3
      rename ∀ q : Addr × Obj, q ∈ _ → @LT.lt Nat _ q.1 D9 => lB
      have hbz : (KBy.picked (datOf fl) none (some ((cut : Nat) : Int))).size = cut := by
        rw [← KBw.ints_length, hK, List.length_take]
        omega
      refine loop3t (f := f) (x := x) (off := offs fl i) (l := offL fl) (i := i) (cut := cut) (ps := ps) (ws := ws) (eK := eK) (eP := eP) (tail := tail) (o1 := o1) (o2 := o29) (o3 := o39) (I := I9) (D := D9) (V := V) (Ie := Ie) (Il := Il) (oe := oe) (ol := ol) (wv := wv) (tk2 := tk2) (e := e) (K := K) (PL := PL) (b := KBy.picked (datOf fl) none (some ((cut : Nat) : Int)))
        B (fr_five F9 rfl rfl rfl rfl rfl) X (news_sub N9 (by ktr_rel)) T XB TB (by assumption) (fun q hq => lB q ((by ktr_rel : ∀ q ∈ _, q ∈ _) q hq)) (by assumption) hps hplace hol hW hok hx ?_ ?_ ?_ hdp hun ?_
      · omega
      · intro hle
        rw [hbz] at hle
        rw [hK, List.drop_take, List.take_take, Nat.min_eq_left (by omega), ← hbi]
        exact da3
      · rw [hbz]
        first
          | exact iff_of_true (decide_eq_true (by assumption)) ⟨by omega, fun z => by omega⟩
          | exact iff_of_false (fun z => absurd (of_decide_eq_true z) (by assumption)) (fun z => by omega)
          | exact ⟨fun z => ⟨by omega, fun y => bne_iff_ne.mp z y.2⟩, fun z => bne_iff_ne.mpr fun y => z.2 ⟨by omega, y⟩⟩
      · intro h8' tk8 mr8 F8 N8
        refine TurnEnd2.next _ F8 N8 (fun p hp => .tail _ hp) (hI8 _ _) (.mk rfl rfl (by assumption) (by assumption))
  case kd =>
    intro m₁ nw h tk hJ F1 N1
    cases hJ with | @mk o2 o3 v2 v3 tc hc9 hp9 d2 d3 =>
    rw [two_m hc9 hp9] at F1
    exact next _ o2 o3 v2 v3 h tk F1 d2 d3 (news_sub N1 (by ktr_rel))
theorem zs41 : True := by w_top off; trivial
end Z60
end Z59
end Z58
theorem zr20 {p : Program} {w : World} {A : Around} {e : Env} {Q : Flow → Shared → Prop} {E : Value → Shared → Prop} {s : Shared} (h : wpAny (model p w) A (execs [] e) Q E s) : wpAny (model p w) A (execs [] e) Q E s := by
  w_top off
  first | (walk1; fail) | exact h
set_option maxHeartbeats 8000000 in
theorem loop4 {w : World} {mean : ExcName → Option Value} {mg mb : Str → Option Value} {dp un : Nat} {a : Addr} {ccd : Value} {A₀ : Around} {base h₀ : Heap} {L : Addr} {mr : Str → Option Value} {s : Shared} {Q : Flow → Shared → Prop}
    {o1 o2 o3 : Obj} {td : Tok} {dat : Array UInt8}
    (B : Below A₀ base [] h₀) (F : Fr h₀ L s.heap mr)
    (X : (hd.heap_1 w.params).In h₀)
    (N : News h₀ L s.heap ((L + 1 + 1 + 1, o3) :: (L + 1 + 1, o2) :: (L + 1, o1) :: []))
    (T : Top vw (looseW vw [Str.ofString "ShapeError"]) mean mg mb h₀) (XB : (hd.heap_1 w.params).In base) (TB : Top vw (looseW vw [Str.ofString "ShapeError"]) mean mg mb base)
    (d1 : o1.data = .cell (some (.bytes dat td))) (v2 v3 : Option Value) (d2 : o2.data = .cell v2) (d3 : o3.data = .cell v3) (hz : dat.size ≤ 100)
    (hdp : dp < 480) (hun : un < 4400)
    (fin : ∀ (h' : Heap) (tk' : Nat) (m' : Str → Option Value), Fr h₀ L h' m' → Q (.ret (.bool true)) { s with heap := h', toks := tk' }) :
    wpAny (model Challenge.pw_nz0115_01 w) (lawA dp un L a ccd) (execs (lawB.drop 11) (lawE L a ccd)) Q (fun _ _ => False) s := by
  dsimp only [lawB, lawS, lawE, lawD, List.drop]
  refine wpAny_execs_cons ?_
  k_steps
  unfold Stop
  rename Fr _ _ _ _ => F9
  rename News _ _ _ _ => N9
  obtain ⟨o29, eo2⟩ := news_ob (L + 1 + 1) N9 (by k_mem)
  obtain ⟨o39, eo3⟩ := news_ob (L + 1 + 1 + 1) N9 (by k_mem)
  obtain ⟨o19, eo1⟩ := news_ob (L + 1) N9 (by k_mem)
  subst eo2 eo3 eo1
  obtain ⟨rest, er⟩ := news_rest4 N9
  refine' inner4 (c := 2) (dd := 77) (dat := dat) (rest := rest) (o1 := o19) (o2 := o29) (o3 := o39) (.inl ⟨rfl, rfl⟩) ?a1x ?a2x ?a3x ?a4x ?a5x XB TB (by assumption) _ (by assumption) (by assumption) ?a6x hz hdp hun ?a7x
  case a1x => assumption
  case a2x => exact fr_one F9 rfl
  case a3x => k_asm
  case a4x => subst er; exact news_sub N9 (by ktr_rel)
  case a5x => k_asm
  case a6x =>
    subst er
    intro p hp
    simp only [List.mem_cons, List.not_mem_nil, or_false] at hp
    rcases hp with rfl | rfl | rfl | rfl <;> (show @Ne Nat _ _; first | k_ne | (dsimp only; omega))
  case a7x =>
    intro h' tk' m' o2 v2 d2 F3 N3
    subst er
    k_steps
    unfold Stop
    rename Fr _ _ _ _ => F9
    rename News _ _ _ _ => N9
    obtain ⟨o29, eo2⟩ := news_ob (L + 1 + 1) N9 (by k_mem)
    obtain ⟨o39, eo3⟩ := news_ob (L + 1 + 1 + 1) N9 (by k_mem)
    obtain ⟨o19, eo1⟩ := news_ob (L + 1) N9 (by k_mem)
    subst eo2 eo3 eo1
    obtain ⟨rest, er⟩ := news_rest7 N9
    refine' inner4 (c := 4) (dd := 84) (dat := dat) (rest := rest) (o1 := o19) (o2 := o29) (o3 := o39) (.inr ⟨rfl, rfl⟩) ?a1y ?a2y ?a3y ?a4y ?a5y XB TB (by assumption) _ (by assumption) (by assumption) ?a6y hz hdp hun ?a7y
    case a1y => assumption
    case a2y => exact fr_one F9 rfl
    case a3y => k_asm
    case a4y => subst er; exact news_sub N9 (by ktr_rel)
    case a5y => k_asm
    case a6y =>
      subst er
      intro p hp
      simp only [List.mem_cons, List.not_mem_nil, or_false] at hp
      rcases hp with rfl | rfl | rfl | rfl <;> (show @Ne Nat _ _; first | k_ne | (dsimp only; omega))
    case a7y =>
      intro h' tk' m' o2 v2 d2 F3 N3
      subst er
      k_steps
      rename Fr _ _ _ _ => F8
      exact fin _ _ _ F8
theorem zs42 : True := by w_top off; trivial
end Z57
end Z54
end Z49
end Z48
theorem zr21 {p : Program} {w : World} {A : Around} {e : Env} {Q : Flow → Shared → Prop} {E : Value → Shared → Prop} {s : Shared} (h : wpAny (model p w) A (execs [] e) Q E s) : wpAny (model p w) A (execs [] e) Q E s := by
  w_top off
  first | (walk1; fail) | exact h
section Z61
local macro_rules | `(tactic| ktr_room) => rmT ["lawA"]
section Z62
local macro_rules | `(tactic| walk_at $s) => lines s [
  ("eval BoolOp", here (sq (shA "eval (Expr.BoolOp BoolOp.Or (List.cons (Expr.Name _ _) (List.cons (Expr.Constant (Const.bytes List.nil) _ _) List.nil)) _) _") (dfl (rf "or_b ?_")))),
  ("binaryOp Add bytes bytes", here (sq (shA "binaryOp _ (Value.bytes _ _) (Value.bytes _ _)") (sq (fill "KBy.add_bytes" "B_") (ins 2))))]
theorem callWithC_K0 {prog : Program} {w : World} {A : Around} {E : Value → Shared → Prop} {s : Shared} {env : Env} {K : Frag} {f : Value} {first : List Value} {pos : Pos} {Q : Value → Shared → Prop} (X : K.In s.heap) (hk : keepIn K f = true)
    (h : wpC (model prog w) A (call f (first ++ [])) Q E s) : wpC (model prog w) A (callWith pos f first (backTo pos (starEach [] env)) (backToKw pos (keywordEach [] env))) Q E s :=
  callWithC_of (P := K.In) rfl (keeps_K hk) (evalArgs_nil3 ⟨X, h⟩)
set_option maxHeartbeats 8000000 in
theorem law_run {w : World} {mean : ExcName → Option Value} {mg mb : Str → Option Value} {dp un : Nat} {a : Addr} {ccd : Value} {A₀ : Around} {base h₀ : Heap} {L : Addr} {mr : Str → Option Value} {s : Shared} {Q : Flow → Shared → Prop}
    {P C : Addr} {oP oC o1 o2 o3 : Obj} {v1 v2 v3 : Option Value}
    (B : Below A₀ base [] h₀) (F : Fr h₀ L s.heap (fun y => if y = Str.ofString "pen" then some (.ref P) else mr y))
    (X : (hd.heap_1 w.params).In h₀)
    (N : News h₀ L s.heap ((P, oP) :: (C, oC) :: (L + 1 + 1 + 1, o3) :: (L + 1 + 1, o2) :: (L + 1, o1) :: []))
    (T : Top vw (looseW vw [Str.ofString "ShapeError"]) mean mg mb h₀) (XB : (hd.heap_1 w.params).In base) (TB : Top vw (looseW vw [Str.ofString "ShapeError"]) mean mg mb base)
    (hpen : Pen oP oC C) (d1 : o1.data = .cell v1) (d2 : o2.data = .cell v2) (d3 : o3.data = .cell v3)
    (l1 : @LT.lt Nat _ (L + 1 + 1 + 1) P) (l2 : @LT.lt Nat _ C P) (hC1 : @Ne Nat C (L + 1)) (hC2 : NE C (L + 1 + 1)) (hC3 : NE C (L + 1 + 1 + 1))
    (hdp : dp < 480) (hun : un < 4400)
    (fin : ∀ (h' : Heap) (tk' : Nat) (m' : Str → Option Value), Fr h₀ L h' m' → Q (.ret (.bool true)) { s with heap := h', toks := tk' }) :
    wpC (model Challenge.pw_nz0115_01 w) (lawA dp un L a ccd) (execs (lawB.drop 1) (lawE L a ccd)) Q (fun _ _ => False) s := by
  dsimp only [lawB, lawS, lawE, lawD, List.drop]
  refine execsC_cons (tupassC (tupC (nameCallC ?_)))
  k_steps
  refine callWithC_K0 (K := hd.heap_1 w.params) (by k_in) (by k_is) ?_
  refine' outnew_c (news := (P, oP) :: (C, oC) :: (L + 1 + 1 + 1, o3) :: (L + 1 + 1, o2) :: (L + 1, o1) :: []) ?a1 ?a2 ?a3 ?a4 ?a5 rfl ?a7 ?a8 ?a9
  case a1 => assumption
  case a2 => k_asm
  case a3 => k_asm
  case a4 => exact N
  case a5 => k_asm
  case a7 => ktr_room
  case a8 => ktr_units
  intro O DO BA h1 k1 h' tk' F2 N2 lA l3 l4
  have lB := lA
  have l5 : @LT.lt Nat _ DO O := l3
  have l6 : @LT.lt Nat _ O BA := l4
  clear l3 l4
  have lO : ∀ p : Addr × Obj, p ∈ _ → @LT.lt Nat _ p.1 O := fun p hp => Nat.lt_trans (lA p hp) l5
  have lBA : ∀ p : Addr × Obj, p ∈ _ → @LT.lt Nat _ p.1 BA := fun p hp => Nat.lt_trans (lO p hp) l6
  k_steps
  dsimp only
  rename Fr _ _ _ _ => F9
  rename News _ _ _ _ => N9
  obtain ⟨K9, eK9⟩ := fr_ref (Str.ofString "kept") F9 rfl
  obtain ⟨P9, eP9⟩ := fr_ref (Str.ofString "places") F9 rfl
  obtain ⟨o9, eo9⟩ := news_ob (L + 1) N9 (by k_mem)
  subst eK9 eP9 eo9
  have t1 : @LT.lt Nat _ P DO := lB (P, oP) (by k_mem)
  have t2 : @LT.lt Nat _ C DO := lB (C, oC) (by k_mem)
  have t3 : @LT.lt Nat _ (L + 1 + 1 + 1) DO := lB (L + 1 + 1 + 1, o3) (by k_mem)
  have t4 : @LT.lt Nat _ (L + 1 + 1) DO := lB (L + 1 + 1, o2) (by k_mem)
  have t5 : @LT.lt Nat _ (L + 1) DO := lB (L + 1, _) (by k_mem)
  have x6 : Six P C BA (L + 1) (L + 1 + 1) (L + 1 + 1 + 1) O DO := by
    have hC1' : NE C (L + 1) := hC1
    constructor <;> first | exact hC1' | exact hC2 | exact hC3 | (show @Ne Nat _ _; k_ne) | (refine ⟨?_, ?_, ?_, ?_, ?_, ?_⟩ <;> (show @Ne Nat _ _; k_ne))
  refine loop1 (K := K9) (PL := P9) (o1 := o9) (o2 := o2) (o3 := o3) (P := P) (C := C) (oP := oP) (oC := oC) (O := O) (DO := DO) (BA := BA) (h1 := h1) (k1 := k1) (eK := 0) (eP := 0) B (fr_four F9 rfl rfl rfl rfl) X (news_sub N9 (by ktr_rel)) T XB TB hpen (by assumption) v2 v3 d2 d3 x6 ?_ hdp hun ?_
  · simp only [OffA, List.forall_mem_cons]
    refine ⟨⟨?_, ?_, ?_, ?_, ?_, ?_⟩, ⟨?_, ?_, ?_, ?_, ?_, ?_⟩, fun _ h => nomatch h⟩ <;> (first | k_ne | (show @Ne Nat _ _; k_ne) | (show @Ne Nat _ _; omega))
  intro oP oC o1 K PL eK eP ws ps fl tail td mr h tk F1 N1 hpen d1 hoff hkept hps hfl h8
  refine wpC_of (mid B F1 X N1 T XB TB hpen d1 v2 v3 d2 d3 x6 hoff hkept hps hfl h8 hdp hun ?_)
  intro oP oC I D h1 h2 k1 k2 tb tp ah mr h tk hah hpen F2 N2 hlt hDI
  refine loop2 B F2 X N2 T XB TB hpen d1 hah hlt hDI hkept hfl h8 hdp hun ?_
  intro mr h tk F3 N3
  refine loop3 (BA := BA) (O := O) (DO := DO) B F3 X N3 T XB TB hpen d1 v2 v3 d2 d3 x6 hoff hkept hps hfl h8 hdp hun ?_
  intro mr o2 o3 v2 v3 h tk F4 d2 d3 N4
  have hd8 := datOf_le h8
  refine loop4 B F4 X N4 T XB TB d1 v2 v3 d2 d3 (by omega) hdp hun ?_
  intro h' tk' m' F5
  exact fin h' tk' m' F5
theorem zs43 : True := by w_top off; trivial
end Z62
end Z61
theorem zr22 {p : Program} {w : World} {A : Around} {e : Env} {Q : Flow → Shared → Prop} {E : Value → Shared → Prop} {s : Shared} (h : wpAny (model p w) A (execs [] e) Q E s) : wpAny (model p w) A (execs [] e) Q E s := by
  w_top off
  first | (walk1; fail) | exact h
theorem law_holds : Challenge.rw_nz0115_01.Holds := hd (by
  k_fill
  intro w s₀ s₁ mg mb G Y fa o pm cd doc dV kV ho hd hcd hD hmg hg args vals as hpre hlay hrd hwl hlo
  have KX := kIn_of Y
  have X := (Ground.X G).1
  have V := (Ground.X G).2
  refine Ground.open G ?_
  intro T B D TE TW
  wrow_args hpre hlay hrd hwl hlo
  refine enter_callC ?_
  have K0 := below_caller s₁.heap
  have he := Dflts.none hD rfl; subst he; have he := Dflts.noKw hD; subst he
  refine callC_cellsN (by decide) ho (fd_plain hd) (Top.nolimit T) hcd rfl (kinds_of (by kinds_ok)) (by decide) fun h₁ tk₁ cells F N0 X0 => ?_
  k_cells X0
  clear hd hcd D TE TW B
  refine execsC_cons (wpC_of ?_)
  k_steps
  all_goals
    dsimp only
    rename Fr _ _ _ _ => F9
    rename News _ _ _ _ => N9
    obtain ⟨hh9, eh9⟩ := fr_heap F9
    subst eh9
    obtain ⟨P9, eP9⟩ := fr_ref (Str.ofString "pen") F9 rfl
    obtain ⟨o39, eo3⟩ := news_ob (s₁.heap.objs.size + 1 + 1 + 1) N9 (by k_mem)
    obtain ⟨o29, eo2⟩ := news_ob (s₁.heap.objs.size + 1 + 1) N9 (by k_mem)
    obtain ⟨o19, eo1⟩ := news_ob (s₁.heap.objs.size + 1) N9 (by k_mem)
    obtain ⟨C9, eC9⟩ := news_pen (P := P9) N9 (by rw [eP9]; k_mem)
    subst eP9 eo3 eo2 eo1 eC9
    obtain ⟨oC9, eoC⟩ := news_ob C9 N9 (by k_mem)
    obtain ⟨oP9, eoP⟩ := news_ob P9 N9 (by k_mem)
    have hpen : Pen oP9 oC9 C9 := by
      subst eoC eoP
      refine Pen.of (by assumption) ?_
      rename List.length _ = (List.map _ _).length => hl8
      rw [hl8, List.length_map, List.length_take]
      omega
    have hN : News s₁.heap s₁.heap.objs.size hh9 ((P9, oP9) :: (C9, oC9) :: (s₁.heap.objs.size + 1 + 1 + 1, o39) :: (s₁.heap.objs.size + 1 + 1, o29) :: (s₁.heap.objs.size + 1, o19) :: []) := by
      subst eoC eoP
      exact news_sub N9 (by ktr_rel)
    rename ∀ q : Addr × Obj, q ∈ _ → @LT.lt Nat _ q.1 P9 => lP
    refine wpC_mono (E := fun _ _ => False) ?_ (fun _ _ q => q) (fun _ _ q => q.elim)
    refine law_run (L := s₁.heap.objs.size) (a := fa) (ccd := cd) (A₀ := callerA) (base := s₁.heap) (h₀ := s₁.heap) K0 (fr_one F9 rfl) KX hN T KX T hpen (by assumption) (by assumption) (by assumption) (lP (s₁.heap.objs.size + 1 + 1 + 1, _) (by k_mem)) (lP (C9, _) (by k_mem)) (by k_ne) (NE.of (by k_ne)) (NE.of (by k_ne)) (by decide) (by decide) ?_
    exact fun h' tk' m' F' => ⟨.inl ⟨_, _, [], rfl, fun _ => rfl, ReadsW.bool true, by wrow_post, fun _ => ⟨List.nodup_nil, fun _ hm => (nomatch hm)⟩⟩, .of_keep F'.keep, rfl, .of_eq hg⟩)
end Z47
end Z46
end Z3
end Z2
end Z1
theorem zr23 {p : Program} {w : World} {A : Around} {e : Env} {Q : Flow → Shared → Prop} {E : Value → Shared → Prop} {s : Shared} (h : wpAny (model p w) A (execs [] e) Q E s) : wpAny (model p w) A (execs [] e) Q E s := by
  w_top off
  first | (walk1; fail) | exact h
end Mine
theorem PySem.Challenge.cw_nz0115_01_holds : PySem.Challenge.rw_nz0115_01.Holds := by
  exact Mine.law_holds
