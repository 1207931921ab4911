import PyProof.Rows.All
import KE.KBytesWalk
import KE.KBytesAny
import KE.KBytesCut
import KE.KBytesMore
import Wide.All
import OpenK.AllK
import Wide.FinOn
import PyProof.ExcInit
import PyProof.InstStoreFacts
import PySem.Challenge.RW_pf0248_01
open PySem PySem.W PyProof.Rows
set_option Elab.async false
set_option maxRecDepth 100000
set_option maxHeartbeats 8000000

namespace Mine
/-! A LOGIC OF CLEAN CONTEXTS. The model's bytearray.__init__ asks the stack whether a codec holds the very object;
an `Around` does not tell this, so it is told here: no entry of the stack is such a built-in. -/
def badIds : List String := ["bytearray.__contains__", "bytearray.__mod__", "bytearray.__rmod__", "_struct.pack_into.held", "bytearray.find.held"] ++ Builtin.Bytes.decodersThatHold
def okCode : Code → Bool
  | .builtin id _ => !badIds.contains id
  | _ => true
def Clean (Γ : Ctx) : Prop := okCode Γ.code = true ∧ ∀ x ∈ Γ.below, okCode x.1 = true

def wpC {α : Type} (M : Model) (A : Around) (t : Sem α) (Q : α → Shared → Prop) (E : Value → Shared → Prop) (s : Shared) : Prop :=
  ∀ Γ p, Γ.In A → Clean Γ → Sem.wp M Γ t (fun a _ s' => Q a s') (fun e _ s' => E e s') p s
def codeC (M : Model) (A : Around) (c : Code) (R : Result → Shared → Prop) (s : Shared) : Prop :=
  ∀ Γ p, Γ.code = c → Γ.Below A → (∀ x ∈ Γ.below, okCode x.1 = true) → wpCode M Γ R p s

section
variable {α β : Type} {M : Model} {A : Around} {E : Value → Shared → Prop} {s : Shared}
theorem wpC_any {t : Sem α} {Q : α → Shared → Prop} (h : wpAny M A t Q E s) : wpC M A t Q E s := fun Γ p hΓ _ => h Γ p hΓ
theorem codeC_any {c : Code} {R : Result → Shared → Prop} (h : codeAny M A c R s) : codeC M A c R s := fun Γ p hc hΓ _ => h Γ p hc hΓ
theorem wpC_bind {m : Sem α} {f : α → Sem β} {Q : β → Shared → Prop} (h : wpC M A m (fun a s' => wpC M A (f a) Q E s') E s) : wpC M A (m >>= f) Q E s := fun Γ p hΓ hc => by
  rw [Sem.wp_bind']
  exact Sem.wp_mono M Γ m (fun a p' s' h' => h' Γ p' hΓ hc) (fun _ _ _ h' => h') p s (h Γ p hΓ hc)
/-- the first step is the kit's, the rest is clean -/
theorem wpC_step {m : Sem α} {f : α → Sem β} {Q : β → Shared → Prop} (h : wpAny M A m (fun a s' => wpC M A (f a) Q E s') E s) : wpC M A (m >>= f) Q E s := wpC_bind (wpC_any h)
theorem wpC_pure {a : α} {Q : α → Shared → Prop} (h : Q a s) : wpC M A (pure a) Q E s := fun _ _ _ _ => h
theorem wpC_mono {t : Sem α} {Q Q' : α → Shared → Prop} {E' : Value → Shared → Prop} (h : wpC M A t Q E s) (hQ : ∀ a s, Q a s → Q' a s) (hE : ∀ e s, E e s → E' e s) : wpC M A t Q' E' s :=
  fun Γ p hΓ hc => Sem.wp_mono M Γ t (fun a _ s => hQ a s) (fun e _ s => hE e s) p s (h Γ p hΓ hc)
theorem wpC_holding {vs : List Value} {m : Sem α} {Q : α → Shared → Prop} (h : wpC M A m Q E s) : wpC M A (holding vs m) Q E s := fun Γ p hΓ hc => by rw [Sem.wp_holding]; exact h Γ p hΓ hc
theorem wpC_keep {vs : List Value} {m : Sem α} {Q : α → Shared → Prop} (h : wpC M A m Q E s) : wpC M A (m.keep vs) Q E s := fun Γ p hΓ hc => by rw [Sem.wp_keep]; exact h Γ p hΓ hc
theorem wpC_onRaise {m : Sem α} {k : Value → Sem Unit} {Q : α → Shared → Prop} (h : wpC M A m Q (fun e s' => wpC M A (k e) (fun _ s'' => E e s'') E s') s) : wpC M A (m.onRaise k) Q E s := fun Γ p hΓ hc => by
  rw [Sem.wp_onRaise]
  exact Sem.wp_mono M Γ m (fun _ _ _ h' => h') (fun e p' s' h' => h' Γ p' hΓ hc) p s (h Γ p hΓ hc)
theorem codeC_mono {c : Code} {R R' : Result → Shared → Prop} (h : codeC M A c R s) (hR : ∀ r s, R r s → R' r s) : codeC M A c R' s := fun Γ p hc hΓ hb => wpCode_mono hR (h Γ p hc hΓ hb)

theorem wpC_run {c : Code} {h : Option Value} {Q : Flow → Shared → Prop} (hc : codeC M (A.mark h) c (fun r s' => match r with | .ok f => Q f s' | .error e => E e s') s) (hnb : h ≠ some byPass := by intro x; cases x) : wpC M A (run c h) Q E s :=
  fun Γ p hΓ hk => by
    rw [Sem.wp_run]
    exact hc _ p rfl (hΓ.enter c h p hnb) fun x hx => by
      rcases List.mem_cons.mp hx with rfl | hx
      · exact hk.1
      · exact hk.2 x hx
theorem wpC_runValue {c : Code} {Q : Value → Shared → Prop} (hc : codeC M A c (fun r s' => match r with | .ok (.ret v) => Q v s' | .ok _ => False | .error e => E e s') s) : wpC M A (runValue c) Q E s :=
  fun Γ p hΓ hk => by
    rw [Sem.wp_runValue]
    exact hc _ p rfl (hΓ.enter c none p (by intro x; cases x)) fun x hx => by
      rcases List.mem_cons.mp hx with rfl | hx
      · exact hk.1
      · exact hk.2 x hx
theorem wpC_call {f : Value} {pos : List Value} {kw : List (Str × Value)} {Q : Value → Shared → Prop}
    (hc : codeC M A (.call f ⟨pos, kw⟩) (fun r s' => match r with | .ok (.ret v) => Q v s' | .ok _ => False | .error e => E e s') s) : wpC M A (call f pos kw) Q E s := wpC_runValue hc
theorem codeC_of_tree {c : Code} {R : Result → Shared → Prop} (hk : okCode c = true)
    (h : wpC M (A.under c) (M.den c) (fun fin s' => match fin with | .done f => R (.ok f) s' | .again c' => c'.quiet = true ∧ codeC M A c' R s') (fun e s' => R (.error e) s') s) : codeC M A c R s := fun Γ p hc hΓ hb => by
  rw [wpCode_iff_wp, hc]
  refine Sem.wp_mono M Γ _ (fun fin p' s' h' => ?_) (fun _ _ _ h' => h') p s (h Γ p (hc ▸ hΓ.in) ⟨by rw [hc]; exact hk, hb⟩)
  cases fin with
  | done f => exact h'
  | again c' => exact ⟨h'.1, h'.2 (Γ.goto c') p' rfl (hΓ.goto c') hb⟩

theorem wpC_exported {a : Addr} {Q : Bool → Shared → Prop} (h : Q false s) : wpC M A (Builtin.Bytes.exported (.ref a)) Q E s := fun Γ p _ hk => by
  unfold Builtin.Bytes.exported
  show Q (List.any ((Γ.code, p) :: Γ.below) _) s
  rw [List.any_eq_false.mpr]
  · exact h
  · rintro ⟨c, q⟩ hx
    have hc : okCode c = true := by
      rcases List.mem_cons.mp hx with e | hx
      · cases e; exact hk.1
      · exact hk.2 _ hx
    split
    all_goals (try (rename_i heq; cases heq))
    all_goals (try (intro z; cases z; done))
    all_goals (try (simp [okCode, badIds] at hc; done))
    simp only [okCode, badIds, Bool.not_eq_true', List.contains_eq_mem, decide_eq_false_iff_not, List.mem_append, not_or] at hc
    simp [hc.2]
end

theorem wp_of_wpC_done {M : Model} {A : Around} {Γ : Ctx} {t : Sem Fin} {R : Result → Shared → Prop} {s : Shared} (hin : Γ.In A) (hk : Clean Γ)
    (h : wpC M A t (fun fin s' => ∃ f, fin = .done f ∧ R (.ok f) s') (fun e s' => R (.error e) s') s) (p : Pos) :
    Sem.wp M Γ t (Sem.finPost M Γ R) (fun e _ s' => R (.error e) s') p s := by
  refine Sem.wp_mono M Γ t (fun fin p' s' h' => ?_) (fun _ _ _ h' => h') p s (h Γ p hin hk)
  obtain ⟨f, rfl, hf⟩ := h'
  exact hf
end Mine

namespace Mine
open PySem.Calls

theorem caller_clean : Clean ⟨.builtin "claim.caller" {}, none, none, [], none⟩ := ⟨by decide +kernel, fun x hx => nomatch hx⟩

/-- the claim's thread, from a clean walk: as the kit's `ClaimW.callFrom_of_specG`, but the walk is asked for the caller's own (clean) context alone -/
theorem callFromC {c : ClaimW} {tree : List Value → Sem Fin} {w : World} {s : Shared} {free : Addr → Prop} {gens : Prop} {kept : Heap → Prop} (hz : s.asleep) (hgens : s.gens = #[])
    (hspec : ∀ args, c.pre args = true → WData.layableAll args = true →
      ∀ ord : List DictEntry → List DictEntry, (∀ l, (ord l).Perm l) →
      ∃ vs s₁, layAllW c.records (classAt s.heap) w.params ord args s = some (vs, s₁) ∧
        wpC (model c.prog w) callerA (tree vs) (fun fin s' => ∃ f, fin = .done f ∧ (c.Ends s args vs s₁ (.ok f) s' ∧ s'.os = s.os ∧ AllBare s'.gens ∧ kept s'.heap))
          (fun e s' => c.Ends s args vs s₁ (.error e) s' ∧ s'.os = s.os ∧ AllBare s'.gens ∧ kept s'.heap) s₁) :
    c.CallFrom (fun vs => ⟨tree vs, .builtin "claim.caller" {}, default, []⟩) w free gens kept s := by
  intro args hpre hlay ord hord
  obtain ⟨vs, s₁, hlaid, hcode⟩ := hspec args hpre hlay ord hord
  have hal := layAllW_rest _ _ _ hlaid
  have hwp := wp_of_wpC_done (R := fun r s' => (c.Ends s args vs s₁ r s' ∧ s'.os = s.os ∧ kept s'.heap) ∧ leftWithCleanup s'.gens = false) caller_in caller_clean
    (wpC_mono hcode (fun fin s' ⟨f, e, h1, h2, h3, h4⟩ => ⟨f, e, ⟨h1, h2, h4⟩, leftWithCleanup_false_of_bare h3⟩) (fun e s' ⟨h1, h2, h3, h4⟩ => ⟨⟨h1, h2, h4⟩, leftWithCleanup_false_of_bare h3⟩)) default
  obtain ⟨k, r, s'', s', hsched, hrun, hfo, hcase, hos, hkp⟩ := wp_halts_full (M := model c.prog w) (R := fun r s' => c.Ends s args vs s₁ r s' ∧ s'.os = s.os ∧ kept s'.heap) (Shared.asleep_of_life hal.2.2.2 hz) hwp
  obtain ⟨eh, _, _, eo, _⟩ := Shared.forget_eq hfo
  have hcase := hcase.congr eh
  have hkp : kept s'.heap := by rw [eh]; exact hkp
  rw [← eo] at hos
  have hlife : s'.heap.life = s.heap.life := (runN_life _ _ _ hrun).trans hal.2.2.2
  refine ⟨vs, s₁, hlaid, k, _, s', hsched, ?_, (fun _ i x hx => by rw [hgens] at hx; simp at hx), hkp, by rw [hlife], Shared.rest_eq hos⟩
  rcases hcase with ⟨v, rfl, d1, d2, d3, d4, d5⟩ | ⟨e, ob, cls, rfl, d1, d2, d3, d4, d5⟩
  · exact .inl ⟨v, rfl, d1, d2, d3, fun b o y _ => d4 b o y, d5⟩
  · exact .inr ⟨e, ob, cls, rfl, d1, d2, d3, d4, fun b o y _ => d5 b o y⟩

/-- what is asked of the call: as the kit's `WalkO`, in clean contexts -/
abbrev WalkC (q : Program) (loose : List Str) (XP : (Str → Option Value) → Heap → Prop) (YP : World → Heap → Prop) (r : RowW) (d : DefRec) (kwd : List (Str × Expr)) : Prop :=
  ∀ (w : World) (s₀ s₁ : Shared) (mg mb : Str → Option Value), Ground q loose r.records XP w s₀ mg mb s₁.heap → YP w s₁.heap → ∀ (a : Addr) (o : Obj) (pm cd doc dV kV : Value), s₁.heap.get? a = some o →
    o.data = .func { docDef d.name d.params d.body d.scope pm cd doc with defaults := dV, kwdefaults := kV } → s₁.heap.CodeRec cd d.name → Dflts mg s₁.heap d.params kwd dV kV → mg d.name = some (.ref a) → s₁.gens = #[] →
    ∀ (args : List WData) (vals : List Value) (as : List Addr), r.claim.pre args = true → WData.layableAll args = true → ReadsAllW r.records (classAt s₀.heap) s₁.heap vals args as → WellAll w.params s₁.heap vals args → (∀ a ∈ as, (a == sysModules) = false) →
      wpC (model r.prog w) callerA (PySem.call (.ref a) vals) (fun v s' => GoodWG r.claim (classAt s₀.heap) (ExcName.means s₀.heap) args s₁ (.ok (.ret v)) s')
        (fun e s' => GoodWG r.claim (classAt s₀.heap) (ExcName.means s₀.heap) args s₁ (.error e) s') s₁

/-- the head for a clean walk. It bears the kit's own short name BEHIND this text's namespace, so that the kit's `open_top`, which
lays the top's evaluation under the head of that name, lays it under this one (its last premise alone is another) -/
theorem PySem.W.holds_open {r : OpenRow} {q : Program} {loose : List Str} {Xt : Shared → Bool} {XP : (Str → Option Value) → Heap → Prop} {α : Type} {Yf : Shared → α} {Ya : World → α} {YP : World → Heap → Prop} {d : DefRec} {kwd : List (Str × Expr)} {N : Nat}
    (left : LeftO r.prog q loose Xt Yf Ya N) (hY : ∀ w s, Yf s = Ya w → YP w s.heap) (hYk : ∀ w h h', YP w h → (∀ b o, h.get? b = some o → h'.get? b = some o) → YP w h')
    (hX : ∀ s, Xt s = true → XP (s.heap.nsMap mainGlobals) s.heap) (hXk : ∀ mg h h', XP mg h → (∀ b o, h.get? b = some o → h'.get? b = some o) → XP mg h')
    (hdef : defOf q r.name = some (d, kwd)) (hp : r.prog.theDef r.name = some (d.params, d.body, d.scope)) (hk : kwWritten? d.params.kwonlyargs d.params.kw_defaults = some kwd) (hRf : ∀ s, Xt s = true → RecFacts r.records s.heap) (hwr : (!r.writes || r.records.isEmpty) = true)
    (k1 : r.wellSaid = true) (ok : (chainsOk q && opensWell r.prog && (frees r.toRowW && r.within.isEmpty)) = true) (hb : r.prog.bare) (hw : r.toRowW.promised)
    (call : WalkC q loose XP YP r.toRowW d kwd) : r.Holds := by
  obtain ⟨ok, k5⟩ := Bool.and_eq_true_iff.mp ok
  obtain ⟨hch, o1⟩ := Bool.and_eq_true_iff.mp ok
  obtain ⟨k5, k6⟩ := Bool.and_eq_true_iff.mp k5
  obtain ⟨hsame, hu, ha, hap, hm⟩ := frees_parts k5
  refine ⟨k1, hw, ⟨⟨hb, o1, by show r.makers.map _ = []; rw [hm]; rfl⟩, hw.witness, fun w => ⟨(left.behind hX hch w).1, fun s' hs' => ?_⟩⟩⟩
  obtain ⟨s₀, hf, hg0, s, hT, hz, hgens, hg, G00, y⟩ := (left.behind (XP := fun mg h => XP mg h ∧ RecFacts r.records h) (fun s hs => ⟨hX s hs, hRf s hs⟩) hch w).2 s' hs'
  have G0 : Ground q loose [] XP w s (s.heap.nsMap mainGlobals) (s.heap.nsMap builtinsNs) s.heap := ⟨G00.T, G00.B, G00.D, G00.TE, G00.TD, G00.W, G00.X.1, G00.cls, G00.has, G00.apart, G00.once, G00.K⟩
  have RF := G00.X.2
  have hT' := hT
  have hgens : s.gens = #[] := Array.eq_empty_of_size_eq_zero (beq_iff_eq.mp hgens)
  have G : Ground q loose r.records XP w s _ _ s.heap := RF.ground G0
  refine ⟨s₀, hf, hg0, s, hT, fun n hn => ?_, RF.1, RF.2.1, ?_⟩
  · obtain rfl : n = r.name := by split at hn <;> simp_all
    exact pinned_of_view hg G0 hdef hp hk
  refine callFromC (c := r.toRowW.claim) (tree := fun vs => do match ← nsGet mainNs r.name with
      | some f => do ret (← PySem.call f vs)
      | none => unsupported "claim.caller:no-such-global") hz hgens fun args hpre hlay ord hord => ?_
  obtain ⟨⟨vs, s₁⟩, hlaid⟩ := Option.isSome_iff_exists.mp (layAllW_isSome (P := w.params) (ord := ord) G.has args r.args s (pre_splitW hpre).1)
  have keeps := layAllW_keeps _ _ _ hlaid
  have hal := layAllW_rest _ _ _ hlaid
  obtain ⟨as, hrd, hin, hold⟩ := reads_layAllW hord _ _ _ hlaid hlay s₁.heap (fun _ _ e => e)
  have L : Laid r.records w s s₁ args vs as := ⟨⟨ord, hord, hlaid⟩, hrd, hin, hold, keeps, hal.1.trans hgens, hal.2.2.1⟩
  have G₁ := G.keeps hXk keeps
  obtain ⟨a, o, pm, cd, doc, dV, kV, h1, h2, h3, h4, h5⟩ := G₁.fn hdef
  have h := call w s s₁ _ _ G₁ (hYk _ _ _ (hY w s y) keeps) a o pm cd doc dV kV h2 h3 h4 h5 (defOf_name hdef ▸ h1) L.gens args vs as hpre hlay L.reads L.well (L.low G.low)
  have hi := ident_freeW hu ha hap
  have hwi : r.claim.within = [] := List.isEmpty_iff.mp k6
  refine ⟨vs, s₁, hlaid, wpC_step (wpAny_nsGet G₁.T.g ?_)⟩
  rw [h1]
  refine wpC_bind (wpC_mono h (fun v s' g => wpC_pure ⟨_, rfl, ?_⟩) fun e s' g => ?_)
  all_goals
    have z := g.laid (c := r.claim) hsame hwi hi L
    exact ⟨z.1, z.2.1, z.2.2, fun q => ⟨namesKept_of hT' hg _ keeps g.2.1.old, noTable hwr q⟩⟩

open_top hd for PySem.Challenge.rw_pf0248_01
end Mine

namespace Mine
theorem ns_some {K : Frag} {h : Heap} {N : Addr} {mg : Str → Option Value} {n : Str} {v : Value} (X : K.In h) (G : h.Ns N mg) (e : nsIn K N n = some (some v)) : mg n = some v := by
  obtain ⟨o, es, ep, ho, hd, _, hf⟩ := G
  unfold nsIn at e
  split at e
  · rename_i c d es' n' sl q
    have hx := X _ _ q
    rw [ho] at hx
    cases hx
    cases hd
    split at e
    · rename_i en he
      cases e
      rw [← hf]
      unfold nsFind findBy
      rw [← Array.find?_toList, he]
      rfl
    · split at e <;> cases e
  · cases e

abbrev excO (dx : Option Addr) (t : Addr) : Obj := { cls := .ref 31, dict := dx, data := .fields #[.ref t, .none, .none, .none, .bool false, .none] }
/-- what a dict object holds, apart from any heap -/
def OdIs (od : Obj) (mA : Str → Option Value) : Prop := ∃ es ep, od.data = .dict es ep ∧ StrKeys es ∧ UniqKeys es ∧ ∀ x, nsFind es x = mA x

section
variable {prog : Program} {w : World} {A : Around} {E : Value → Shared → Prop} {s : Shared} {h₀ : Heap} {L e t dx : Addr} {m : Str → Option Value} {rest : List (Addr × Obj)} {od : Obj} {mA : Str → Option Value} {name : Str} {v : Value}

theorem quic_cls (w : World) {h : Heap} (X : (hd.heap_39 w.params).In h) : ∃ dd k0 k1 k2 k3 k5, h.get? 31 = some (excClassObj (Str.ofString "QuicError") (Str.ofString "QuicError") 31 30 [.type "Exception"] [.type "Exception", .type "BaseException", .type "object"] true [] [] false none dd k0 k1 k2 k3 k5 "Exception.__new__") :=
  ⟨_, _, _, _, _, _, X 31 _ (by with_unfolding_all rfl)⟩
theorem quic_ns (w : World) {h : Heap} (X : (hd.heap_39 w.params).In h) : h.Ns 30 (h.nsMap 30) := .of_isNs (isNs_of_in X (by with_unfolding_all rfl))

theorem exc_type {M : Model} {h : Heap} {eo : Obj} (he : h.get? e = some eo) (hc : eo.cls = .ref 31) : Looks M h (typeOf (.ref e)) (.ref 31) :=
  (Looks.ld (part := some headPart) he).andThen (by rw [hc]; exact .now)

theorem quic_mro (X : (hd.heap_39 w.params).In s.heap) : Looks (model prog w) s.heap (mroOf (.ref 31)) (.ref 31 :: [.type "Exception", .type "BaseException", .type "object"]) := by
  have hc : clsIn (hd.heap_39 w.params) 31 = some { name := Str.ofString "QuicError", bases := [.type "Exception"], mro := .ref 31 :: [.type "Exception", .type "BaseException", .type "object"], ns := 30, qualname := Str.ofString "QuicError" } := by with_unfolding_all rfl
  exact (looks_clsIn X hc).andThen .now

theorem exc_store {Q : Unit → Shared → Prop} {eo : Obj} (X : (hd.heap_39 w.params).In s.heap) (he : s.heap.get? e = some eo) (hc : eo.cls = .ref 31)
    (hna : findIn (hd.heap_39 w.params) (.ref 31) name = some none)
    (h : wpAny (model prog w) A.in1 (Builtin.ObjectAttr.storeInOwnDict (.ref e) (.ref 31) (.str name s.toks) name v false)
      (fun fin s' => match fin with | .done (.ret _) => Q () s' | _ => False) E { s with toks := s.toks + 1 }) :
    wpAny (model prog w) A (setAttr (.ref e) name v) Q E s := by
  have SF := PySem.F.store_Exception
  obtain ⟨hp, g, d, tk, os⟩ := s
  dsimp only at X he h
  have IT : Looks (model prog w) hp (typeOf (.ref e)) (.ref 31) := exc_type he hc
  have hs : findIn (hd.heap_39 w.params) (.ref 31) (Str.ofString "__setattr__") = some (some (.builtin "object.__setattr__")) := by with_unfolding_all rfl
  have hm := quic_mro (prog := prog) (s := ⟨hp, g, d, tk + 1, os⟩) X
  have sub : Looks (model prog w) hp (isInstance (.ref e) (.type "object")) true := IT.andThen (looks_mroIn X (by with_unfolding_all rfl))
  refine wpAny_bind (wpAny_mkText (wpAny_bind (wpAny_bind (wpAny_bind (IT.here ((looks_findIn X hs).here (wpAny_holding ?_)))))))
  rw [SF.slot.bind]
  refine wpAny_bind (wpAny_pure (wpAny_bind (wpAny_call (codeAny_mono (R := fun r s' => match r with | .ok (.ret _) => Q () s' | .ok _ => False | .error e => E e s') ?_ fun r s' z => ?_))))
  · refine codeAny_call_builtin SF.slot.plain SF.entry (@check_slot (model prog w) _ _ ⟨hp, g, d, tk + 1, os⟩ "object.__setattr__" "object" "__setattr__" (.ref e) [.str name tk, v] [] _ SF.kind SF.split sub (SF.args (.ref e) (.str name tk) v) ?_)
    show wpAny _ _ (Builtin.«object.__setattr__» ⟨[.ref e, .str name tk, v], []⟩) _ _ _
    rw [osa_eq, refuse_eq]
    refine wpAny_bind (wpAny_bind (IT.here (wpAny_bind (hm.here ?_))))
    rw [refuseLoop_ref, SF.passes]
    refine wpAny_pure (wpAny_bind (IT.here (wpAny_bind ((looks_findIn X hna).here (wpAny_bind (wpAny_pure ?_))))))
    refine wpAny_mono h (fun fin s' z => ?_) fun _ _ z => z
    rcases fin with (_ | _ | _ | _) | _ <;> first | exact z.elim | exact z
  · rcases r with e | (v | _ | _ | _) <;> first | exact z | exact wpAny_pure (wpAny_pure z)

theorem store_dict {Q : Fin → Shared → Prop} {ns : List Str} {d : Addr} {nt : Tok} (hn : s.heap.Ns1 d mA) (hw : Within mA ns) (hl : ns.length ≤ 1000)
    (h : ∀ h' od, h'.get? d = some od → OdIs od (fun y => if y = name then some v else mA y) → Heap.SameBut d s.heap h' → Q (.done (.ret .none)) { s with heap := h', toks := s.toks + 1 }) :
    wpAny (model prog w) A (Builtin.ObjectAttr.storeInDict d (.str name nt) name v) Q E s := by
  unfold Builtin.ObjectAttr.storeInDict Builtin.ObjectAttr.newKeyGuard
  refine wpAny_bind (wpAny_pure (wpAny_bind (wpAny_nsSet1 hn fun h' hn' hs => ?_)))
  obtain ⟨oD, esD, epD, hoD, hdD, hcD⟩ := hn'.count (Within.cons name v hw)
  refine wpAny_bind (wpAny_lookBehind hoD (by rw [hdD]; exact pastItsLine_dict (Nat.le_trans hcD (by rw [List.length_cons, sizeLine_eq]; omega))) ?_)
  obtain ⟨o2, es2, ep2, ho2, r⟩ := hn'
  exact wpAny_pure (h h' o2 ho2 ⟨es2, ep2, r⟩ hs)

theorem nsOd {h : Heap} {d : Addr} {od : Obj} {mA : Str → Option Value} (hd : h.get? d = some od) (hI : OdIs od mA) : h.Ns1 d mA := let ⟨es, ep, r⟩ := hI; ⟨od, es, ep, hd, r⟩

theorem news_but {h₀ h h' : Heap} {L d : Addr} {m : Str → Option Value} {news : List (Addr × Obj)} (F : Fr h₀ L h m) (N : News h₀ L h news) (hn : ∀ p ∈ news, p.1 ≠ d) (hd : h₀.get? d = none) (hL : d ≠ L) (hs : Heap.SameBut d h h') :
    Fr h₀ L h' m ∧ News h₀ L h' news := by
  obtain ⟨oL, es, ep, hL', r⟩ := F.ns
  refine ⟨⟨⟨oL, es, ep, (hs.2 L (Ne.symm hL)).trans hL', r⟩, fun b x q => (hs.2 b fun z => by rw [z, hd] at q; cases q).trans (F.keep b x q), F.above⟩, fun p hp => ⟨(hs.2 p.1 (hn p hp)).trans (N p hp).1, (N p hp).2⟩⟩

theorem exc_set1 {Q : Unit → Shared → Prop} {ns : List Str} (X₀ : (hd.heap_39 w.params).In h₀) (F : Fr h₀ L s.heap m) (N : News h₀ L s.heap ((e, excO (some dx) t) :: (dx, od) :: rest)) (hr : ∀ p ∈ rest, p.1 ≠ dx) (hde : dx ≠ e)
    (hI : OdIs od mA) (hw : Within mA ns) (hl : ns.length ≤ 1000) (hna : findIn (hd.heap_39 w.params) (.ref 31) name = some none)
    (h : ∀ od h' tk', Fr h₀ L h' m → News h₀ L h' ((e, excO (some dx) t) :: (dx, od) :: rest) → OdIs od (fun y => if y = name then some v else mA y) → Q () { s with heap := h', toks := tk' }) :
    wpAny (model prog w) A (setAttr (.ref e) name v) Q E s := by
  have he := (N _ (.head _)).1
  have X := X₀.keeps F.keep
  refine exc_store X he rfl hna ?_
  obtain ⟨hp, g, d, tk, os⟩ := s
  dsimp only at F N he h X ⊢
  have hcl : clsIn (hd.heap_39 w.params) 31 = some { name := Str.ofString "QuicError", bases := [.type "Exception"], mro := .ref 31 :: [.type "Exception", .type "BaseException", .type "object"], ns := 30, qualname := Str.ofString "QuicError" } := by with_unfolding_all rfl
  unfold Builtin.ObjectAttr.storeInOwnDict
  refine wpAny_bind (wpAny_pure (wpAny_bind (wpAny_bind (wpAny_loadPart he (wpAny_bind (Looks.here (s := ⟨hp, g, d, tk + 1, os⟩) (looks_clsIn X hcl) (wpAny_pure ?_)))))))
  refine store_dict (nsOd (N _ (.tail _ (.head _))).1 hI) hw hl fun h' od' ho' hI' hs => ?_
  have Nd := N _ (.tail _ (.head _))
  obtain ⟨F', N'⟩ := news_but F (news := (e, excO (some dx) t) :: rest) (fun p hp => N p (by rcases List.mem_cons.mp hp with rfl | hp; exact .head _; exact .tail _ (.tail _ hp))) (fun p hp => by rcases List.mem_cons.mp hp with rfl | hp; exact Ne.symm hde; exact hr p hp) Nd.2.2 Nd.2.1 hs
  exact h od' h' _ F' (fun p hp => by
    rcases List.mem_cons.mp hp with rfl | hp
    · exact N' _ (.head _)
    · rcases List.mem_cons.mp hp with rfl | hp
      · exact ⟨ho', Nd.2⟩
      · exact N' _ (.tail _ hp)) hI'

theorem exc_set0 {Q : Unit → Shared → Prop} (X₀ : (hd.heap_39 w.params).In h₀) (F : Fr h₀ L s.heap m) (N : News h₀ L s.heap ((e, excO none t) :: rest)) (hr : ∀ p ∈ rest, p.1 ≠ e)
    (hna : findIn (hd.heap_39 w.params) (.ref 31) name = some none)
    (h : ∀ dx od h' tk', Fr h₀ L h' m → News h₀ L h' ((e, excO (some dx) t) :: (dx, od) :: rest) → OdIs od (fun y => if y = name then some v else none) → (∀ p ∈ rest, p.1 ≠ dx) → dx ≠ e → Q () { s with heap := h', toks := tk' }) :
    wpAny (model prog w) A (setAttr (.ref e) name v) Q E s := by
  have he := (N _ (.head _)).1
  have X := X₀.keeps F.keep
  refine exc_store X he rfl hna ?_
  obtain ⟨hp, g, d, tk, os⟩ := s
  dsimp only at F N he h X ⊢
  have hcl : clsIn (hd.heap_39 w.params) 31 = some { name := Str.ofString "QuicError", bases := [.type "Exception"], mro := .ref 31 :: [.type "Exception", .type "BaseException", .type "object"], ns := 30, qualname := Str.ofString "QuicError" } := by with_unfolding_all rfl
  unfold Builtin.ObjectAttr.storeInOwnDict
  refine wpAny_bind (wpAny_pure (wpAny_bind (wpAny_bind (wpAny_loadPart he (wpAny_bind (Looks.here (s := ⟨hp, g, d, tk + 1, os⟩) (looks_clsIn X hcl) ?_))))))
  have F₁ := F.push { cls := .type "dict", data := .dict #[] }
  have N₁ := N.push F { cls := .type "dict", data := .dict #[] }
  have lt : ∀ p ∈ (e, excO none t) :: rest, p.1 < hp.objs.size := fun p hq => Heap.lt_size (N p hq).1
  obtain ⟨F₂, N₂⟩ := news_upd (pre := [(hp.objs.size, { cls := .type "dict", data := .dict #[] })]) (post := rest) (d := e) (o := excO none t) (o' := excO (some hp.objs.size) t) (f := fun o => { o with dict := some hp.objs.size }) F₁ N₁
    (fun p hq => by rcases List.mem_singleton.mp hq with rfl; exact Nat.ne_of_gt (lt _ (.head _))) hr rfl rfl
  show wpAny _ _ (alloc { cls := .type "dict", data := .dict #[] } >>= fun d => update e (fun o => { cls := o.cls, dict := some d, data := o.data, slots := o.slots }) >>= fun _ => dictMade (.ref 31) e d) _ _ _
  refine wpAny_bind (wpAny_alloc' (wpAny_bind (wpAny_update' (Heap.get?_push_of_some _ he) (wpAny_pure ?_))))
  have hnd : OdIs { cls := .type "dict", data := .dict #[] } (fun _ => none) := ⟨#[], _, rfl, fun e he => absurd he (by simp), by unfold UniqKeys; exact .nil, fun _ => rfl⟩
  refine store_dict (nsOd (N₂ _ (.head _)).1 hnd) Within.nil (by simp) fun h' od' ho' hI' hs => ?_
  have Nd := N₂ _ (.head _)
  obtain ⟨F', N'⟩ := news_but F₂ (news := (e, excO (some hp.objs.size) t) :: rest) (fun p hp => N₂ p (.tail _ hp)) (fun p hq => by
    rcases List.mem_cons.mp hq with rfl | hq
    · exact Nat.ne_of_lt (lt (e, excO none t) (.head _))
    · exact Nat.ne_of_lt (lt _ (.tail _ hq))) Nd.2.2 Nd.2.1 hs
  exact h hp.objs.size od' h' _ F' (fun p hp => by
    rcases List.mem_cons.mp hp with rfl | hp
    · exact N' _ (.head _)
    · rcases List.mem_cons.mp hp with rfl | hp
      · exact ⟨ho', Nd.2⟩
      · exact N' _ (.tail _ hp)) hI' (fun p hq => Nat.ne_of_lt (lt _ (.tail _ hq))) (Nat.ne_of_gt (lt _ (.head _)))

theorem exc_init_call {x : Value} {Q : Value → Shared → Prop} (X₀ : (hd.heap_39 w.params).In h₀) (F : Fr h₀ L s.heap m) (N : News h₀ L s.heap ((e, excO none t) :: rest)) (hr : ∀ p ∈ rest, p.1 ≠ e)
    (h : ∀ t' h' tk', Fr h₀ L h' m → News h₀ L h' ((e, excO none t') :: (t', { cls := .type "tuple", data := .seq #[x] }) :: rest) → (∀ p ∈ rest, p.1 ≠ t') → t' ≠ e → Q .none { s with heap := h', toks := tk' }) :
    wpAny (model prog w) A (call (.builtin "Exception.__init__") [.ref e, x]) Q E s := by
  have X := X₀.keeps F.keep
  obtain ⟨dd, k0, k1, k2, k3, k5, hC⟩ := quic_cls w X
  have he := (N _ (.head _)).1
  have FB := PySem.F.excBase_Exception
  obtain ⟨hp, g, d, tk, os⟩ := s
  dsimp only at F N he h hC
  refine wpAny_call (codeAny_call_builtin FB.init.plain FB.initEntry (wpAny_check_init_sub FB hC he rfl ?_))
  unfold Builtin.«BaseException.__init__»
  wp_walk
  have lt : ∀ p ∈ (e, excO none t) :: rest, p.1 < hp.objs.size := fun p hq => Heap.lt_size (N p hq).1
  have F₁ := F.push { cls := .type "tuple", data := .seq #[x] }
  have N₁ := N.push F { cls := .type "tuple", data := .seq #[x] }
  obtain ⟨F₂, N₂⟩ := news_upd (pre := [(hp.objs.size, { cls := .type "tuple", data := .seq #[x] })]) (post := rest) (d := e) (o := excO none t) (o' := excO none hp.objs.size) (f := Obj.mapFields fun x => x.setIfInBounds 0 (Value.ref hp.objs.size)) F₁ N₁
    (fun p hq => by rcases List.mem_singleton.mp hq with rfl; exact Nat.ne_of_gt (lt _ (.head _))) hr rfl rfl
  exact h hp.objs.size _ _ F₂ (fun p hp => by
    rcases List.mem_cons.mp hp with rfl | hp
    · exact N₂ _ (.tail _ (.head _))
    · rcases List.mem_cons.mp hp with rfl | hp
      · exact N₂ _ (.head _)
      · exact N₂ _ (.tail _ (.tail _ hp))) (fun p hq => Nat.ne_of_lt (lt _ (.tail _ hq))) (Nat.ne_of_gt (lt _ (.head _)))
end
end Mine

namespace Mine
/-- an exception in flight whose own dictionary is known: the object, its class, its dict, its traceback entry -/
def TrD (h base : Heap) (e : Addr) (cls : Value) (dd : Option Addr) (fl : Value) : Prop :=
  ∃ oe vs T oT ts, h.get? e = some oe ∧ (oe.cls = cls ∧ oe.dict = dd) ∧ oe.data = .fields vs ∧ vs[1]? = some (.ref T) ∧ base.get? T = none ∧ T ≠ e ∧ h.get? T = some oT ∧ oT.data = .fields ts ∧ ts[3]? = some fl

def FlyD (base : Heap) (l : List Env) (e : Addr) (cls : Value) (dd : Option Addr) (fl : Value) (h : Heap) : Prop :=
  base.StaysIn h ∧ base.get? e = none ∧ h.FunFrames base l ∧ TrD h base e cls dd fl

section
variable {M : Model} {A : Around} {E : Value → Shared → Prop} {s : Shared} {base : Heap} {env : Env} {outer : List Env} {L e : Addr} {cls : Value} {dd : Option Addr}

theorem entryD {oe : Obj} {vs : Array Value} {head : Value} {hadNext : Bool} {Q : Unit → Shared → Prop}
    (hfr : A.frames = some (env :: outer)) (hl : s.heap.FunFrames base (env :: outer)) (hf : env.frame = some L)
    (he : s.heap.get? e = some oe) (hkb : base.StaysIn s.heap) (hen : base.get? e = none) (hd : oe.data = .fields vs) (hsz : 1 < vs.size)
    (h : ∀ h', FlyD base (env :: outer) e oe.cls oe.dict (rawInt L) h' → s.heap.UpToSlots h' → Q () { s with heap := h' }) :
    wpAny M A (do let a ← frameOf env; let pl ← entryPlaceOf L hadNext; let b ← EntryCells.newEntry head a .none (rawInt L) .none pl; setField (.ref e) 1 b) Q E s := by
  have hene : e ∉ (env :: outer).filterMap (·.frame) := fun hm => by
    obtain ⟨_, o, ho, hnf⟩ := hl.mem hm
    rw [he] at ho; cases ho; exact hnf vs hd
  refine wpAny_bind (wpAny_frameOf_fun hfr hl hf fun h₁ hs₁ => ?_)
  refine wpAny_bind (wpAny_entryPlaceOf fun pl hpl => ?_)
  unfold EntryCells.newEntry newFields
  refine wpAny_bind (wpAny_newObj_type ?_ (hpl.sizeOk5 _ _ _ _ _))
  have he₁ : h₁.get? e = some oe := (hs₁.2.1 e hene).trans he
  have kb₁ : base.StaysIn h₁ := fun b o hbo => (hs₁.2.1 b fun hm => by rw [(hl.mem hm).1] at hbo; cases hbo).trans (hkb b o hbo)
  generalize hT : ({ cls := .type "traceback", dict := none, data := .fields ([head, .ref L, .none, rawInt L, .none] ++ (if pl.isEmpty then List.replicate 6 Value.none else pl)).toArray } : Obj) = oT
  have hTf : oT.isFreed = false := by subst hT; rfl
  have he₂ := Heap.get?_push_of_some (h := h₁) oT he₁
  refine wpAny_setField he₂ hd hsz (h _ ?_ ?_)
  all_goals
    have hTe : h₁.objs.size ≠ e := Nat.ne_of_gt (Heap.lt_size he₁)
    have hd₃ := Obj.data_mapFields hd (·.setIfInBounds 1 (Value.ref h₁.objs.size))
    have he₃ := Heap.get?_update_self (Obj.mapFields (·.setIfInBounds 1 (Value.ref h₁.objs.size))) he₂ (Obj.isFreed_of_fields hd₃)
    have hT₃ := (Heap.get?_update_other (h₁.push oT) (Obj.mapFields (·.setIfInBounds 1 (Value.ref h₁.objs.size))) (Ne.symm hTe)).trans (Heap.get?_push_size h₁ hTf)
    have keep : ∀ b o, b ≠ e → h₁.get? b = some o → ((h₁.push oT).update e (Obj.mapFields (·.setIfInBounds 1 (Value.ref h₁.objs.size)))).get? b = some o :=
      fun b o hbe hb => by
        rw [Heap.get?_update_other _ _ (Ne.symm hbe)]
        exact Heap.get?_push_of_some _ hb
    have noRec : ∀ b o, s.heap.get? b = some o → (∀ vs, o.data ≠ .fields vs) → b ≠ e := fun b o hb hnf q => by
      rw [q, he] at hb; cases hb; exact hnf vs hd
  · refine ⟨fun b o hbo => keep b o (fun q => by rw [q, hen] at hbo; cases hbo) (kb₁ b o hbo), hen, hl.of_keeps fun b o hb hnf => ?_, ?_⟩
    · obtain ⟨sl, hs⟩ := hs₁.2.2 b o hb
      exact ⟨_, keep b _ (noRec b o hb hnf) hs, rfl⟩
    · refine ⟨_, _, h₁.objs.size, _, _, he₃, ⟨Obj.cls_mapFields _ _, ?_⟩, hd₃, by simp [hsz], kb₁.fresh, hTe, hT₃, by subst hT; rfl, ?_⟩
      · obtain ⟨c, d, dt, sl⟩ := oe; cases hd; rfl
      · rcases hpl with rfl | ⟨_, _, _, _, _, _, _, rfl⟩ <;> simp
  · intro b o hb hnf
    obtain ⟨sl, hs⟩ := hs₁.2.2 b o hb
    exact ⟨sl, keep b _ (noRec b o hb hnf) hs⟩

theorem setFlightD {l : List Env} {fl : Value} {Q : Unit → Shared → Prop} (hx : FlyD base l e cls dd fl s.heap)
    (h : ∀ h', FlyD base l e cls dd .none h' → (∀ b o, s.heap.get? b = some o → (∀ vs, o.data ≠ .fields vs) → h'.get? b = some o) → Q () { s with heap := h' }) :
    wpAny M A (setFlight (.ref e) none) Q E s := by
  obtain ⟨hkb, hen, hl, oe, vs, T, oT, ts, he, hcls, hd, h1, hnT, hTe, hT, hdT, h3⟩ := hx
  have hsz3 : 3 < ts.size := (Array.getElem?_eq_some_iff.mp h3).1
  have other : ∀ b, b ≠ T → (s.heap.update T (Obj.mapFields (·.setIfInBounds 3 ((none : Option Addr).elim Value.none fun f => rawInt f)))).get? b = s.heap.get? b :=
    fun b hb => Heap.get?_update_other _ _ (Ne.symm hb)
  have noRec : ∀ b o, s.heap.get? b = some o → (∀ vs, o.data ≠ .fields vs) → b ≠ T := fun b o hb hnf q => by
    rw [q, hT] at hb; cases hb; exact hnf ts hdT
  unfold setFlight
  refine wpAny_bind (wpAny_field he hd h1 ?_)
  rw [if_pos (show (Value.ref T != Value.none) = true from by simp)]
  refine wpAny_setField hT hdT hsz3 (h _ ⟨fun b o hbo => (other b fun q => by rw [q, hnT] at hbo; cases hbo).trans (hkb b o hbo), hen, hl.of_keeps fun b o hb hnf => ⟨o, (other b (noRec b o hb hnf)).trans hb, rfl⟩, ?_⟩ fun b o hb hnf => (other b (noRec b o hb hnf)).trans hb)
  exact ⟨oe, vs, T, _, _, (other e (Ne.symm hTe)).trans he, hcls, hd, h1, hnT, hTe, Heap.get?_update_self _ hT (Obj.isFreed_of_fields (Obj.data_mapFields hdT _)), Obj.data_mapFields hdT _, by simp [hsz3]⟩

theorem up_of {h h' : Heap} (k : ∀ b o, h.get? b = some o → (∀ vs, o.data ≠ .fields vs) → h'.get? b = some o) : h.UpToSlots h' := fun b o e hn => ⟨o.slots, k b o e hn⟩

/-- the frame in which it was raised is left: it gets its first traceback entry -/
theorem leave_firstD {oe : Obj} {vs : Array Value} {Q : Unit → Shared → Prop}
    (hfr : A.frames = some (env :: outer)) (hl : s.heap.FunFrames base (env :: outer)) (hf : env.frame = some L)
    (he : s.heap.get? e = some oe) (hkb : base.StaysIn s.heap) (hen : base.get? e = none) (hd : oe.data = .fields vs) (h1 : vs[1]? = some .none)
    (h : ∀ h', FlyD base outer e oe.cls oe.dict .none h' → s.heap.UpToSlots h' → Q () { s with heap := h' }) : wpAny M A (leaving env (.ref e)) Q E s := by
  unfold leaving noteFrame
  simp only [hf]
  refine wpAny_bind (wpAny_bind (wpAny_field he hd h1 ?_))
  rw [if_neg (by decide)]
  refine entryD hfr hl hf he hkb hen hd (Array.getElem?_eq_some_iff.mp h1).1 fun h₁ x u => ?_
  refine setFlightD x fun h₂ y k => ?_
  obtain ⟨y1, y2, ⟨_, _, y3⟩, y4⟩ := y
  exact h h₂ ⟨y1, y2, y3, y4⟩ (u.trans (up_of k))

/-- a frame further out notes it -/
theorem noteD {Q : Unit → Shared → Prop} (hfr : A.frames = some (env :: outer)) (hf : env.frame = some L) (hx : FlyD base (env :: outer) e cls dd .none s.heap)
    (h : ∀ h', FlyD base (env :: outer) e cls dd (rawInt L) h' → s.heap.UpToSlots h' → Q () { s with heap := h' }) : wpAny M A (noteFrame (.ref e) env) Q E s := by
  obtain ⟨hkb, hen, hl, oe, vs, T, oT, ts, he, ⟨hcls, hdd⟩, hd, h1, hnT, hTe, hT, hdT, h3⟩ := hx
  subst hcls hdd
  unfold noteFrame
  simp only [hf]
  refine wpAny_bind (wpAny_field he hd h1 ?_)
  rw [if_pos (show (Value.ref T != Value.none) = true from by simp)]
  refine wpAny_bind (wpAny_field hT hdT h3 ?_)
  rw [if_neg (show ¬ ((Value.none == rawInt L) = true) from by simp [rawInt])]
  refine wpAny_bind (wpAny_setField hT hdT (Array.getElem?_eq_some_iff.mp h3).1 ?_)
  have other : ∀ b, b ≠ T → (s.heap.update T (Obj.mapFields (·.setIfInBounds 3 Value.none))).get? b = s.heap.get? b := fun b hb => Heap.get?_update_other _ _ (Ne.symm hb)
  have noRec : ∀ b o, s.heap.get? b = some o → (∀ vs, o.data ≠ .fields vs) → b ≠ T := fun b o hb hnf q => by
    rw [q, hT] at hb; cases hb; exact hnf ts hdT
  exact entryD hfr (hl.of_keeps fun b o hb hnf => ⟨o, (other b (noRec b o hb hnf)).trans hb, rfl⟩) hf ((other e (Ne.symm hTe)).trans he)
    (fun b o hbo => (other b fun q => by rw [q, hnT] at hbo; cases hbo).trans (hkb b o hbo)) hen hd (Array.getElem?_eq_some_iff.mp h1).1
    fun h' x u => h h' x ((up_of fun b o hb hnf => (other b (noRec b o hb hnf)).trans hb).trans u)
end

def RaisedD (base G : Heap) (l : List Env) (e : Addr) (cls : Value) (dd : Option Addr) (news : List (Addr × Obj)) (h : Heap) : Prop :=
  ∃ B, base.StaysIn B ∧ (∀ b o, G.get? b = some o → b ∉ l.filterMap (·.frame) → B.get? b = some o) ∧ (∀ q ∈ news, B.get? q.1 = some q.2 ∧ G.get? q.1 = none ∧ base.get? q.1 = none) ∧ FlyD B l e cls dd .none h

section
variable {M : Model} {A : Around} {E : Value → Shared → Prop} {s' : Shared} {base g : Heap} {outer : List Env} {L a e : Addr} {m : Str → Option Value} {name : Str} {scope : Scope} {cd : Value} {Q : Unit → Shared → Prop} {news : List (Addr × Obj)} {oe : Obj} {vs : Array Value}
theorem leave_raiseD (K : Below A base outer g) (F : Fr g L s'.heap m) (N : News g L s'.heap ((e, oe) :: news)) (hne : ∀ p ∈ news, p.1 ≠ e) (hd : oe.data = .fields vs) (h1 : vs[1]? = some .none)
    (hQ : ∀ h', RaisedD base g outer e oe.cls oe.dict news h' → g.UpToSlots h' → Q () { s' with heap := h' }) (hk : scope.kind = .function := by rfl) :
    wpAny M (A.deeper (envOf name scope L a cd)) (leaving (envOf name scope L a cd) (.ref e)) Q E s' := by
  have K' := K.push (name := name) (a := a) (cd := cd) F hk
  let fs := (envOf name scope L a cd :: outer).filterMap (·.frame)
  have hin : ∀ env ∈ (envOf name scope L a cd :: outer), ∀ b, env.frame = some b → b ∈ e :: fs := fun env he b hb => .tail _ (List.mem_filterMap.mpr ⟨env, he, hb⟩)
  have he := N _ (.head _)
  have ge : g.get? e = none := he.2.2
  have be : base.get? e = none := fresh_of_stays K.stays ge
  have st : base.StaysIn (hideAll s'.heap (e :: fs)) := fun b o q => hideAll_get _ (K'.stays b o q) fun hm => by
    rcases List.mem_cons.mp hm with z | hm
    · rw [z, be] at q; cases q
    · rw [(K'.frames.mem hm).1] at q; cases q
  have sg : ∀ b o, g.get? b = some o → b ∉ outer.filterMap (·.frame) → (hideAll s'.heap (e :: fs)).get? b = some o := fun b o q nm => hideAll_get _ (F.keep b o q) fun hm => by
    rcases List.mem_cons.mp hm with z | hm
    · rw [z, ge] at q; cases q
    · rcases kts_mem hm with z | z
      · rw [z, kts_self F] at q; cases q
      · exact nm z
  have hl : ∀ q ∈ news, (hideAll s'.heap (e :: fs)).get? q.1 = some q.2 ∧ g.get? q.1 = none ∧ base.get? q.1 = none := fun q hq => by
    have hq' := N q (.tail _ hq)
    refine ⟨hideAll_get _ hq'.1 fun hm => ?_, hq'.2.2, fresh_of_stays K.stays hq'.2.2⟩
    rcases List.mem_cons.mp hm with z | hm
    · exact hne q hq z
    · obtain ⟨env, he', hf⟩ := List.mem_filterMap.mp hm
      rcases List.mem_cons.mp he' with rfl | he'
      · exact hq'.2.1 (Option.some.inj hf).symm
      · obtain ⟨o, ho, _⟩ := (K.frames.mem (List.mem_filterMap.mpr ⟨env, he', hf⟩)).2
        rw [hq'.2.2] at ho; cases ho
  exact leave_firstD K'.stack (funFrames_hide K'.frames hin) rfl he.1 (fun b o q => of_hideAll _ q) (hideAll_none _ (.head _)) hd h1 fun h' x u =>
    hQ h' ⟨_, st, sg, hl, x⟩ ((Heap.UpToSlots.of_keeps F.keep).trans u)
end

section
variable {prog : Program} {w : World} {A₀ : Around} {E : Value → Shared → Prop} {s' : Shared} {base g g₀ G : Heap} {outer : List Env} {L a e C : Addr} {m : Str → Option Value} {name : Str} {scope : Scope} {cd : Value} {dd : Option Addr}
  {n : Str} {b₀ : Stmt} {suite : List Stmt} {pos np : Pos} {rest : List ExceptHandler} {Q : Flow → Shared → Prop} {news : List (Addr × Obj)} {KF : Frag}
  {p : Program} {loose : List Str} {mean : ExcName → Option Value} {mg mb : Str → Option Value} {x : Str}
theorem caught_D (R : RaisedD base G (envOf name scope L a cd :: outer) e (.ref C) dd news s'.heap) (F : Fr g L G m) (K : Below A₀ base outer g) (hsm : G.UpToSlots s'.heap) (XB : KF.In base) (TB : Top p loose mean mg mb base)
    (D : KtsDicts (outer.filterMap (·.frame)) g) (T0 : KtsTurn (outer.filterMap (·.frame)) g₀ g)
    (ex : nsIn KF mainGlobals x = some (some (.ref C))) (q : ktsIn KF C "BaseException" = true)
    (k : ∀ h' g' oe tk, KtsTurn (outer.filterMap (·.frame)) g₀ g' → Fr g' L h' (fun y => if y = n then some (.ref e) else m y) → News g' L h' ((e, oe) :: news) → oe.cls = .ref C → oe.dict = dd → (∃ vs, oe.data = .fields vs) → Below A₀ base outer g' → KF.In g' → Top p loose mean mg mb g' → KtsDicts (outer.filterMap (·.frame)) g' →
      wpAny (model prog w) ((A₀.deeper (envOf name scope L a cd)).mark (some (.ref e))) (execs (b₀ :: suite) (envOf name scope L a cd))
        (fun f s₄ => wpAny (model prog w) (A₀.deeper (envOf name scope L a cd)) (do bindName (envOf name scope L a cd) n .none; unbindBehindTheSuite (envOf name scope L a cd) n pos) (fun _ s₅ => Q f s₅) E s₄)
        (AsSuiteRaised (model prog w) ((A₀.deeper (envOf name scope L a cd)).mark (some (.ref e))) (envOf name scope L a cd) n pos (notedBy (model prog w) ((A₀.deeper (envOf name scope L a cd)).mark (some (.ref e))) (envOf name scope L a cd) (cameBackBy (model prog w) (A₀.deeper (envOf name scope L a cd)) (envOf name scope L a cd) E)))
        { s' with heap := h', toks := tk })
    (hk : scope.kind = .function := by rfl) (hlo : (envOf name scope L a cd).kindOf n = some .local := by rfl) (hx : (envOf name scope L a cd).kindOf x = some .globalImplicit := by rfl) (hd : (x == ("__debug__" : Str)) = false := by decide) :
    wpAny (model prog w) (A₀.deeper (envOf name scope L a cd)) (noteFrame (.ref e) (envOf name scope L a cd))
      (fun _ s₂ => wpAny (model prog w) (A₀.deeper (envOf name scope L a cd)) (setFlight (.ref e) none) (fun _ s₃ =>
        wpAny (model prog w) (A₀.deeper (envOf name scope L a cd)) (handleBy (.ref e) (envOf name scope L a cd) (.ExceptHandler (some (.Name x np)) (some n) (b₀ :: suite) pos :: rest)) Q E s₃) E s₂) E s' := by
  obtain ⟨B, hB, hBG, hl, hfl⟩ := R
  have hL : B.get? L = none := by
    obtain ⟨_, ⟨L', _, hf, hn', _⟩, _⟩ := hfl.2.2.1
    obtain rfl : L = L' := Option.some.inj hf
    exact hn'
  refine noteD (Around.frames_deeper K.stack) rfl hfl fun h₄ x₄ u₄ => ?_
  refine setFlightD x₄ fun h₅ x₅ u₅ => ?_
  have hsm₅ := u₄.trans (up_of u₅)
  obtain ⟨g₅, T₅, F₅, K₅⟩ := kts_ground K F hBG x₅.1 (hsm.trans hsm₅)
  have X₅ : KF.In g₅ := XB.keeps K₅.stays
  have P₅ : TopRead p loose mg mb g₅ := topRead_of (TB.keeps K₅.stays)
  obtain ⟨nm, q', N, bs, bm, hdct, sn, sub, ab, col, dd', k0, k1, k2, k3, k5, newId, hC, hbase, hbT⟩ := kts_cls X₅ q
  have hC₅ := F₅.keep _ _ hC
  have hob : ∃ ob, h₅.get? e = some ob ∧ ob.cls = .ref C := by
    obtain ⟨_, _, _, oe, _, _, _, _, he, hc, _⟩ := x₅
    exact ⟨oe, he, hc.1⟩
  obtain ⟨ob, hob, hobc⟩ := hob
  refine wpAny_handleBy_cons (codeAny_handlers_test (name_K F₅ X₅ P₅ ex ?_ hk hx hd)) (by intro q; cases q)
  refine wpAny_excMatches_sub_self hC₅ hob hobc hbase (codeAny_handlers_suite_as ?_)
  refine setFlightD x₅ fun h₆ x₆ u₆ => ?_
  obtain ⟨g₆, T₆, F₆, K₆⟩ := kts_ground K F hBG x₆.1 ((hsm.trans hsm₅).trans (up_of u₆))
  obtain ⟨f1, f2, f3, oe, vs, T, oT, ts, hoe, ⟨hoec, hoedd⟩, hoed, _⟩ := x₆
  have ne₆ : g₆.get? e = none := T₆.none_ _ (kts_fresh F hBG f2 fun o ho m => by
    obtain ⟨_, o', ho', hd⟩ := K.frames.mem m
    rw [ho] at ho'
    cases ho'
    obtain ⟨sl, hs⟩ := ((hsm.trans hsm₅).trans (up_of u₆)) _ _ (F.keep _ _ ho) hd
    rw [hoe] at hs
    cases hs
    exact hd _ hoed)
  have N₆ := News.more F₆ News.nil hoe (fun es n q => by rw [hoed] at q; cases q) ne₆
  have Nl : News g₆ L h₆ news := fun q hq => ⟨f1 _ _ (hl q hq).1, (fun z => by have := (hl q hq).1; rw [z, hL] at this; cases this), T₆.none_ _ (kts_none F.keep (hl q hq).2.1)⟩
  have X₆ : KF.In g₆ := XB.keeps K₆.stays
  have P₆ : Top p loose mean mg mb g₆ := TB.keeps K₆.stays
  have D₆ : KtsDicts (outer.filterMap (·.frame)) g₆ := D.turn T₆
  refine stN F₆ (news := (e, oe) :: news) (fun q hq => (List.mem_cons.mp hq).elim (fun z => N₆ q (z ▸ .head _)) (Nl q)) (fun h₇ F₇ N₇ => ?_) hk hlo
  exact k h₇ g₆ oe _ (T0.trans T₆) F₇ N₇ hoec hoedd ⟨vs, hoed⟩ K₆ X₆ P₆ D₆
end
end Mine

namespace Mine
section
variable {prog : Program} {w : World} {A : Around} {E : Value → Shared → Prop} {s : Shared} {h₀ : Heap} {L e dx : Addr} {m : Str → Option Value} {rest : List (Addr × Obj)} {od oe : Obj} {mA : Str → Option Value} {name : Str} {v : Value}
theorem exc_get {expr : Bool} {Q : Value → Shared → Prop} (X₀ : (hd.heap_39 w.params).In h₀) (F : Fr h₀ L s.heap m) (he : s.heap.get? e = some oe) (hc : oe.cls = .ref 31) (hdx : oe.dict = some dx) (hdt : ∃ vs, oe.data = .fields vs) (ho : s.heap.get? dx = some od) (hI : OdIs od mA)
    (hna : findIn (hd.heap_39 w.params) (.ref 31) name = some none) (hv : mA name = some v) (hh : handedIn v = true) (h : ∀ tk', Q v { s with toks := tk' }) :
    wpAny (model prog w) A (getAttr (.ref e) name expr) Q E s := by
  have X := X₀.keeps F.keep
  obtain ⟨hp, g, d, tk, os⟩ := s
  dsimp only at F he ho h X
  have IT : Looks (model prog w) hp (typeOf (.ref e)) (.ref 31) := exc_type he hc
  have h1 : findIn (hd.heap_39 w.params) (.ref 31) (Str.ofString "__getattribute__") = some (some (.builtin "BaseException.__getattribute__")) := by with_unfolding_all rfl
  have L1 := looks_findIn (M := model prog w) X h1
  have h2 : findIn (hd.heap_39 w.params) (.ref 31) (Str.ofString "__getattr__") = some none := by with_unfolding_all rfl
  have L2 := looks_findIn (M := model prog w) X h2
  have L3 := looks_findIn (M := model prog w) X hna
  have f3 : bindSpecial (.builtin "BaseException.__getattribute__") (.ref e) = pure (.builtin "BaseException.__getattribute__", [.ref e]) := by kernel_rfl
  have hx0 : (expr && onTheHeap (Value.builtin "BaseException.__getattribute__")) = false := by cases expr <;> rfl
  have FA := PySem.F.attr_Exception
  have sub : Looks (model prog w) hp (isInstance (.ref e) (.type "BaseException")) true := IT.andThen (looks_mroIn X (by with_unfolding_all rfl))
  have hcl : clsIn (hd.heap_39 w.params) 31 = some { name := Str.ofString "QuicError", bases := [.type "Exception"], mro := .ref 31 :: [.type "Exception", .type "BaseException", .type "object"], ns := 30, qualname := Str.ofString "QuicError" } := by with_unfolding_all rfl
  have L4 := looks_clsIn (M := model prog w) X hcl
  obtain ⟨vs, hvs⟩ := hdt
  unfold getAttr getAttrBy
  repeat (any_goals (first | assumption | with_reducible refine Looks.here (s := ⟨hp, g, d, _, os⟩) IT ?_ | with_reducible refine Looks.here (s := ⟨hp, g, d, _, os⟩) L1 ?_ | with_reducible refine Looks.here (s := ⟨hp, g, d, _, os⟩) L2 ?_ | (rw [if_neg (by rw [hx0]; decide)]) | wp_step))
  refine codeAny_call_builtin FA.ga.plain PySem.F.entry_bexc_ga (@check_slot (model prog w) _ _ ⟨hp, g, d, tk + 1, os⟩ "BaseException.__getattribute__" "BaseException" "__getattribute__" (.ref e) [.str name tk] [] _ (by decide +kernel) (by decide +kernel) sub (PySem.F.args_bexc_ga (.ref e) (.str name tk)) ?_)
  show wpAny _ _ (Builtin.«object.__getattribute__» ⟨[.ref e, .str name tk], []⟩) _ _ _
  unfold Builtin.«object.__getattribute__»
  repeat (any_goals (first | assumption | with_reducible refine Looks.here (s := ⟨hp, g, d, _, os⟩) IT ?_ | with_reducible refine Looks.here (s := ⟨hp, g, d, _, os⟩) L3 ?_ | with_reducible refine Looks.here (s := ⟨hp, g, d, _, os⟩) L4 ?_ | wp_step))
  rw [hvs]
  dsimp only
  have hns := (nsOd ho hI).ns
  unfold instanceDict
  repeat (any_goals (first | assumption | (with_reducible refine wpAny_loadPart_at he ?_; rw [hc]) | with_reducible refine Looks.here (s := ⟨hp, g, d, _, os⟩) L4 ?_ | wp_step))
  rw [hdx]
  repeat (first | (with_reducible refine wpAny_nsGet (s := ⟨hp, g, d, _, os⟩) hns ?_; rw [hv]) | wp_step)
  show wpAny _ _ (handedOut v) _ _ _
  rw [handedOut_of hh]
  exact wpAny_pure (h _)

def RaisableD (w : World) (E : Value → Shared → Prop) (v : Value) (s₁ : Shared) : Prop :=
  ∃ a oe vs, v = .ref a ∧ (hd.heap_39 w.params).In s₁.heap ∧ s₁.heap.get? a = some oe ∧ oe.cls = .ref 31 ∧ oe.data = .fields vs ∧ vs[1]? = some .none ∧ E (.ref a) s₁

theorem Raise_D {env : Env} {x : Expr} {pos : Pos} {Q : Flow → Shared → Prop} (hh : A.handled = none)
    (h : wpAny (model prog w) A (eval x env) (RaisableD w E) E s) : wpAny (model prog w) A (exec (.Raise (some x) none pos) env) Q E s := by
  show wpAny _ A (do standAt pos; raiseStmt env (some (do let v ← eval x env; standAt pos; pure v)) none) Q E s
  refine wpAny_bind (wpAny_standAt ?_)
  unfold raiseStmt
  dsimp only
  refine wpAny_bind (wpAny_bind (wpAny_mono h (fun v s₁ h₁ => wpAny_bind (wpAny_standAt (wpAny_pure ?_))) fun _ _ z => z))
  obtain ⟨a, oe, vs, rfl, X, ha, hcls, hdv, h1, hE⟩ := h₁
  have IT : Looks (model prog w) s₁.heap (typeOf (.ref a)) (.ref 31) := exc_type ha hcls
  have sub : Looks (model prog w) s₁.heap (isInstance (.ref a) (.type "BaseException")) true := IT.andThen (looks_mroIn X (by with_unfolding_all rfl))
  have ht : typeIn (hd.heap_39 w.params) (.ref 31) = some (.type "type") := by with_unfolding_all rfl
  have LT := looks_typeIn (M := model prog w) X ht
  have hnt : ∀ {Q' : Bool → Shared → Prop}, Q' false s₁ → wpAny (model prog w) A (isType (.ref a)) Q' E s₁ := by
    intro Q' hq
    simp only [isType, loadHead]
    refine wpAny_bind (wpAny_loadPart ha ?_)
    rw [hdv]; exact wpAny_pure hq
  refine wpAny_bind (wpAny_pure ?_)
  dsimp only
  refine wpAny_bind (wpAny_holding ?_)
  unfold excFromValue isExcClass
  refine wpAny_bind (wpAny_bind (hnt ?_))
  simp only [Bool.false_eq_true, if_false]
  refine wpAny_pure ?_
  simp only [Bool.false_eq_true, if_false]
  refine wpAny_bind (sub.here ?_)
  simp only [if_true]
  refine wpAny_pure ?_
  refine wpAny_bind (hnt ?_)
  simp only [Bool.false_eq_true, if_false]
  unfold raisedInstance
  refine wpAny_bind (wpAny_bind (IT.here (wpAny_bind (LT.here ?_))))
  rw [if_pos (by decide)]
  refine wpAny_pure ?_
  unfold setFlight raiseNew
  refine wpAny_bind (wpAny_bind (wpAny_field ha hdv h1 ?_))
  rw [if_neg (by decide)]
  refine wpAny_pure (wpAny_bind (wpAny_handled ?_))
  rw [hh]
  first
    | exact wpAny_throw hE
    | exact wpAny_bind (wpAny_pure (wpAny_throw hE))
end
end Mine

namespace Mine
theorem meta_exc : typeOf (.type "Exception") = pure (.type "type") := by kernel_rfl
local macro_rules | `(tactic| walk_at "getMethod type:Exception") => `(tactic| (k_here; refine' method_type ?F ?X ?m (by decide +kernel) ?e ?h ?_; (case F => k_asm); (case X => k_asm); (case m => exact meta_exc); (case e => k_dflt k_is); (case h => k_handed)))
local macro_rules | `(tactic| walk_at "call builtin:Exception.__init__") => `(tactic| (k_here; k_dflt (refine' exc_init_call ?k1 ?k2 ?k3 ?k4 ?_; (case k1 => k_asm); (case k2 => k_asm); (case k3 => k_asm); (case k4 => first | assumption | k_all); k_whole); intro t' h' tk' F' N' l1 l2; (try k_sweep)))
local macro_rules | `(tactic| walk_at "setAttr ref") => `(tactic| (k_here; k_dflt first
  | (refine' exc_set1 ?k1 ?k2 ?k3 ?k4 ?k5 ?k6 ?k7 ?k8 ?k9 ?_; (case k1 => k_asm); (case k2 => k_asm); (case k3 => k_asm); (case k4 => first | assumption | exact List.forall_mem_cons.mpr ⟨by assumption, by assumption⟩ | exact List.forall_mem_cons.mpr ⟨Ne.symm (by assumption), by assumption⟩); (case k5 => assumption); (case k6 => assumption); (case k7 => within_ways); (case k8 => decide); (case k9 => k_is); k_whole; intro od' h' tk' F' N' I'; (try k_sweep))
  | (refine' exc_set0 ?k1 ?k2 ?k3 ?k4 ?k9 ?_; (case k1 => k_asm); (case k2 => k_asm); (case k3 => k_asm); (case k4 => first | assumption | exact List.forall_mem_cons.mpr ⟨by assumption, by assumption⟩); (case k9 => k_is); k_whole; intro dx' od' h' tk' F' N' I' l1 l2; (try k_sweep))))

theorem quic_new : ∀ (w : World) (loose : List Str) (mean : ExcName → Option Value) (mg mb : Str → Option Value) (dp un : Nat) (gd : Option (List Code)) (cn : Str) (cs : Scope) (a : Addr) (ccd : Value) (outer : List Env) (A₀ : Around) (base h₀ : Heap) (L : Addr) (m : Str → Option Value) (s : Shared) (Q E : Value → Shared → Prop)
    (news : List (Addr × Obj)) (ta tb tc : Tok),
    Below A₀ base outer h₀ → Fr h₀ L s.heap m → (hd.heap_39 w.params).In h₀ →
    News h₀ L s.heap news →
    Top hd.view_39 loose mean mg mb h₀ → cs.kind = .function → dp + 2 < recursionLimit → un + 16 < cLine →
    (∀ e dx t od x mA h' tk', Fr h₀ L h' m → News h₀ L h' ((e, excO (some dx) t) :: (dx, od) :: (t, { cls := .type "tuple", data := .seq #[x] }) :: news) → OdIs od mA → mA (Str.ofString "code") = some (.int 3 ta) → (∀ p ∈ news, p.1 ≠ e) → (∀ p ∈ news, p.1 ≠ dx) → (∀ p ∈ news, p.1 ≠ t) → t ≠ e → dx ≠ e → t ≠ dx → Q (.ref e) { s with heap := h', toks := tk' }) →
    wpAny (model PySem.Challenge.rw_pf0248_01.row.prog w) (ktrTop dp un gd cn cs L a ccd [] outer) (PySem.call (.ref 31) [.int 3 ta, .int 0 tb, .str (Str.ofString "beyond the limit") tc]) Q E s := by
  k_fill
  w_top off
  intro w loose mean mg mb dp un gd cn cs a ccd outer A₀ base h₀ L m s Q E news ta tb tc B F X N T hk hd hu ret
  have X' := X.keeps F.keep
  have hns := quic_ns w X'
  obtain ⟨dd, k0, k1, k2, k3, k5, hC⟩ := quic_cls w X'
  have hfI := X' 28 _ (by with_unfolding_all rfl)
  have hi := ns_some (n := Str.ofString "__init__") (v := .ref 28) X' hns (by with_unfolding_all rfl)
  obtain ⟨hp, g, d, t, os⟩ := s
  refine wpAny_call_exc_init PySem.F.excBase_Exception hC hns hi hfI rfl (fun h' e hm => ?_) (by show 3 ≤ sizeLine; rw [sizeLine_eq]; omega)
  have F₁ : Fr h₀ L h' m := F.keeps hm.keeps
  obtain ⟨t₁, he, htn, ht⟩ := hm.there
  have fre : ∀ b, hp.get? b = none → h₀.get? b = none := fun b q => by
    cases z : h₀.get? b with
    | none => rfl
    | some o => have := F.keep b o z; rw [q] at this; cases this
  have lt : ∀ p ∈ news, p.1 ≠ e := fun p hp q => by have := (N p hp).1; rw [q, hm.new] at this; cases this
  have N₁ : News h₀ L h' ((e, excO none t₁) :: news) := News.more F₁ (fun p hp => ⟨hm.keeps _ _ (N p hp).1, (N p hp).2⟩) he (fun es n q => by cases q) (fre e hm.new)
  clear F N X' hns hi hC hfI dd k0 k1 k2 k3 k5 htn ht hm fre
  refine wpAny_call ?_
  k_dflt cell_enter
  k_steps
  refine' ret _ _ _ _ _ _ _ _ ?F ?N ?I ?c ?l1 ?l2 ?l3 ?l4 ?l5 ?l6
  case F => k_asm
  case N => k_asm
  case I => assumption
  case c => rfl
  case l1 => assumption
  case l4 => assumption
  case l5 => assumption
  case l3 => assumption
  case l2 => rename ∀ p ∈ _ :: news, p.1 ≠ _ => z; exact (List.forall_mem_cons.mp z).2
  case l6 => rename ∀ p ∈ _ :: news, p.1 ≠ _ => z; exact (List.forall_mem_cons.mp z).1
end Mine

namespace Mine
abbrev winD (H1 H2 H3 H4 H5 : Int) (k1 k2 k3 k4 k5 : Tok) (size limit got used : Int) (t1 t2 t3 t4 : Tok) (owes : Bool) (n : Nat) : Obj :=
  dictOf [⟨H1, .str (Str.ofString "size") k1, .int size t1⟩, ⟨H2, .str (Str.ofString "limit") k2, .int limit t2⟩, ⟨H3, .str (Str.ofString "got") k3, .int got t3⟩, ⟨H4, .str (Str.ofString "used") k4, .int used t4⟩, ⟨H5, .str (Str.ofString "owes_limit") k5, .bool owes⟩] n

local macro_rules | `(tactic| walk_at "exec Raise some none") => `(tactic| (k_here; k_dflt (refine' Raise_D ?h ?_; (case h => first | rfl | assumption); k_whole)))
local macro_rules | `(tactic| walk_at "call ref") => `(tactic| (k_here; (with_reducible show wpAny _ _ (PySem.call (Value.ref 31) _) _ _ _); k_dflt (refine' quic_new _ _ _ _ _ _ _ _ _ _ _ _ _ _ _ _ _ _ _ _ _ _ _ _ _ ?k1 ?k2 ?k3 ?k4 ?k5 ?k6 ?k7 ?k8 ?_; (case k1 => k_asm); (case k2 => k_asm); (case k3 => k_asm); (case k4 => k_asm); (case k5 => k_asm); (case k6 => rfl); (case k7 => ktr_room); (case k8 => ktr_units); k_whole); intro e' dx' t' od' x' mA' h' tk' F' N' I' hc' l1 l2 l3 l4 l5 l6; (try k_sweep)))
local macro_rules | `(tactic| walk_at "RaisableD") => `(tactic| (refine' ⟨_, _, _, rfl, ?X, ?a, ?b, ?c, ?d, ?_⟩; (case X => exact Frag.In.keeps (by k_asm) (Fr.keep (by k_asm))); (case a => exact (News.get (by k_asm) (List.Mem.head _))); (case b => rfl); (case c => rfl); (case d => rfl); walk_say "RAISABLE"))

local macro_rules | `(tactic| walk_at "leaving ref") => `(tactic| (k_here; (refine' leave_raiseD ?K ?F ?N ?hne ?hd ?h1 ?_; (case F => assumption); (case K => assumption); (case N => k_asm); (case hd => exact rfl); (case h1 => exact rfl); (case hne => exact List.forall_mem_cons.mpr ⟨by assumption, List.forall_mem_cons.mpr ⟨by assumption, by assumption⟩⟩); k_whole; intro h' R' U'; (try dsimp only at R' U' ⊢))))
local macro_rules | `(tactic| walk_at "noteFrame ref") => `(tactic| (k_here; (rename RaisedD _ _ _ _ _ _ _ _ => rsX); (with_reducible show wpAny _ _ (noteFrame _ _) (fun _ s₂ => wpAny _ _ (setFlight _ none) (fun _ s₃ => wpAny _ _ (handleBy _ _ (ExceptHandler.ExceptHandler (some (Expr.Name _ _)) (some _) _ _ :: _)) _ _ s₃) _ s₂) _ _); k_dflt (refine' caught_D ?R ?F ?K ?U ?XB ?TB ?D ?T0 ?ex ?q ?_; (case R => exact rsX); (case F => assumption); (case K => assumption); (case U => assumption); (case XB => assumption); (case TB => assumption); (case D => assumption); (case T0 => first | assumption | exact KtsTurn.refl); (case ex => k_is); (case q => kts_isx); k_whole); intro h' g' oe' tk' T' F' N' c1' c2' c3' K' X' P' D'; (try k_lift K'); (try k_sweep)))
local macro_rules | `(tactic| walk_at "getAttr ref") => `(tactic| (k_here; k_dflt (refine' exc_get ?k1 ?k2 ?k3 ?k4 ?k5 ?k6 ?k7 ?k8 ?k9 ?k10 ?k11 ?_; (case k4 => assumption); (case k1 => k_asm); (case k2 => k_asm); (case k3 => exact News.get (by k_asm) (List.Mem.head _)); (case k5 => assumption); (case k6 => assumption); (case k7 => exact News.get (by k_asm) (List.Mem.tail _ (List.Mem.head _))); (case k8 => assumption); (case k9 => k_is); (case k10 => assumption); (case k11 => k_handed); k_whole); intro tk'))

theorem refused_call : ∀ (w : World) (loose : List Str) (mean : ExcName → Option Value) (mg mb : Str → Option Value) (cn : Str) (nms : List (Str × NameKind)) (a : Addr) (ccd : Value) (A₀ : Around) (base : Heap) (L : Addr) (m : Str → Option Value) (s : Shared) (Q E : Value → Shared → Prop)
    (rest : List (Addr × Obj)) (wn dx : Addr) (H1 H2 H3 H4 H5 : Int) (k1 k2 k3 k4 k5 : Tok) (size limit got used : Int) (t1 t2 t3 t4 : Tok) (owes : Bool) (many : Int) (tm : Tok),
    Below A₀ base [] base → Fr base L s.heap m → (hd.heap_39 w.params).In base →
    News base L s.heap ((wn, instObj 135 dx) :: (dx, winD H1 H2 H3 H4 H5 k1 k2 k3 k4 k5 size limit got used t1 t2 t3 t4 owes 5) :: rest) → OwnOff rest [wn, dx] → @Ne Nat dx wn →
    Top hd.view_39 loose mean mg mb base → 
    (∀ t h' tk', Fr base L h' m → News base L h' ((wn, instObj 135 dx) :: (dx, winD H1 H2 H3 H4 H5 k1 k2 k3 k4 k5 size limit (if got + many > limit then got else got + many) used t1 t2 t t4 owes 5) :: rest) → Q (.bool (decide (got + many > limit))) { s with heap := h', toks := tk' }) →
    wpAny (model PySem.Challenge.rw_pf0248_01.row.prog w) (ktrTop 302 7 (some []) cn { kind := .function, names := nms, isGenerator := false, isCoroutine := false, more := [] } L a ccd [] []) (PySem.call (.ref 160) [.ref wn, .int many tm]) Q E s := by
  k_fill
  w_top off
  intro w loose mean mg mb cn nms a ccd A₀ base L m s Q E rest wn dx H1 H2 H3 H4 H5 k1 k2 k3 k4 k5 size limit got used t1 t2 t3 t4 owes many tm B F X N hoff hne T ret
  have D := ktsDicts_nil (g := base)
  refine wpAny_call ?_
  k_dflt kts_go
  k_steps
  · have hz : got + many > limit := by omega
    rw [if_pos hz, decide_eq_true hz] at ret
    refine ret t3 _ _ (by k_asm) ?_
    rename News base L _ _ => lN
    exact fun p hp => lN p (.tail _ (.tail _ (.tail _ hp)))
  · have hz : ¬ got + many > limit := by omega
    rw [if_neg hz, decide_eq_false hz] at ret
    exact ret _ _ _ (by k_asm) (by k_asm)
end Mine

namespace Mine
theorem pick_call : ∀ (w : World) (loose : List Str) (mean : ExcName → Option Value) (mg mb : Str → Option Value) (dp un : Nat) (gd : Option (List Code)) (cn : Str) (cs : Scope) (a : Addr) (ccd : Value) (outer : List Env) (A₀ : Around) (base h₀ : Heap) (L : Addr) (m : Str → Option Value) (s : Shared) (Q E : Value → Shared → Prop)
    (rest : List (Addr × Obj)) (pn lq : Addr) (vs : List Value) (xs : List Int) (c q : Int) (tc tq : Tok) (n1 n2 : Nat) (many : Int) (tm : Tok),
    Below A₀ base outer h₀ → Fr h₀ L s.heap m → (hd.heap_39 w.params).In h₀ →
    News h₀ L s.heap ((pn, listOf #[.ref lq, .int c tc, .int q tq] n1) :: (lq, listOf vs.toArray n2) :: rest) → OwnOff rest [pn, lq] → lq ≠ pn →
    Top hd.view_39 loose mean mg mb h₀ → cs.kind = .function → IntsAre vs xs → xs.length ≤ 63 → 0 ≤ c → c ≤ 1000 → 0 ≤ q → q < 997 → 1 ≤ many → many ≤ 64 → dp + 1 < recursionLimit → un + 8 < cLine →
    (∀ r t t' n' h' tk', 0 ≤ r → r < many → Fr h₀ L h' m → News h₀ L h' ((pn, listOf #[.ref lq, .int (c + 1) t', .int q tq] n') :: (lq, listOf vs.toArray n2) :: rest) → Q (.int r t) { s with heap := h', toks := tk' }) →
    wpAny (model PySem.Challenge.rw_pf0248_01.row.prog w) (ktrTop dp un gd cn cs L a ccd [] outer) (PySem.call (.ref 153) [.ref pn, .int many tm]) Q E s := by
  k_fill
  w_top off
  intro w loose mean mg mb dp un gd cn cs a ccd outer A₀ base h₀ L m s Q E rest pn lq vs xs c q tc tq n1 n2 many tm B F X N hoff hne T hk hI hlen hc0 hc1 hq0 hq1 hm0 hm1 hd hu ret
  refine wpAny_call ?_
  k_dflt cell_enter
  k_steps
  · exact ret _ _ _ _ _ _ (by rw [Int.fmod_eq_emod_of_nonneg _ (by omega)]; exact Int.emod_nonneg _ (by omega)) (by rw [Int.fmod_eq_emod_of_nonneg _ (by omega)]; exact Int.emod_lt_of_pos _ (by omega)) (by k_asm) (by k_asm)
  · exact ret _ _ _ _ _ _ (by rw [Int.fmod_eq_emod_of_nonneg _ (by omega)]; exact Int.emod_nonneg _ (by omega)) (by rw [Int.fmod_eq_emod_of_nonneg _ (by omega)]; exact Int.emod_lt_of_pos _ (by omega)) (by k_asm) (by k_asm)
end Mine

namespace Mine
section
theorem ba_mro : mroOf (.type "bytearray") = pure [.type "bytearray", .type "object"] := by rw [mroOf_type]; kernel_rfl
theorem ba_new : typeLookup (.type "bytearray") "__new__" = pure (some (.builtin "bytearray.__new__")) := by rw [typeLookup_type, builtinLookup_eq_fast]; kernel_rfl
theorem ba_init : typeLookup (.type "bytearray") "__init__" = pure (some (.builtin "bytearray.__init__")) := by rw [typeLookup_type, builtinLookup_eq_fast]; kernel_rfl
theorem ba_made : Bind.madeBy (.type "bytearray") = pure (some "bytearray.__new__") := madeBy_type ba_mro ba_new (by decide +kernel)
theorem ba_sub : isSubtype (.type "bytearray") (.type "bytearray") = pure true := by rw [isSubtype_type]; kernel_rfl
theorem ba_typeCall (a : Value) : checkTypeCall "bytearray" ⟨[a], []⟩ = pure () := by kernel_rfl
theorem ba_newCall (a : Value) : checkBuiltinCall "bytearray.__new__" ⟨[.type "bytearray", a], []⟩ = pure () := by kernel_rfl
theorem ba_newEntry : entryFor table "bytearray.__new__" = some Builtin.«list.__new__» := entryFor_alias (id' := "list.__new__") (by rw [fastTable_eq_tree]; kernel_rfl) (by first | rfl | decide +kernel) (by decide +kernel) (by rw [fastTable_eq_tree]; kernel_rfl)
theorem ba_initEntry : entryFor table "bytearray.__init__" = some Builtin.«bytearray.__init__» := entryFor_of_tree (by kernel_rfl)
theorem ba_initArgs (a b : Value) : argsOk "bytearray.__init__" ⟨[a, b], []⟩ := by unfold argsOk; kernel_rfl
theorem ba_initPlain : plainId "bytearray.__init__" = true := by decide +kernel
theorem ba_bind (self : Value) : bindSpecial (.builtin "bytearray.__init__") self = pure (.builtin "bytearray.__init__", [self]) := by kernel_rfl

set_option maxRecDepth 1000000 in
theorem ba_owner : ("bytearray.__new__".splitOn ".__new__").headD "" = "bytearray" := by simp +decide [String.splitOn, String.splitOnAux]
theorem ba_newPlain : plainId "bytearray.__new__" = true := by decide +kernel
end
section
variable {prog : Program} {w : World} {A : Around} {E : Value → Shared → Prop} {s : Shared}
theorem code_ba_new (a : Value) {R : Result → Shared → Prop}
    (h : R (.ok (.ret (.ref s.heap.objs.size))) { s with heap := s.heap.push { cls := .type "bytearray", data := .bytearray #[] } }) :
    codeAny (model prog w) A (.call (.builtin "bytearray.__new__") ⟨[.type "bytearray", a], []⟩) R s := by
  refine codeAny_of_tree ?_
  show wpAny _ A.in1 (do checkBuiltinCall "bytearray.__new__" ⟨[.type "bytearray", a], []⟩; again (.builtin "bytearray.__new__" ⟨[.type "bytearray", a], []⟩)) _ _ s
  refine wpAny_bind (wpAny_of_eq (ba_newCall a) (wpAny_pure ⟨plainId_quiet ba_newPlain _, codeAny_builtin_stack ba_newEntry rfl fun p st => ?_⟩))
  rw [Around.under_plainId ba_newPlain _]
  have hsub := ba_sub
  have hown := ba_owner
  obtain ⟨hp, g, d, tk, os⟩ := s
  simp only [hown]
  wp_walk
  exact h

theorem codeC_builtin {id : String} {args : Args} {b : Builtin} {R : Result → Shared → Prop} (hk : okCode (.builtin id args) = true) (hb : entryFor table id = some b)
    (h : wpC (model prog w) (A.under (.builtin id args)) (b args)
      (fun fin s' => match fin with | .done f => R (.ok f) s' | .again c' => c'.quiet = true ∧ codeC (model prog w) A c' R s') (fun e s' => R (.error e) s') s) :
    codeC (model prog w) A (.builtin id args) R s := by
  refine codeC_of_tree hk ?_
  show wpC _ _ (match entryFor table id with | some b => b args | none => unsupported ((withoutEnding? id "#data").getD id)) _ _ s
  rw [hb]; exact h

theorem ba_rel : typeLookup (.type "bytearray") "__release_buffer__" = pure (some (.builtin "bytearray.__release_buffer__")) := by rw [typeLookup_type, builtinLookup_eq_fast]; kernel_rfl
theorem ba_own {b : Addr} {bs : Array UInt8} {n : Nat} {Q : Bool → Shared → Prop} (hb : s.heap.get? b = some { cls := .type "bytearray", data := .bytearray bs n }) (h : Q false s) :
    wpAny (model prog w) A (Builtin.Bytes.ownRelease (.ref b)) Q E s := by
  have hT : s.TypeIs (.ref b) "bytearray" := ⟨_, hb, rfl⟩
  unfold Builtin.Bytes.ownRelease Builtin.Bytes.slotIsOwn
  refine wpAny_bind (wpAny_bind (wpAny_specialOf hT ba_rel ?_))
  dsimp only
  rw [if_neg (by decide +kernel)]
  refine wpAny_isInstance hT (by with_unfolding_all exact ba_sub) ?_
  exact wpAny_pure h
theorem ba_opt (v : Value) : Builtin.Bytes.bindOptional "bytearray.__init__" "bytearray" ["source", "encoding", "errors"] [v] [] = pure [some v, none, none] := by kernel_rfl

theorem ba_write {b : Addr} {bs : Array UInt8} {n : Nat} {f : Array UInt8 → Array UInt8} {Q : Unit → Shared → Prop} (hb : s.heap.get? b = some { cls := .type "bytearray", data := .bytearray bs n }) (hz : (f bs).size ≤ sizeLine)
    (h : ∀ h', Heap.SameBut b s.heap h' → h'.get? b = some { cls := .type "bytearray", data := .bytearray (f bs) n } → Q () { s with heap := h' }) :
    wpAny (model prog w) A (Builtin.Bytes.write (.ref b) f) Q E s := by
  unfold Builtin.Bytes.write updateBytearray
  have h2 : (s.heap.update b (Obj.mapBytearray f)).get? b = some { cls := .type "bytearray", data := .bytearray (f bs) n } := Heap.get?_update_self _ hb rfl
  refine wpAny_bind (wpAny_load hb (wpAny_bind (wpAny_update hb (wpAny_lookBehind h2 ?_ (h _ (Heap.SameBut.update _ _ _) h2)))))
  unfold Data.pastItsLine
  dsimp only
  rw [if_neg (Nat.not_lt.mpr hz)]

theorem ba_init8 {b : Addr} {t : Tok} {Q : PySem.Fin → Shared → Prop} (hb : s.heap.get? b = some { cls := .type "bytearray", data := .bytearray #[] })
    (h : ∀ h', Heap.SameBut b s.heap h' → h'.get? b = some { cls := .type "bytearray", data := .bytearray (Array.replicate 8 0) } → Q (.done (.ret .none)) { s with heap := h' }) :
    wpC (model prog w) A (Builtin.«bytearray.__init__» ⟨[.ref b, .int 8 t], []⟩) Q E s := by
  unfold Builtin.«bytearray.__init__»
  dsimp only
  refine wpC_step (ba_own hb ?_)
  rw [if_neg (by decide)]
  refine wpC_step (wpAny_of_eq (ba_opt _) ?_)
  dsimp only
  refine wpC_step (wpAny_pure ?_)
  refine wpC_step (wpAny_pure ?_)
  refine wpC_bind (wpC_bind (wpC_exported ?_))
  refine wpC_step (m := Builtin.Bytes.exportsOf (.ref b)) (wpAny_bind (wpAny_load hb (wpAny_pure (wpC_pure ?_))))
  rw [if_neg (by decide)]
  refine wpC_any (wpAny_bind (ba_write hb (by simp) fun h₁ hs₁ hb₁ => ?_))
  have hi : typeLookup (.type "int") "__index__" = pure (some (.builtin "int.__index__")) := by rw [typeLookup_type, builtinLookup_eq_fast]; kernel_rfl
  have hx : asIndex (.int 8 t) = pure 8 := by kernel_rfl
  have hstr : asStr? (.int 8 t) = pure none := by kernel_rfl
  have hti : typeOf (.int 8 t) = pure (.type "int") := by kernel_rfl
  refine wpAny_bind (wpAny_of_eq hstr ?_)
  rw [if_neg (by decide), if_neg (by decide), if_neg (by decide)]
  refine wpAny_bind (wpAny_pure (wpAny_bind (wpAny_bind (wpAny_of_eq hti (wpAny_of_eq hi ?_)))))
  rw [if_pos (by decide)]
  refine wpAny_bind (wpAny_attempt (wpAny_of_eq hx ?_))
  dsimp only
  rw [if_neg (by decide), if_neg (by decide), if_neg (by decide), if_neg (by decide +kernel)]
  refine wpAny_bind (wpAny_rule ?_)
  rw [if_pos (by decide)]
  refine wpAny_bind (ba_write hb₁ (by rw [sizeLine_eq]; simp) fun h₂ hs₂ hb₂ => ?_)
  exact wpAny_pure (h h₂ (hs₁.trans hs₂) hb₂)

theorem ba_make {t : Tok} {Q : Value → Shared → Prop}
    (h : ∀ h', Heap.SameBut s.heap.objs.size (s.heap.push { cls := .type "bytearray", data := .bytearray #[] }) h' → h'.get? s.heap.objs.size = some { cls := .type "bytearray", data := .bytearray (Array.replicate 8 0) } → Q (.ref s.heap.objs.size) { s with heap := h' }) :
    wpC (model prog w) A (PySem.call (.type "bytearray") [.int 8 t]) Q E s := by
  refine wpC_call (codeC_of_tree rfl ?_)
  show wpC _ _ (callAny (.type "bytearray") ⟨[.int 8 t], []⟩) _ _ _
  refine wpC_pure ⟨Code.quiet_builtin _ (by decide +kernel), codeC_builtin (by show (!badIds.contains "type.__call__") = true; decide +kernel) PySem.F.entry_type_call ?_⟩
  unfold Builtin.«type.__call__»
  dsimp only
  rw [if_neg (by decide), if_neg (by decide +kernel)]
  refine wpC_step (wpAny_of_eq (ba_typeCall _) (wpC_step (wpAny_of_eq ba_mro ?_)))
  rw [if_neg (by decide)]
  refine wpC_step (wpAny_of_eq ba_made (wpC_step (wpAny_pure ?_)))
  refine wpC_step (wpAny_holding (wpAny_call (code_ba_new _ ?_)))
  have hb : (s.heap.push { cls := .type "bytearray", data := .bytearray #[] }).get? s.heap.objs.size = some { cls := .type "bytearray", data := .bytearray #[] } := Heap.get?_push_size _ rfl
  have hT : ({ s with heap := s.heap.push { cls := .type "bytearray", data := .bytearray #[] } } : Shared).TypeIs (.ref s.heap.objs.size) "bytearray" := ⟨_, hb, rfl⟩
  refine wpC_step (wpAny_isInstance hT ba_sub ?_)
  rw [if_neg (by decide)]
  refine wpC_bind (wpC_holding (wpC_step (wpAny_specialOf hT ba_init ?_)))
  refine wpC_holding (wpC_step (wpAny_of_eq (ba_bind _) (wpC_bind (wpC_call (codeC_of_tree rfl ?_)))))
  show wpC _ _ (do checkBuiltinCall "bytearray.__init__" ⟨[.ref s.heap.objs.size, .int 8 t], []⟩; again (.builtin "bytearray.__init__" ⟨[.ref s.heap.objs.size, .int 8 t], []⟩)) _ _ _
  refine wpC_step (@check_slot (model prog w) _ _ _ "bytearray.__init__" "bytearray" "__init__" (.ref s.heap.objs.size) [.int 8 t] [] _ (by decide +kernel) (by decide +kernel) ?_ (ba_initArgs _ _) ?_)
  · exact fun A Q E s' k h' => wpAny_isInstance ⟨_, k _ _ hb, rfl⟩ ba_sub h'
  refine wpC_pure ⟨Code.quiet_builtin _ (by decide +kernel), codeC_builtin (by show (!badIds.contains "bytearray.__init__") = true; decide +kernel) ba_initEntry (ba_init8 hb fun h' hs hb' => ?_)⟩
  exact wpC_pure (wpC_pure (h h' hs hb'))
end
end Mine

namespace Mine
theorem ba_slot_set : Slot "bytearray" "__setitem__" "bytearray.__setitem__" :=
  .of (owner := "bytearray") (n := "__setitem__") (by rw [typeLookup_type, builtinLookup_eq_fast]; kernel_rfl) (by decide +kernel) (by decide +kernel) (by decide +kernel)
    (by first | exact .inl (by decide +kernel) | exact .inr (by decide +kernel)) (by rw [isSubtype_type]; kernel_rfl)
theorem ba_entry_set : entryFor table "bytearray.__setitem__" = some Builtin.«bytearray.__setitem__» := entryFor_of_tree (by kernel_rfl)
theorem ba_args_set (a b c : Value) : argsOk "bytearray.__setitem__" ⟨[a, b, c], []⟩ := by unfold argsOk; kernel_rfl
section
variable {prog : Program} {w : World} {A : Around} {E : Value → Shared → Prop} {s : Shared}
theorem ba_subscript {k : Int} {u : Tok} {Q : Option Int → Shared → Prop} (hf : Builtin.Bytes.fitsIndex k = true) (h : Q (some k) s) : wpAny (model prog w) A (Builtin.Bytes.subscript? (.int k u)) Q E s := by
  have hi : typeLookup (.type "int") "__index__" = pure (some (.builtin "int.__index__")) := by rw [typeLookup_type, builtinLookup_eq_fast]; kernel_rfl
  unfold Builtin.Bytes.subscript?
  refine wpAny_bind (wpAny_specialOf (T := "int") (typeIs_int s k u) hi ?_)
  rw [if_neg (by decide)]
  refine wpAny_bind (wpAny_of_eq (a := k) rfl ?_)
  rw [if_neg (by rw [hf]; decide)]
  exact wpAny_pure h
theorem ba_byte {x : Int} {u : Tok} {Q : UInt8 → Shared → Prop} (h0 : 0 ≤ x) (h1 : x < 256) (h : Q x.toNat.toUInt8 s) : wpAny (model prog w) A (Builtin.Bytes.byteValue (.int x u)) Q E s := by
  unfold Builtin.Bytes.byteValue
  refine wpAny_bind (wpAny_of_eq (a := x) rfl ?_)
  rw [if_neg (by simp; omega)]
  exact wpAny_pure h
theorem ba_payload {b : Addr} {bs : Array UInt8} {n : Nat} {Q : Array UInt8 → Shared → Prop} (hb : s.heap.get? b = some { cls := .type "bytearray", data := .bytearray bs n }) (h : Q bs s) : wpAny (model prog w) A (Builtin.Bytes.payload (.ref b)) Q E s := by
  unfold Builtin.Bytes.payload Builtin.Bytes.payload?
  exact wpAny_bind (wpAny_bind (wpAny_load hb (wpAny_pure (wpAny_pure h))))

theorem ba_setItem {b : Addr} {bs : Array UInt8} {n : Nat} {k x : Int} {u v : Tok} {Q : Unit → Shared → Prop} (hb : s.heap.get? b = some { cls := .type "bytearray", data := .bytearray bs n })
    (h0 : 0 ≤ k) (h1 : k < bs.size) (hz : bs.size ≤ 1000) (x0 : 0 ≤ x) (x1 : x < 256)
    (h : ∀ h', Heap.SameBut b s.heap h' → h'.get? b = some { cls := .type "bytearray", data := .bytearray (bs.setIfInBounds k.toNat x.toNat.toUInt8) n } → Q () { s with heap := h' }) :
    wpAny (model prog w) A (setItem (.ref b) (.int k u) (.int x v)) Q E s := by
  have hT : s.TypeIs (.ref b) "bytearray" := ⟨_, hb, rfl⟩
  unfold setItem
  try with_reducible refine wpAny_holding ?_
  first | refine wpAny_bind (wpAny_pure ?_) | skip
  refine wpAny_bind (wpAny_sequenceKey hT (by decide) ?_)
  refine wpAny_bind (wpAny_callSpecial?_slot (name := Str.ofString "__setitem__") hT ba_slot_set
    (wpAny_call_entry ba_slot_set hT ba_entry_set ?_ (ba_args_set _ _ _)))
  unfold Builtin.«bytearray.__setitem__»
  dsimp only
  rw [if_neg (by decide)]
  refine wpAny_bind (ba_subscript (by unfold Builtin.Bytes.fitsIndex; simp; omega) ?_)
  dsimp only
  refine wpAny_bind (ba_byte x0 x1 (wpAny_bind (ba_payload hb ?_)))
  rw [show seqIndex? k bs.size = some k.toNat from by
    unfold seqIndex?
    have h2 : ¬ k < 0 := by omega
    simp only [if_neg h2]
    rw [if_pos (by simp; omega)]]
  dsimp only
  refine wpAny_bind (ba_write hb (by rw [sizeLine_eq]; simp; omega) fun h' hs hb' => ?_)
  exact wpAny_pure ⟨_, rfl, wpAny_pure (h h' hs hb')⟩

theorem ba_no_bytes : typeLookup (.type "bytearray") "__bytes__" = pure none := by rw [typeLookup_type, builtinLookup_eq_fast]; kernel_rfl
theorem ba_no_index : typeLookup (.type "bytearray") "__index__" = pure none := by rw [typeLookup_type, builtinLookup_eq_fast]; kernel_rfl
theorem ba_buffer : typeLookup (.type "bytearray") "__buffer__" = pure (some (.builtin "bytearray.__buffer__")) := by rw [typeLookup_type, builtinLookup_eq_fast]; kernel_rfl

theorem ba_ownBuf {b : Addr} {bs : Array UInt8} {n : Nat} {Q : Bool → Shared → Prop} (hb : s.heap.get? b = some { cls := .type "bytearray", data := .bytearray bs n }) (h : Q true s) :
    wpAny (model prog w) A (Builtin.Bytes.slotIsOwn (.ref b) "__buffer__") Q E s := by
  have hT : s.TypeIs (.ref b) "bytearray" := ⟨_, hb, rfl⟩
  unfold Builtin.Bytes.slotIsOwn
  refine wpAny_bind (wpAny_specialOf hT ba_buffer ?_)
  dsimp only
  rw [if_neg (by decide +kernel)]
  exact wpAny_isInstance hT (by with_unfolding_all exact ba_sub) h

theorem bytes_new {b : Addr} {bs : Array UInt8} {n : Nat} {Q : Value → Shared → Prop} (hb : s.heap.get? b = some { cls := .type "bytearray", data := .bytearray bs n }) (hz : bs.size ≤ 1000)
    (hQ : Q (.bytes bs s.toks) { s with toks := s.toks + 1 }) :
    codeAny (model prog w) A (.call (.builtin "bytes.__new__") ⟨[.type "bytes", .ref b], []⟩) (wants Q E) s := by
  refine codeAny_of_tree ?_
  show wpAny _ A.in1 (do checkBuiltinCall "bytes.__new__" ⟨[.type "bytes", .ref b], []⟩; again (.builtin "bytes.__new__" ⟨[.type "bytes", .ref b], []⟩)) _ _ s
  refine wpAny_bind (wpAny_of_eq (PySem.F.bm_newCall _) (wpAny_pure ⟨plainId_quiet PySem.F.bm_plain _, codeAny_builtin PySem.F.bm_entry ?_⟩))
  rw [Around.under_plainId PySem.F.bm_plain _]
  have hT : s.TypeIs (.ref b) "bytearray" := ⟨_, hb, rfl⟩
  unfold Builtin.«bytes.__new__»
  refine wpAny_bind (wpAny_of_eq (a := true) rfl ?_)
  refine bm_if_false rfl ?_
  refine wpAny_bind (wpAny_of_eq PySem.F.bm_sub ?_)
  refine bm_if_false rfl ?_
  refine wpAny_bind (wpAny_of_eq (PySem.F.bm_bind _) ?_)
  refine wpAny_bind (wpAny_of_eq (a := ()) rfl ?_)
  refine wpAny_bind (wpAny_of_eq (a := ()) rfl ?_)
  refine bm_if_false rfl ?_
  refine wpAny_bind (wpAny_specialOf hT ba_no_bytes ?_)
  refine wpAny_bind (wpAny_bind ?_)
  show wpAny _ _ (load b >>= _) _ _ _
  refine wpAny_bind (wpAny_load hb ?_)
  refine wpAny_pure (wpAny_pure ?_)
  refine bm_if_false rfl ?_
  refine wpAny_bind (wpAny_specialOf hT ba_no_index ?_)
  refine bm_if_true rfl ?_
  first
    | show wpAny _ _ (Builtin.Bytes.buffer? "bytes.__new__" (.ref b) true >>= _) _ _ _
    | (refine wpAny_bind ?_; show wpAny _ _ (Builtin.Bytes.buffer? "bytes.__new__" (.ref b) true >>= _) _ _ _)
  refine wpAny_bind ?_
  unfold Builtin.Bytes.buffer?
  refine wpAny_bind (wpAny_specialOf hT ba_buffer ?_)
  dsimp only
  refine wpAny_bind (ba_ownBuf hb ?_)
  refine bm_if_false rfl ?_
  refine wpAny_bind (wpAny_specialOf hT ba_buffer ?_)
  refine wpAny_bind (ba_own hb ?_)
  refine bm_if_false rfl ?_
  refine wpAny_bind (ba_payload hb (wpAny_pure ?_))
  dsimp only
  refine wpAny_bind (wpAny_rule ?_)
  refine wpAny_bind (wpAny_mkBytes ?_ (by rw [sizeLine_eq]; omega))
  show wpAny _ _ (if (Value.type "bytes" == Value.type "bytes") = true then _ else _) _ _ _
  refine bm_if_true (by decide) ?_
  first
    | exact wpAny_pure hQ
    | exact wpAny_bind (wpAny_pure (wpAny_pure hQ))

theorem bytes_of {b : Addr} {bs : Array UInt8} {n : Nat} {Q : Value → Shared → Prop} (hb : s.heap.get? b = some { cls := .type "bytearray", data := .bytearray bs n }) (hz : bs.size ≤ 1000)
    (hQ : Q (.bytes bs s.toks) { s with toks := s.toks + 1 }) : wpAny (model prog w) A (PySem.call (.type "bytes") [.ref b]) Q E s := by
  refine callType_codes (Q₁ := fun obj s₁ => s₁.TypeIs obj "bytes" ∧ Q obj s₁) PySem.F.bm_called (PySem.F.bm_typeCall _) PySem.F.entry_object_init
    (bytes_new hb hz ⟨PySem.W.typeIs_bytes _ _ _, hQ⟩) fun obj s₁ h₁ => ?_
  exact ⟨h₁.1, PySem.F.args_object_init_2 obj _, object_init_meets PySem.F.bm_called.init.lookup PySem.F.bm_called.made (by decide) prog w A.in1 _ s₁ ⟨h₁.1, rfl, h₁.2⟩⟩
end
end Mine

namespace Mine
open PySem.Calls
/-! the clean logic's rules for the statements that lie on the way to `bytearray(size)` -/
section
variable {M : Model} {A : Around} {E : Value → Shared → Prop} {s : Shared} {env : Env}

theorem wpC_execs_cons {st rest} {Q : Flow → Shared → Prop}
    (h : wpC M A (exec st env) (fun f s' => match f with | .next => wpC M A (execs rest env) Q E s' | f => Q f s') E s) : wpC M A (execs (st :: rest) env) Q E s := by
  show wpC M A (do match ← exec st env with | .next => execs rest env | f => pure f) Q E s
  refine wpC_bind (wpC_mono h (fun f s' h' => ?_) fun _ _ x => x)
  cases f <;> first | exact h' | exact wpC_pure h'
theorem wpC_If {test body orelse pos} {Q : Flow → Shared → Prop}
    (h : wpC M A (isTrue test env (eval test env)) (fun b s₂ => if b then wpC M A (execs body env) Q E s₂ else wpC M A (execs orelse env) Q E s₂) E s) : wpC M A (exec (.If test body orelse pos) env) Q E s := by
  rw [exec_If]
  refine wpC_step (wpAny_standAt (wpC_bind (wpC_mono h (fun b s' h' => ?_) fun _ _ x => x)))
  cases b <;> exact h'
theorem wpC_isTrue_BoolOp {op : BoolOp} {values : List Expr} {pos : Pos} {whole : Sem Value} {Q : Bool → Shared → Prop} (h : wpC M A (allTrue op values env) Q E s) :
    wpC M A (isTrue (.BoolOp op values pos) env whole) Q E s := by rw [arm_isTrue_BoolOp]; exact h
theorem wpC_allTrue_And_nil {Q : Bool → Shared → Prop} (h : Q true s) : wpC M A (allTrue .And [] env) Q E s := wpC_pure h
theorem wpC_allTrue_Or_nil {Q : Bool → Shared → Prop} (h : Q false s) : wpC M A (allTrue .Or [] env) Q E s := wpC_pure h
theorem wpC_allTrue_And_cons {x : Expr} {rest : List Expr} {Q : Bool → Shared → Prop}
    (h : wpC M A (isTrue x env (eval x env)) (fun b s₁ => if b then wpC M A (allTrue .And rest env) Q E s₁ else Q false s₁) E s) : wpC M A (allTrue .And (x :: rest) env) Q E s := by
  show wpC M A (do match BoolOp.And, ← isTrue x env (eval x env) with | .And, false => pure false | .Or, true => pure true | _, _ => allTrue .And rest env) Q E s
  refine wpC_bind (wpC_mono h (fun b s₁ h₁ => ?_) fun _ _ x => x)
  cases b
  · exact wpC_pure h₁
  · exact h₁
theorem wpC_allTrue_Or_cons {x : Expr} {rest : List Expr} {Q : Bool → Shared → Prop}
    (h : wpC M A (isTrue x env (eval x env)) (fun b s₁ => if b then Q true s₁ else wpC M A (allTrue .Or rest env) Q E s₁) E s) : wpC M A (allTrue .Or (x :: rest) env) Q E s := by
  show wpC M A (do match BoolOp.Or, ← isTrue x env (eval x env) with | .And, false => pure false | .Or, true => pure true | _, _ => allTrue .Or rest env) Q E s
  refine wpC_bind (wpC_mono h (fun b s₁ h₁ => ?_) fun _ _ x => x)
  cases b
  · exact h₁
  · exact wpC_pure h₁
/-- a comparison whose left side lies on the way -/
theorem wpC_isTrue_Compare1 {l op r pos whole} {Q : Bool → Shared → Prop}
    (h : wpC M A (eval l env) (fun a s₁ => wpAny M A (eval r env) (fun b s₂ => wpAny M A (compareOp op a b) (fun c s₃ => wpAny M A (truthy c) Q E s₃) E s₂) E s₁) E s)
    (hm : behindInMarks op r = false := by with_unfolding_all rfl) : wpC M A (isTrue (.Compare l [op] [r] pos) env whole) Q E s := by
  rw [isTrue_Compare1, markedBehindIn_of_false hm]
  refine wpC_bind (wpC_mono h (fun a s₁ h₁ => wpC_any ?_) fun _ _ x => x)
  intro Γ p hΓ
  simp only [Sem.wp_bind', Sem.wp_holding, Sem.wp_cmd_standAt, Sem.wp_operate]
  exact Sem.wp_mono M Γ _ (fun b _ s₂ h₂ => Sem.wp_mono M Γ _ (fun c p₃ s₃ h₃ => h₃ Γ p₃ hΓ) (fun _ _ _ h' => h') _ _ (h₂ Γ _ hΓ)) (fun _ _ _ h' => h') _ _ (h₁ Γ p hΓ)
theorem wpC_Return_some {e pos} {Q : Flow → Shared → Prop} (h : wpC M A (eval e env) (fun v => Q (.ret v)) E s) : wpC M A (exec (.Return (some e) pos) env) Q E s := by
  rw [exec_Return_some]
  exact wpC_step (wpAny_standAt (wpC_bind (wpC_mono h (fun v s' h' => wpC_pure h') fun _ _ x => x)))
theorem wpC_Assign_Name {x pos' value pos} {Q : Flow → Shared → Prop}
    (h : wpC M A (eval value env) (fun v s₁ => wpAny M A (storeName env x v) (fun _ => Q .next) E s₁) E s)
    (hs : swapsWith value (some (.Name x pos')) pos.line env = pure false := by rfl) : wpC M A (exec (.Assign [.Name x pos'] value pos) env) Q E s := by
  rw [exec_Assign_Name env x pos' value pos hs]
  refine wpC_step (wpAny_standAt (wpC_bind (wpC_mono h (fun v s' h' => wpC_any ?_) fun _ _ x => x)))
  intro Γ p hΓ
  simp only [Sem.wp_bind', Sem.wp_cmd_standAt, Sem.wp_bindName, Sem.wp_pure']
  exact h' Γ _ hΓ

theorem wpC_spliced1 {t : Sem Value} {Q : List Value → Shared → Prop} (h : wpC M A t (fun v s' => Q [v] s') E s) : wpC M A (spliced [(false, t)]) Q E s := by
  unfold spliced
  refine wpC_bind (wpC_mono h (fun v s₁ h₁ => ?_) fun _ _ x => x)
  simp only [Bool.false_eq_true, if_false]
  refine wpC_step (wpAny_pure (wpC_bind (wpC_holding ?_)))
  show wpC M A (pure []) _ _ _
  exact wpC_pure (wpC_pure h₁)
theorem wpC_spliced2 {t : Sem Value} {rest : List (Bool × Sem Value)} {Q : List Value → Shared → Prop} (h : wpC M A t (fun v s' => wpAny M A (spliced rest) (fun vs s'' => Q (v :: vs) s'') E s') E s) : wpC M A (spliced ((false, t) :: rest)) Q E s := by
  unfold spliced
  refine wpC_bind (wpC_mono h (fun v s₁ h₁ => ?_) fun _ _ x => x)
  simp only [Bool.false_eq_true, if_false]
  refine wpC_step (wpAny_pure (wpC_bind (wpC_holding (wpC_any (wpAny_mono h₁ (fun vs s₂ h₂ => wpC_pure h₂) fun _ _ x => x)))))
theorem evalArgsC_plain {f : Value} {x : Sem Value} {rest : List (Bool × Sem Value)} {Q : Args → Shared → Prop}
    (h : wpC M A (spliced ((false, x) :: rest)) (fun vs s' => Q ⟨vs, []⟩ s') E s) : wpC M A (evalArgs f true ((false, x) :: rest) []) Q E s := by
  unfold evalArgs
  show wpC M A (spliced ((false, x) :: rest) >>= _) Q E s
  refine wpC_bind (wpC_mono h (fun vs s' h' => ?_) fun _ _ x => x)
  exact wpC_holding (wpC_step (wpAny_pure (wpC_step (wpAny_pure (wpC_pure h')))))

theorem callWithC_of {pos : Pos} {f : Value} {first : List Value} {Q : Value → Shared → Prop} {P : Heap → Prop} {args : List (Bool × Sem Value)} {keywords : List (Option Str × Sem Value)} (hplain : (args.any (·.1) || keywords.any (·.1.isNone)) = false)
    (hk : ∀ h, P h → ∃ k, (k = Keeper.frame ∨ k = Keeper.machine ∨ k = Keeper.boundFrame) ∧ Looks M h (keeperOf f) k)
    (h : wpC M A (evalArgs f true args keywords) (fun a s₁ => P s₁.heap ∧ wpC M A (call f (first ++ a.pos) a.kw) Q E s₁) E s) : wpC M A (callWith pos f first args keywords) Q E s := by
  unfold callWith
  refine wpC_bind (wpC_holding (wpC_mono h (fun a s₁ h₁ => wpC_step (wpAny_standAt ?_)) fun _ _ x => x))
  obtain ⟨k, hk', L⟩ := hk _ h₁.1
  simp only [hplain]
  refine wpC_step (L.here ?_)
  have tail : ∀ {t : Sem Value}, wpC M A t Q E s₁ → wpC M A (t >>= fun r => holding [r] point >>= fun _ => pure r) Q E s₁ :=
    fun ht => wpC_bind (wpC_mono ht (fun r s₂ hr => wpC_any (wpAny_bind (wpAny_holding (wpAny_point (wpAny_pure hr))))) fun _ _ x => x)
  have marked (mk : Value) : wpC M A (callMarked mk f (first ++ a.pos) a.kw) Q E s₁ := by unfold callMarked; exact wpC_keep h₁.2
  rcases hk' with rfl | rfl | rfl <;> dsimp only <;> first | exact tail h₁.2 | (split <;> first | exact tail h₁.2 | exact tail (marked _))

def KeepsC (M : Model) (f : Value) (h : Heap) : Prop := ∃ k, (k = Keeper.frame ∨ k = Keeper.machine ∨ k = Keeper.boundFrame) ∧ Looks M h (keeperOf f) k
/-- a call of a function of the program: arguments evaluated in the clean logic -/
theorem evalC_call_K {x : Str} {npos pos : Pos} {a : Expr} {rest : List Expr} {f : Value} {Q : Value → Shared → Prop}
    (hf : wpAny M A (eval (.Name x npos) env) (fun v s₁ => v = f ∧
      wpC M A (spliced (backTo pos (starEach (a :: rest) env))) (fun vs s₂ => KeepsC M f s₂.heap ∧ wpC M A (call f vs) Q E s₂) E s₁) E s)
    (he : starEach (a :: rest) env = (false, eval a env) :: starEach rest env := by rfl) (hplain : (backTo pos (starEach rest env)).any (·.1) = false := by rfl) :
    wpC M A (eval (.Call (.Name x npos) (a :: rest) [] pos) env) Q E s := by
  show wpC M A (do callWith pos (← eval (.Name x npos) env) [] (backTo pos (starEach (a :: rest) env)) (backToKw pos (keywordEach [] env))) Q E s
  refine wpC_step (wpAny_mono hf (fun v s₁ h₁ => ?_) fun _ _ x => x)
  obtain ⟨rfl, h₁⟩ := h₁
  rw [he] at h₁ ⊢
  refine callWithC_of (P := fun h => KeepsC M v h) (by show ((false || (backTo pos (starEach rest env)).any (·.1)) || false) = false; rw [hplain]; rfl) (fun _ x => x) (evalArgsC_plain h₁)

theorem evalC_call_type {x : Str} {npos pos : Pos} {T : String} {a : Expr} {rest : List Expr} {Q : Value → Shared → Prop}
    (hf : wpAny M A (eval (.Name x npos) env) (fun v s₁ => v = .type T ∧ wpAny M A (spliced (backTo pos (starEach (a :: rest) env))) (fun vs s₂ => wpC M A (call (.type T) vs) Q E s₂) E s₁) E s)
    (he : starEach (a :: rest) env = (false, eval a env) :: starEach rest env := by rfl) (hplain : (backTo pos (starEach rest env)).any (·.1) = false := by rfl) :
    wpC M A (eval (.Call (.Name x npos) (a :: rest) [] pos) env) Q E s := by
  show wpC M A (do callWith pos (← eval (.Name x npos) env) [] (backTo pos (starEach (a :: rest) env)) (backToKw pos (keywordEach [] env))) Q E s
  refine wpC_step (wpAny_mono hf (fun v s₁ h₁ => ?_) fun _ _ x => x)
  obtain ⟨rfl, h₁⟩ := h₁
  rw [he] at h₁ ⊢
  show wpC M A (callWith pos (.type T) [] (backTo pos ((false, eval a env) :: starEach rest env)) []) Q E s₁
  have hplain' : (backTo pos ((false, eval a env) :: starEach rest env)).any (·.1) = false := by show (false || (backTo pos (starEach rest env)).any (·.1)) = false; rw [hplain]; rfl
  unfold callWith
  have h₃ : wpAny M A (evalArgs (.type T) true (backTo pos ((false, eval a env) :: starEach rest env)) []) (fun a s₂ => wpC M A (call (.type T) ([] ++ a.pos) a.kw) Q E s₂) E s₁ := Calls.evalArgs_plain h₁
  refine wpC_step (wpAny_holding (wpAny_mono h₃ (fun a s₂ h₂ => wpC_step (wpAny_standAt ?_)) fun _ _ x => x))
  simp only [hplain', List.any_nil, Bool.or_false]
  refine wpC_step (wpAny_pure ?_)
  exact wpC_bind (wpC_mono h₂ (fun r s₂ hr => wpC_any (wpAny_bind (wpAny_holding (wpAny_point (wpAny_pure hr))))) fun _ _ x => x)
theorem wpC_For {target iter body pos} {Q : Flow → Shared → Prop}
    (h : wpAny M A (eval iter env) (fun x s₁ => wpC M A (do runOwn (.forLoop target (← holding [x] (pyIter x)) body [] env) env) Q E s₁) E s)
    (hs : ∀ x, foldedSetIterable iter env x = pure x := by intro _; rfl) : wpC M A (exec (.For target iter body [] pos) env) Q E s := by
  rw [exec_For]
  exact wpC_step (wpAny_standAt (wpC_step (wpAny_mono h (fun x s₁ h₁ => wpC_step (wpAny_of_eq (hs x) (wpC_step (wpAny_standAt h₁)))) fun _ _ x => x)))
end

section
variable {prog : Program} {w : World} {A : Around} {E : Value → Shared → Prop} {s : Shared} {R : Result → Shared → Prop}

theorem codeC_func {body env}
    (h : wpC (model prog w) (A.deeper env) (execs body env) (fun f s' => R (.ok (.ret (match f with | .ret v => v | _ => .none))) s')
      (fun e s' => wpAny (model prog w) (A.deeper env) (leaving env e) (fun _ s'' => R (.error e) s'') (fun e' s'' => R (.error e') s'') s') s) :
    codeC (model prog w) A (.func body env) R s := by
  refine codeC_of_tree rfl ?_
  show wpC _ (A.deeper env) (do point; match ← (execs body env).onRaise (leaving env) with | .ret v => ret v | _ => ret .none) _ _ s
  refine wpC_step (wpAny_point (wpC_bind (wpC_onRaise (wpC_mono h (fun f s' h' => ?_) fun _ _ h' => wpC_any h'))))
  cases f <;> exact wpC_pure h'

theorem codeC_call_function {a : Addr} {args : Args} {o : Obj} {fd : FuncData} {body : List Stmt} (hroom : A.depth < recursionLimit)
    (ho : s.heap.get? a = some o)
    (hd' : o.data = .func fd) (hco : fd.scope.isCoroutine = false) (hgen : fd.scope.isGenerator = false) (hbody : fd.body = .stmts body) (hcd : s.heap.CodeRec fd.code fd.qualname)
    (h : wpAny (model prog w) A.in1 (bindArgs fd args) (fun binds s₁ =>
      wpAny (model prog w) A.in1 (newFunctionEnv fd.scope fd.globals fd.closure binds (fd.qualname ++ ".<locals>.") (some a) fd.code none fd.builtins)
        (fun env s₂ => s₂.heap.NoLimit ∧ codeC (model prog w) A (.func body env) R s₂) (fun e s' => R (.error e) s') s₁) (fun e s' => R (.error e) s') s) :
    codeC (model prog w) A (.call (.ref a) args) R s := by
  refine codeC_of_tree rfl ?_
  show wpC _ A.in1 (callAny (.ref a) args) _ _ s
  simp only [callAny]
  refine wpC_step (wpAny_load ho ?_)
  obtain ⟨c, oc, vs, tq, hc, hoc, hdc, hq⟩ := hcd
  simp only [hd', callFunction, hco, hgen, hbody, hc]
  rw [hc] at h
  refine wpC_step (m := field (.ref c) 1) (wpAny_field hoc hdc hq (wpC_step (wpAny_pure ?_)))
  exact wpC_step (wpAny_mono h (fun binds s₁ h₁ => wpC_step (wpAny_mono h₁ (fun env s₂ h₂ => wpC_step (wpAny_enterFrame h₂.1 hroom
    (wpC_pure (And.intro rfl h₂.2)))) fun _ _ h' => h')) fun _ _ h' => h')

theorem codeC_call_def {a : Addr} {o : Obj} {fd : FuncData} {body : List Stmt} {args : Args} {binds : List (Str × Value)}
    (hroom : A.depth < recursionLimit) (ho : s.heap.get? a = some o) (hdata : o.data = .func fd) (hlim : s.heap.NoLimit) (hcd : s.heap.CodeRec fd.code fd.qualname)
    (hbody : fd.body = .stmts body) (hbind : BindsTo s fd args binds)
    (hcell : ∀ x ∈ fd.scope.names, x.2 ≠ .cell) (hloc : ∀ x ∈ binds, fd.scope.names.lookup x.1 = some .local)
    (h : ∀ h₀, h₀.Ns s.heap.objs.size (fun x => binds.reverse.lookup x) → (∀ b o, s.heap.get? b = some o → h₀.get? b = some o) →
      wpC (model prog w) (A.deeper (callEnv fd s.heap.objs.size a)) (execs body (callEnv fd s.heap.objs.size a)) (fun f s' => R (.ok (.ret (match f with | .ret v => v | _ => .none))) s')
        (fun e s' => wpAny (model prog w) (A.deeper (callEnv fd s.heap.objs.size a)) (leaving (callEnv fd s.heap.objs.size a) e) (fun _ s'' => R (.error e) s'') (fun e' s'' => R (.error e') s'') s')
        { s with heap := h₀, toks := s.toks + binds.length })
    (hco : fd.scope.isCoroutine = false := by rfl) (hgen : fd.scope.isGenerator = false := by rfl) (hk : fd.scope.kind = .function := by rfl) :
    codeC (model prog w) A (.call (.ref a) args) R s := by
  refine codeC_call_function hroom ho hdata hco hgen hbody hcd (hbind _ _ _ _ ?_)
  refine wpAny_newFunctionEnv hcell hloc (fun h₀ hns₀ hsb₀ => ⟨hlim.fresh _ hsb₀, codeC_func (h h₀ hns₀ fun b o e => ?_)⟩) hk
  exact hsb₀.extBut b o (Nat.ne_of_lt (Heap.lt_size e)) (Heap.get?_push_of_some _ e)
end

section
variable {prog : Program} {w : World} {A₀ A : Around} {s : Shared} {base h₀ : Heap} {outer : List Env} {L : Addr} {m : Str → Option Value} {news : List (Addr × Obj)} {K : Frag}
  {p : Program} {loose : List Str} {mean : ExcName → Option Value} {mg mb : Str → Option Value}

theorem code_defC' {env : Env} {R : Result → Shared → Prop} {name qual : Str} {params : Arguments} {body : List Stmt} {scope : Scope} {dV kV doc pm cdv ct oc : Value} {an od : Option Addr} {osl : Array (Option Value)} {f : Addr} {args : Args} {binds : List (Str × Value)}
    (B : Below A₀ base outer h₀) (F : Fr h₀ L s.heap m) (X₀ : K.In h₀) (N : News h₀ L s.heap news) (T : Top p loose mean mg mb h₀) (hA : A.frames = some (env :: outer)) (hf : env.frame = some L) (hke : env.scope.kind = .function)
    (ho : K.lookup f = some ⟨oc, od, .func (fnOf name qual params body scope dV kV doc pm an cdv ct), osl⟩) (hcd : codeIn K cdv qual = true) (hroom : A.depth < recursionLimit)
    (hbind : BindsTo s (fnOf name qual params body scope dV kV doc pm an cdv ct) args binds) (hloc : ∀ y ∈ binds, scope.names.lookup y.1 = some .local)
    (h : ∀ g L' h₁, Fr h₀ L g m → Fr g L' h₁ (fun y => binds.reverse.lookup y) → News g L' h₁ news → Below A base (env :: outer) g → K.In g → Top p loose mean mg mb g →
      wpC (model prog w) (A.deeper (envOf qual scope L' f cdv)) (execs body (envOf qual scope L' f cdv))
        (fun fl s' => LeaveK h₀ L m g R (match fl with | .ret v => v | _ => .none) s')
        (fun e s' => wpAny (model prog w) (A.deeper (envOf qual scope L' f cdv)) (leaving (envOf qual scope L' f cdv) e) (fun _ s'' => R (.error e) s'') (fun e' s'' => R (.error e') s'') s')
        { s with heap := h₁, toks := s.toks + binds.length })
    (hco : scope.isCoroutine = false) (hgen : scope.isGenerator = false) (hk : scope.kind = .function)
    (hcell : ∀ x ∈ scope.names, x.2 ≠ .cell) : codeC (model prog w) A (.call (.ref f) args) R s := by
  obtain ⟨FG, BG, st, lv⟩ := groundX (R := R) B F N hA hf hke
  refine codeC_call_def (fd := fnOf name qual params body scope dV kV doc pm an cdv ct) (body := body) (binds := binds) hroom ((X₀.keeps F.keep) _ _ ho) rfl (T.nolimit.keeps F.keep) (codeRec_of (X₀.keeps F.keep) hcd) rfl hbind hcell hloc (fun h₁ hns hk₁ => ?_) hco hgen hk
  exact wpC_mono (h _ s.heap.objs.size h₁ FG ⟨hns, fun b o e => hk₁ b o (of_hideAll _ e), Nat.le_of_eq (hideAll_size _ _)⟩
    (fun p hp => ⟨hk₁ _ _ (N p hp).1, Nat.ne_of_lt (Heap.lt_size (N p hp).1), hideAll_none _ (List.mem_map_of_mem hp)⟩) BG (X₀.keeps st) (T.keeps st)) (fun fl s' hl => lv _ _ hl) fun _ _ y => y
end

section
variable {prog : Program} {w : World} {A : Around} {s : Shared} {env : Env} {h₀ : Heap} {x : Str}

def TurnC (h₀ : Heap) (L I : Addr) (io : Obj) (J : (Str → Option Value) → List (Addr × Obj) → Prop) (Q : Flow → Shared → Prop) (s₁ : Shared) (f : Flow) (s₂ : Shared) : Prop := match f with
  | .ret v => Q (.ret v) s₂
  | .brk => False
  | _ => ∃ h' tk m' news', s₂ = { s₁ with heap := h', toks := tk } ∧ Fr h₀ L h' m' ∧ News h₀ L h' (news' ++ [(I, io)]) ∧ (∀ p ∈ news', p.1 ≠ I) ∧ J m' news'

/-- `for x in range(n)`, n written out: turns in the clean logic, nothing raised -/
theorem codeC_forRange {R : Result → Shared → Prop} {body : List Stmt} {px : Pos} {I : Addr} {n : Nat} {m₀ : Str → Option Value} {news : List (Addr × Obj)} {Q : Flow → Shared → Prop} {hp₂ : Heap} {tk₂ : Nat}
    (a c : Int) (J : Nat → (Str → Option Value) → List (Addr × Obj) → Prop)
    (hx : env.kindOf x = some .local) (hp : (env.scope.kind == .class || (env.scope.kind == .module && env.locals != env.globals)) = false)
    (hh : A.handled = none) (hwr : h₀.get? I = none) (hLI : env.locals ≠ I)
    (step : ∀ i io t m₁ news₁ h tk, i < n → J i m₁ news₁ → (∀ p ∈ news₁, p.1 ≠ I) → Fr h₀ env.locals h (fun y => if y = x then some (.int (a + (i : Nat) * c) t) else m₁ y) → News h₀ env.locals h (news₁ ++ [(I, io)]) →
      wpC (model prog w) A (execs body env) (TurnC h₀ env.locals I io (J (i + 1)) Q { s with heap := h, toks := tk }) (fun _ _ => False) { s with heap := h, toks := tk })
    (done : ∀ m₁ news₁ h tk, J n m₁ news₁ → Fr h₀ env.locals h m₁ → News h₀ env.locals h news₁ → R (.ok .next) { s with heap := h, toks := tk }) (hret : ∀ v s', Q (.ret v) s' → R (.ok (.ret v)) s')
    (hst : IsRangeIter hp₂ I (a + (0 : Nat) * c) ((n : Int) - (0 : Nat)) c) (F0 : Fr h₀ env.locals hp₂ m₀) (N0 : News h₀ env.locals hp₂ news) (hoff : ∀ p ∈ news, p.1 ≠ I) (h0 : J 0 m₀ news) :
    codeC (model prog w) A (.forLoop (.Name x px) (.ref I) body [] env) R { s with heap := hp₂, toks := tk₂ } := by
  have W := Walks.range (prog := prog) (w := w) hh I a c n
  suffices H : ∀ k i h' tk m' news', k = n - i → i ≤ n → IsRangeIter h' I (a + (i : Nat) * c) ((n : Int) - (i : Nat)) c → Fr h₀ env.locals h' m' → News h₀ env.locals h' news' → (∀ p ∈ news', p.1 ≠ I) → J i m' news' →
      codeC (model prog w) A (.forLoop (.Name x px) (.ref I) body [] env) R { s with heap := h', toks := tk } from
    H n 0 hp₂ _ m₀ news rfl (Nat.zero_le _) hst F0 N0 hoff h0
  intro k
  induction k with
  | zero =>
    intro i h' tk m' news' hk hi hst' F' N' hoff' hJ
    obtain rfl : i = n := by omega
    refine codeC_of_tree rfl ?_
    show wpC _ A ((forTurn (.Name x px) (.ref I) body [] env).onRaise (fun x => do noteFrame x env; theTreesLotGoes x)) _ _ _
    refine wpC_onRaise ?_
    simp only [forTurn]
    refine wpC_step (wpAny_standAt (wpC_step (wpAny_onRaise (W.done _ _ _ hst' fun h₁ tk₁ hk₁ => wpC_pure ⟨rfl, codeC_any (codeAny_block (wpAny_execs_nil ?_))⟩))))
    have hk₁ : ∀ b o, b ≠ I → h'.get? b = some o → h₁.get? b = some o := fun b o hb e => hk₁ b o (by simpa using hb) e
    exact done m' news' h₁ tk₁ hJ ⟨F'.ns.at' fun o e => hk₁ _ o hLI e, fun b o e => hk₁ b o (fun q => by rw [q, hwr] at e; cases e) (F'.keep b o e), F'.above⟩ fun p hp => ⟨hk₁ _ _ (hoff' p hp) (N' p hp).1, (N' p hp).2⟩
  | succ k ih =>
    intro i h' tk m' news' hk hi hst' F' N' hoff' hJ
    refine codeC_of_tree rfl ?_
    show wpC _ A ((forTurn (.Name x px) (.ref I) body [] env).onRaise (fun x => do noteFrame x env; theTreesLotGoes x)) _ _ _
    refine wpC_onRaise ?_
    simp only [forTurn]
    refine wpC_step (wpAny_standAt (wpC_step (wpAny_onRaise (W.item i _ _ _ (by omega) hst' fun v h₁ tk₁ hP hst₁ hk₁ => ?_))))
    obtain ⟨t, rfl⟩ := hP
    have hk₁ : ∀ b o, b ≠ I → h'.get? b = some o → h₁.get? b = some o := fun b o hb e => hk₁ b o (by simpa using hb) e
    have F₁ : Fr h₀ env.locals h₁ m' := ⟨F'.ns.at' fun o e => hk₁ _ o hLI e, fun b o e => hk₁ b o (fun q => by rw [q, hwr] at e; cases e) (F'.keep b o e), F'.above⟩
    obtain ⟨io, hio⟩ : ∃ io, h₁.get? I = some io := ⟨_, hst₁⟩
    have N₁ : News h₀ env.locals h₁ (news' ++ [(I, io)]) := fun p hp => by
      rcases List.mem_append.mp hp with hp | hp
      · exact ⟨hk₁ _ _ (hoff' p hp) (N' p hp).1, (N' p hp).2⟩
      · rw [List.mem_singleton.mp hp]; exact ⟨hio, fun e => hLI e.symm, hwr⟩
    have hst₁' : ∀ h : Heap, h.get? I = some io → IsRangeIter h I (a + ((i + 1 : Nat) : Int) * c) ((n : Int) - ((i + 1 : Nat) : Int)) c := fun h e => by
      show h.get? I = _
      rw [e, ← hio]; exact hst₁
    refine wpC_step (wpAny_of_eq (a := ()) rfl ?_)
    refine wpC_step (wpAny_assign_Name (wpAny_storeName_local hx F₁.ns (fun h₂ hn₂ hs₂ => ?_) hp))
    have F₂ := F₁.set hn₂ hs₂
    have N₂ := N₁.set hs₂
    have hS := step i io t m' news' h₂ (tk₁ + 1) (by omega) hJ hoff' F₂ N₂
    refine wpC_bind (wpC_mono (Q := TurnC h₀ env.locals I io (J (i + 1)) Q { s with heap := h₂, toks := tk₁ + 1 }) (E := fun _ _ => False) hS (fun f s₃ h₃ => ?_) fun _ _ h => False.elim h)
    cases f with
    | ret v => exact wpC_pure (hret _ _ h₃)
    | brk => exact False.elim h₃
    | next =>
      obtain ⟨h₄, tk₄, m₄, news₄, rfl, F₄, N₄, hoff₄, hJ₄⟩ := h₃
      exact wpC_pure ⟨rfl, ih (i + 1) h₄ tk₄ m₄ news₄ (by omega) (by omega) (hst₁' _ (N₄ (I, io) (by simp)).1) F₄ (fun p hp => N₄ p (List.mem_append_left _ hp)) hoff₄ hJ₄⟩
    | cont =>
      obtain ⟨h₄, tk₄, m₄, news₄, rfl, F₄, N₄, hoff₄, hJ₄⟩ := h₃
      exact wpC_pure ⟨rfl, ih (i + 1) h₄ tk₄ m₄ news₄ (by omega) (by omega) (hst₁' _ (N₄ (I, io) (by simp)).1) F₄ (fun p hp => N₄ p (List.mem_append_left _ hp)) hoff₄ hJ₄⟩

theorem wpC_forRange {body : List Stmt} {px : Pos} {r : Addr} {b₀ : Int} {t₀ u₀ v₀ : Tok} {n : Nat} {m₀ : Str → Option Value} {news : List (Addr × Obj)} {Q : Flow → Shared → Prop} {E : Value → Shared → Prop}
    (a c : Int) (J : Nat → (Str → Option Value) → List (Addr × Obj) → Prop)
    (hx : env.kindOf x = some .local) (hp : (env.scope.kind == .class || (env.scope.kind == .module && env.locals != env.globals)) = false)
    (hh : A.handled = none) (hr : IsRange s.heap r a b₀ c t₀ u₀ v₀) (hsmall : Builtin.Range.small a b₀ c = true) (hn : Builtin.Range.rangeSize a b₀ c = (n : Int)) (F : Fr h₀ env.locals s.heap m₀) (N : News h₀ env.locals s.heap news) (h0 : J 0 m₀ news)
    (step : ∀ i I io t m₁ news₁ h tk, i < n → J i m₁ news₁ → (∀ p ∈ news₁, p.1 ≠ I) → Fr h₀ env.locals h (fun y => if y = x then some (.int (a + (i : Nat) * c) t) else m₁ y) → News h₀ env.locals h (news₁ ++ [(I, io)]) →
      wpC (model prog w) A (execs body env) (TurnC h₀ env.locals I io (J (i + 1)) Q { s with heap := h, toks := tk }) (fun _ _ => False) { s with heap := h, toks := tk })
    (done : ∀ m₁ news₁ h tk, J n m₁ news₁ → Fr h₀ env.locals h m₁ → News h₀ env.locals h news₁ → Q .next { s with heap := h, toks := tk }) :
    wpC (model prog w) A (do runOwn (.forLoop (.Name x px) (← holding [.ref r] (pyIter (.ref r))) body [] env) env) Q E s := by
  refine wpC_step (wpAny_holding (wpAny_pyIter_range hr hsmall ?_))
  have hLI : env.locals ≠ s.heap.objs.size := fun e => absurd F.ns.lt (by rw [e]; exact Nat.lt_irrefl _)
  unfold runOwn
  refine wpC_onRaise (wpC_run ?_ (by intro x; cases x))
  refine codeC_forRange (A := A) (Q := Q) (s := s) a c J hx hp hh (next_is_new F) hLI (fun i io t m₁ news₁ h tk x1 x2 x3 x4 x5 => step i _ io t m₁ news₁ h tk x1 x2 x3 x4 x5) done (fun v s' x => x) ?_ (F.push _) (fun p hp => ⟨Heap.get?_push_of_some _ (N p hp).1, (N p hp).2⟩)
    (fun p hp e => absurd (Heap.lt_size (N p hp).1) (by rw [e]; exact Nat.lt_irrefl _)) h0
  show IsRangeIter _ _ _ _ _
  rw [hn]; simpa using Heap.get?_push_size _ rfl
end
end Mine

namespace Mine
open PySem.Calls
local macro_rules | `(tactic| walk_at "mine enter") => `(tactic| (refine' code_defC' ?k1 ?k2 ?k3 ?k4 ?k5 ?kA ?kF ?kK ?k6 ?k7 ?k8 ?k9 ?kB ?_ ?c2 ?c3 ?c4 ?c5; (case kA => exact rfl); (case kF => exact rfl); (case kK => assumption); (case k1 => k_asm); (case k2 => k_asm); (case k3 => k_asm); (case k4 => k_asm); (case k5 => k_asm); (case k6 => k_is); (case k7 => k_is); (case k8 => ktr_room); (case k9 => exact BindsTo.of_eq rfl); (case c5 => decide); (case kB => exact locs rfl); (case c2 => exact rfl); (case c3 => exact rfl); (case c4 => exact rfl); k_whole; intro g' L' h' FG' F' N' B' X' T'; (try dsimp only); (try k_lift B'); (try k_fold)))


def oct (n : Int) (j : Nat) : UInt8 := ((n / 256 ^ (7 - j)) % 256).toNat.toUInt8
def upto (n : Int) (i : Nat) : Array UInt8 := ((List.range 8).map fun j => if 8 ≤ j + i then oct n j else 0).toArray
theorem upto_zero (n : Int) : upto n 0 = Array.replicate 8 0 := rfl
theorem upto_succ (n : Int) (i : Nat) (h : i < 8) (x : Int) (hx : x = n / 256 ^ i) : upto n (i + 1) = (upto n i).setIfInBounds (7 - i) (x % 256).toNat.toUInt8 := by
  subst hx
  match i, h with
  | 0, _ => rfl
  | 1, _ => rfl
  | 2, _ => rfl
  | 3, _ => rfl
  | 4, _ => rfl
  | 5, _ => rfl
  | 6, _ => rfl
  | 7, _ => rfl
theorem upto_size (n : Int) (i : Nat) : (upto n i).size = 8 := by simp [upto]
theorem div_step (n : Int) (i : Nat) : n / 256 ^ i / 256 = n / 256 ^ (i + 1) := by
  rw [Int.pow_succ, Int.ediv_ediv_of_nonneg (Int.le_of_lt (Int.pow_pos (by decide)))]

theorem ba_setItemK {prog : Program} {w : World} {A : Around} {E : Value → Shared → Prop} {s : Shared} {h₀ : Heap} {L b : Addr} {m : Str → Option Value} {rest : List (Addr × Obj)} {bs : Array UInt8} {k x : Int} {u v : Tok} {Q : Unit → Shared → Prop}
    (F : Fr h₀ L s.heap m) (N : News h₀ L s.heap ((b, { cls := .type "bytearray", data := .bytearray bs }) :: rest)) (hap : ∀ p ∈ rest, p.1 ≠ b) (h0 : 0 ≤ k) (h1 : k < bs.size) (hz : bs.size ≤ 1000) (x0 : 0 ≤ x) (x1 : x < 256)
    (h : ∀ h', Fr h₀ L h' m → News h₀ L h' ((b, { cls := .type "bytearray", data := .bytearray (bs.setIfInBounds k.toNat x.toNat.toUInt8) }) :: rest) → Q () { s with heap := h' }) :
    wpAny (model prog w) A (setItem (.ref b) (.int k u) (.int x v)) Q E s :=
  ba_setItem (N _ List.mem_cons_self).1 h0 h1 hz x0 x1 fun h' hs ho => h h' (F.update N List.mem_cons_self hs) (N.setHead hap hs ho)

local macro_rules | `(tactic| walk_at "eval Name") => `(tactic| (k_here; k_dflt (refine' ld ?k1 ?k2 ?_; (case k1 => k_asm); (case k2 => first | rfl | assumption | (with_unfolding_all assumption)); k_whole)))
theorem put_whole_call : ∀ (w : World) (loose : List Str) (mean : ExcName → Option Value) (mg mb : Str → Option Value) (dp un : Nat) (gd : Option (List Code)) (cn : Str) (cs : Scope) (a : Addr) (ccd : Value) (outer : List Env) (A₀ : Around) (base h₀ : Heap) (L : Addr) (m : Str → Option Value) (s : Shared) (Q E : Value → Shared → Prop)
    (rest : List (Addr × Obj)) (n : Int) (tn ts : Tok),
    Below A₀ base outer h₀ → Fr h₀ L s.heap m → (hd.heap_39 w.params).In h₀ → News h₀ L s.heap rest →
    Top hd.view_39 loose mean mg mb h₀ → cs.kind = .function → 0 ≤ n → n < 18446744073709551616 → dp + 1 < recursionLimit → un + 8 < cLine →
    (∀ t h' tk', Fr h₀ L h' m → News h₀ L h' rest → Q (.bytes (upto n 8) t) { s with heap := h', toks := tk' }) →
    wpC (model PySem.Challenge.rw_pf0248_01.row.prog w) (ktrTop dp un gd cn cs L a ccd [] outer) (PySem.call (.ref 62) [.int n tn, .int 8 ts]) Q E s := by
  k_fill
  w_top off
  intro w loose mean mg mb dp un gd cn cs a ccd outer A₀ base h₀ L m s Q E rest n tn ts B F X N T hk hn0 hn1 hd hu ret
  refine wpC_call ?_
  k_dflt (walk_at "mine enter")
  rename_i g₁ L₁ hp₁ FG₁ F₁ N₁ B₁ X₁ T₁
  have hz : n.fdiv (2 ^ (8 * 8 : Int).toNat) = 0 := by
    rw [Int.fdiv_eq_ediv_of_nonneg _ (by decide)]
    exact Int.ediv_eq_zero_of_lt hn0 (by simpa using hn1)
  refine wpC_execs_cons (wpC_any ?_)
  k_steps
  all_goals (try (exact absurd hz (by assumption)))
  show wpC _ _ _ _ _ _
  refine wpC_execs_cons (wpC_Assign_Name (evalC_call_type (T := "bytearray") ?_))
  k_steps
  refine ba_make fun h₁ hs₁ ho₁ => ?_
  (rename Fr g₁ L₁ _ _ => F₁)
  (rename News g₁ L₁ _ _ => N₁)
  have F₂ := F₁.filled hs₁
  have N₂ := N₁.filled F₁ hs₁ ho₁
  have hap : ∀ p ∈ rest, p.1 ≠ hp₁.objs.size := fun p hp => Nat.ne_of_lt (Heap.lt_size (N₁ p hp).1)
  try dsimp only at N₂
  rw [← upto_zero n] at N₂
  generalize hp₁.objs.size = b at N₂ hap ⊢
  clear N₁ F₁ hs₁ ho₁
  k_steps
  show wpC _ _ _ _ _ _
  refine wpC_execs_cons (wpC_For ?_)
  k_steps
  (rename Fr g₁ L₁ _ _ => F₃)
  (rename News g₁ L₁ _ _ => N₃)
  (rename IsRange _ _ _ _ _ _ _ _ => R₃)
  refine wpC_forRange (n := 8) (h₀ := g₁) (news := (b, { cls := .type "bytearray", data := .bytearray (upto n 0) }) :: rest) 7 (-1) (fun i m₁ news₁ => i ≤ 8 ∧ (∃ t, m₁ "n" = some (.int (n / 256 ^ i) t)) ∧ m₁ "found" = some (.ref b) ∧ news₁ = (b, { cls := .type "bytearray", data := .bytearray (upto n i) }) :: rest)
    (by rfl) (by rfl) (by rfl) R₃ (by decide) (by decide) F₃ N₃ (by refine ⟨by decide, ⟨tn, ?_⟩, rfl, rfl⟩; simp; rfl) ?_ ?_
  · intro i I io t m₁ news₁ h tk hi hJ hoff F' N'
    obtain ⟨_, ⟨tn', hn'⟩, hf', rfl⟩ := hJ
    have N' : News g₁ L₁ h ((b, { cls := .type "bytearray", data := .bytearray (upto n i) }) :: (rest ++ [(I, io)])) := N'
    have hap' : ∀ p ∈ rest ++ [(I, io)], p.1 ≠ b := fun p hp => by
      rcases List.mem_append.mp hp with hp | hp
      · exact hap p hp
      · rw [List.mem_singleton.mp hp]; exact fun e => hoff _ List.mem_cons_self e.symm
    clear F₃ N₃
    refine wpC_any ?_
    k_steps
    have hnn : 0 ≤ n / 256 ^ i := Int.ediv_nonneg hn0 (Int.le_of_lt (Int.pow_pos (by decide)))
    refine ba_setItemK (by k_asm) (by k_asm) hap' (by omega) (by rw [upto_size]; omega) (by rw [upto_size]; omega) ?_ ?_ (fun h₄ F₄ N₄ => ?_)
    · rw [Int.fmod_eq_emod_of_nonneg _ (by decide)]; exact Int.emod_nonneg _ (by decide)
    · rw [Int.fmod_eq_emod_of_nonneg _ (by decide)]; exact Int.emod_lt_of_pos _ (by decide)
    rw [Int.fmod_eq_emod_of_nonneg _ (by decide), show (7 + (i : Int) * -1).toNat = 7 - i by omega, ← upto_succ n i hi _ rfl] at N₄
    k_steps
    rename Fr g₁ L₁ _ _ => F₅
    rename News g₁ L₁ _ _ => N₅
    refine ⟨_, _, _, (b, { cls := .type "bytearray", data := .bytearray (upto n (i + 1)) }) :: rest, rfl, F₅, N₅, ?_, by omega, ?_, ?_, rfl⟩
    · intro p hp
      rcases List.mem_cons.mp hp with rfl | hp
      · exact hoff (b, { cls := .type "bytearray", data := .bytearray (upto n i) }) List.mem_cons_self
      · exact hoff p (List.mem_cons_of_mem _ hp)
    · rw [← div_step, ← Int.fdiv_eq_ediv_of_nonneg (n / 256 ^ i) (show (0 : Int) ≤ 256 by decide)]; exact ⟨_, rfl⟩
    · exact hf'
  · intro m₁ news₁ h tk hJ F' N'
    obtain ⟨_, _, hf', rfl⟩ := hJ
    show wpC _ _ _ _ _ _
    refine wpC_any ?_
    clear F₃ N₃
    k_steps
    refine bytes_of (N' _ List.mem_cons_self).1 (by rw [upto_size]; omega) ?_
    k_steps
    rename News h₀ L _ _ => N₆
    exact ret _ _ _ (by k_asm) fun p hp => N₆ p (List.mem_cons_of_mem _ hp)
end Mine

namespace Mine
open PySem.Calls
theorem varint_size_call : ∀ (w : World) (loose : List Str) (mean : ExcName → Option Value) (mg mb : Str → Option Value) (dp un : Nat) (gd : Option (List Code)) (cn : Str) (cs : Scope) (a : Addr) (ccd : Value) (outer : List Env) (A₀ : Around) (base h₀ : Heap) (L : Addr) (m : Str → Option Value) (s : Shared) (Q E : Value → Shared → Prop)
    (rest : List (Addr × Obj)) (n : Int) (tn : Tok),
    Below A₀ base outer h₀ → Fr h₀ L s.heap m → (hd.heap_39 w.params).In h₀ → News h₀ L s.heap rest →
    Top hd.view_39 loose mean mg mb h₀ → cs.kind = .function → 0 ≤ n → n < 4611686018427387904 → dp + 1 < recursionLimit → un + 8 < cLine →
    (∀ r t h' tk', 1 ≤ r → r ≤ 8 → Fr h₀ L h' m → News h₀ L h' rest → Q (.int r t) { s with heap := h', toks := tk' }) →
    wpAny (model PySem.Challenge.rw_pf0248_01.row.prog w) (ktrTop dp un gd cn cs L a ccd [] outer) (PySem.call (.ref 76) [.int n tn]) Q E s := by
  k_fill
  w_top off
  intro w loose mean mg mb dp un gd cn cs a ccd outer A₀ base h₀ L m s Q E rest n tn B F X N T hk hn0 hn1 hd hu ret
  refine wpAny_call ?_
  k_dflt cell_enter
  rename_i g₁ L₁ hp₁ FG₁ F₁ N₁ B₁ X₁ T₁
  have hx55 := X₁ 55 _ (by k_is)
  have ht55 : IsTup g₁ 55 _ := ⟨_, hx55, rfl, _, rfl⟩
  clear hx55
  have hz : n < 1 * 2 ^ (8 * 8 - 2 : Int).toNat := by simpa using hn1
  k_steps
  all_goals first
    | exact absurd hz (by assumption)
    | ((rename News h₀ L _ _ => Nz); exact ret _ _ _ _ (by decide) (by decide) (by k_asm) (fun p hp => Nz p (List.mem_append_right _ hp)))
end Mine

namespace Mine
theorem index8 {prog : Program} {w : World} {A : Around} {E : Value → Shared → Prop} {s : Shared} {b : Addr} {t t1 t2 t3 t4 : Tok} {Q : Value → Shared → Prop} (ht : IsTup s.heap b #[.int 1 t1, .int 2 t2, .int 4 t3, .int 8 t4])
    (h : Q (.int 3 s.toks) { s with toks := s.toks + 1 }) : wpAny (model prog w) A (PySem.call (.builtin "tuple.index") [.ref b, .int 8 t]) Q E s := by
  obtain ⟨⟨cls, dd, data, sl⟩, ho, hc, n, hd⟩ := ht
  simp only at hc hd
  subst hc hd
  have hT : s.TypeIs (.ref b) "tuple" := ⟨_, ho, rfl⟩
  refine wpAny_call_entry PySem.F.slot_tuple_index hT PySem.F.entry_tuple_index ?_ (PySem.F.args_tuple_index_2 _ _)
  unfold Builtin.«tuple.index»
  simp only [Std.Legacy.Range.forIn_eq_forIn_range']
  refine wpAny_bind (wpAny_of_eq (a := (.ref b, [.int 8 t])) rfl ?_)
  dsimp only
  refine wpAny_bind (wpAny_mono (Q := fun xs s' => xs = #[Value.int 1 t1, Value.int 2 t2, Value.int 4 t3, Value.int 8 t4] ∧ s' = s) (E := fun _ _ => False) ?_ (fun xs s' h' => ?_) fun _ _ x => False.elim x)
  · unfold Builtin.Tuple.tupleItemsOf
    wp_walk using wpAny_loadPart' ho
    exact ⟨rfl, rfl⟩
  obtain ⟨rfl, rfl⟩ := h'
  refine wpAny_bind (wpAny_pure (wpAny_bind (wpAny_pure ?_)))
  have hr : List.range' 0 [:min (#[Value.int 1 t1, Value.int 2 t2, Value.int 4 t3, Value.int 8 t4] : Array Value).size (#[Value.int 1 t1, Value.int 2 t2, Value.int 4 t3, Value.int 8 t4] : Array Value).size].size 1 = [0, 1, 2, 3] := by simp [Std.Legacy.Range.size, List.range']
  simp only [hr, List.forIn_cons]
  refine wpAny_bind ?_
  show wpAny _ _ ((eqBool (.int 1 t1) (.int 8 t) >>= _) >>= _) _ _ _
  refine wpAny_bind (wpAny_bind (wpAny_eqBool_int ?_))
  rw [if_neg (by decide)]
  refine wpAny_pure ?_
  show wpAny _ _ ((eqBool (.int 2 t2) (.int 8 t) >>= _) >>= _) _ _ _
  refine wpAny_bind (wpAny_bind (wpAny_eqBool_int ?_))
  rw [if_neg (by decide)]
  refine wpAny_pure ?_
  show wpAny _ _ ((eqBool (.int 4 t3) (.int 8 t) >>= _) >>= _) _ _ _
  refine wpAny_bind (wpAny_bind (wpAny_eqBool_int ?_))
  rw [if_neg (by decide)]
  refine wpAny_pure ?_
  show wpAny _ _ ((eqBool (.int 8 t4) (.int 8 t) >>= _) >>= _) _ _ _
  refine wpAny_bind (wpAny_bind (wpAny_eqBool_int ?_))
  rw [if_pos (by decide)]
  wp_walk
  exact ⟨_, rfl, h⟩
theorem tup_index_method {prog : Program} {w : World} {A : Around} {E : Value → Shared → Prop} {s : Shared} {b : Addr} {o : Obj} {pl : Sem Bool} {Q : Value × List Value → Shared → Prop} (ho : s.heap.get? b = some o) (hc : o.cls = .type "tuple") (hd : o.dict = none)
    (h : Q (.builtin "tuple.index", [.ref b]) s) : wpAny (model prog w) A (getMethod (.ref b) "index" pl) Q E s :=
  getMethod_builtin ⟨o, ho, hc⟩ PySem.F.plainAttrs_tuple PySem.F.slot_tuple_index PySem.F.type_tuple_index (fun a e => by cases e; exact ⟨o, ho, hd⟩) h
end Mine

namespace Mine
open PySem.Calls
local macro_rules | `(tactic| walk_at "mine enter") => `(tactic| (refine' code_defC' ?k1 ?k2 ?k3 ?k4 ?k5 ?kA ?kF ?kK ?k6 ?k7 ?k8 ?k9 ?kB ?_ ?c2 ?c3 ?c4 ?c5; (case kA => exact rfl); (case kF => exact rfl); (case kK => assumption); (case k1 => k_asm); (case k2 => k_asm); (case k3 => k_asm); (case k4 => k_asm); (case k5 => k_asm); (case k6 => k_is); (case k7 => k_is); (case k8 => ktr_room); (case k9 => exact BindsTo.of_eq rfl); (case c5 => decide); (case kB => exact locs rfl); (case c2 => exact rfl); (case c3 => exact rfl); (case c4 => exact rfl); k_whole; intro g' L' h' FG' F' N' B' X' T'; (try dsimp only); (try k_lift B'); (try k_fold)))
local macro_rules | `(tactic| walk_at "call ref") => `(tactic| (k_here; (with_reducible show wpAny _ _ (call (Value.ref 76) [Value.int _ _]) _ _ _); k_dflt (refine' varint_size_call _ _ _ _ _ _ _ _ _ _ _ _ _ _ _ _ _ _ _ _ _ _ _ _ ?kB ?kF ?kX ?kN ?kT ?kk ?k0 ?k1 ?kd ?ku ?_; (case kB => k_asm); (case kF => k_asm); (case kX => k_asm); (case kN => k_asm); (case kT => k_asm); (case kk => rfl); (case k0 => assumption); (case k1 => assumption); (case kd => ktr_room); (case ku => ktr_units); k_whole; intro r' t' h' tk' hr0' hr1' F' N'; (try dsimp only))))

local macro_rules | `(tactic| walk_at "getMethod ref") => `(tactic| (k_here; (with_reducible show wpAny _ _ (getMethod (Value.ref 55) _ _) _ _ _); k_dflt (refine' tup_index_method ?ho rfl rfl ?_; (case ho => exact Fr.keep (by k_asm) _ _ (by assumption)))))
local macro_rules | `(tactic| walk_at "call builtin:tuple.index") => `(tactic| (k_here; k_dflt (refine' index8 ?ht ?_; (case ht => exact IsTup.keeps (by assumption) (Fr.keep (by k_asm))))))

theorem or62 {n : Int} (h0 : 0 ≤ n) (h1 : n < 4611686018427387904) : Builtin.bitOr (3 * 2 ^ (8 * 8 - 2 : Int).toNat) n = 13835058055282163712 + n := by
  have e : (3 * 2 ^ (8 * 8 - 2 : Int).toNat : Int) = ((3 * 2 ^ 62 : Nat) : Int) := by decide
  rw [e, bitOr_and, bitAnd_pp (by omega) h0]
  have hz : (((3 * 2 ^ 62 : Nat) : Int).toNat &&& n.toNat) = 0 := by
    apply Nat.eq_of_testBit_eq
    intro j
    rw [Nat.testBit_and, Int.toNat_natCast, Nat.testBit_mul_two_pow, Nat.zero_testBit]
    by_cases hj : 62 ≤ j
    · have : n.toNat.testBit j = false := Nat.testBit_lt_two_pow (Nat.lt_of_lt_of_le (by omega : n.toNat < 2 ^ 62) (Nat.pow_le_pow_right (by decide) hj))
      rw [this, Bool.and_false]
    · simp [hj]
  rw [hz]
  omega
theorem and62 {x : Int} (h0 : 0 ≤ x) : Builtin.bitAnd x 4611686018427387903 = x % 4611686018427387904 := by
  rw [bitAnd_pp h0 (by decide), show (4611686018427387903 : Int).toNat = 2 ^ 62 - 1 by decide, Nat.and_two_pow_sub_one_eq_mod]
  omega

theorem put_varint_call : ∀ (w : World) (loose : List Str) (mean : ExcName → Option Value) (mg mb : Str → Option Value) (dp un : Nat) (gd : Option (List Code)) (cn : Str) (cs : Scope) (a : Addr) (ccd : Value) (outer : List Env) (A₀ : Around) (base h₀ : Heap) (L : Addr) (m : Str → Option Value) (s : Shared) (Q E : Value → Shared → Prop)
    (rest : List (Addr × Obj)) (n : Int) (tn ts : Tok),
    Below A₀ base outer h₀ → Fr h₀ L s.heap m → (hd.heap_39 w.params).In h₀ → News h₀ L s.heap rest →
    Top hd.view_39 loose mean mg mb h₀ → cs.kind = .function → 0 ≤ n → n < 4611686018427387904 → dp + 2 < recursionLimit → un + 24 < cLine →
    (∀ t h' tk', Fr h₀ L h' m → News h₀ L h' rest → Q (.bytes (upto (13835058055282163712 + n) 8) t) { s with heap := h', toks := tk' }) →
    wpC (model PySem.Challenge.rw_pf0248_01.row.prog w) (ktrTop dp un gd cn cs L a ccd [] outer) (PySem.call (.ref 83) [.int n tn, .int 8 ts]) Q E s := by
  k_fill
  w_top off
  intro w loose mean mg mb dp un gd cn cs a ccd outer A₀ base h₀ L m s Q E rest n tn ts B F X N T hk hn0 hn1 hdp hu ret
  refine wpC_call ?_
  k_dflt (walk_at "mine enter")
  rename_i g₁ L₁ hp₁ FG₁ F₁ N₁ B₁ X₁ T₁
  have hx55 := X₁ 55 _ (by k_is)
  have ht55 : IsTup g₁ 55 _ := ⟨_, hx55, rfl, _, rfl⟩
  refine wpC_execs_cons (wpC_any ?_)
  k_steps
  show wpC _ _ _ _ _ _
  refine wpC_execs_cons (wpC_any ?_)
  k_steps
  show wpC _ _ _ _ _ _
  refine wpC_execs_cons (wpC_any ?_)
  k_steps
  show wpC _ _ _ _ _ _
  refine wpC_execs_cons (wpC_Return_some (evalC_call_K (f := .ref 62) ?_))
  k_steps
  refine wpC_any ?_
  k_steps
  rename Fr g₁ L₁ _ _ => F₃
  have hx55' := F₃.keep 55 _ hx55
  refine tup_index_method hx55' rfl rfl ?_
  k_steps
  · exact keeps_K (K := hd.heap_39 w.params) (by k_is) _ (X₁.keeps F₃.keep)
  · rename News g₁ L₁ _ _ => N₃
    rw [or62 hn0 hn1]
    k_dflt (refine' put_whole_call _ _ _ _ _ _ _ _ _ _ _ _ _ _ _ _ _ _ _ _ _ _ _ _ _ ?kB ?kF ?kX ?kN ?kT ?kk ?k0 ?k1 ?kd ?ku ?_; (case kB => k_asm); (case kF => exact F₃); (case kX => k_asm); (case kN => exact N₃); (case kT => k_asm); (case kk => rfl); (case k0 => omega); (case k1 => omega); (case kd => ktr_room); (case ku => ktr_units); k_whole)
    intro t' h' tk' F' N'
    clear F₃ N₃
    k_steps
    exact ret _ _ _ (by k_asm) (by k_asm)
end Mine

namespace Mine
open PySem.Calls
local macro_rules | `(tactic| walk_at "exec For Name Subscript cons nil") => `(tactic| (k_here; (rename Fr _ _ _ _ => lF'); (with_unfolding_all refine' For_invVF lF' ?k1 ?k2 ?_; (case k1 => exact rfl); (case k2 => exact rfl); k_whole)))
local macro_rules | `(tactic| walk_at "pyIter bytes") => `(tactic| ((with_reducible show wpAny _ _ (pyIter (Value.bytes _ _)) (fun it s₂ => LoopAtV _ _ _ _ _ _ _ _ _ it s₂) _ _); (rename Fr _ _ _ _ => lF'); (rename News _ _ _ _ => lN'); (with_unfolding_all refine' KBw.iterBytes_acc1 (y := Str.ofString "found") (fun a k => a * 256 + k) (by kba_ints) (by rfl) lF' lN' (by rfl) (fun k' t' a' ta' h' tk' own' hmem' h0' h1' hoff' F' N' => ?_) (fun u' t' h' tk' F' N' => ?_)); (all_goals clear lF' lN'); walk_say "FOLDED by hand"))

theorem get_whole_call : ∀ (w : World) (loose : List Str) (mean : ExcName → Option Value) (mg mb : Str → Option Value) (dp un : Nat) (gd : Option (List Code)) (cn : Str) (cs : Scope) (a : Addr) (ccd : Value) (outer : List Env) (A₀ : Around) (base h₀ : Heap) (L : Addr) (m : Str → Option Value) (s : Shared) (Q E : Value → Shared → Prop)
    (rest : List (Addr × Obj)) (bs : Array UInt8) (ks : List Int) (tn ta ts : Tok),
    Below A₀ base outer h₀ → Fr h₀ L s.heap m → (hd.heap_39 w.params).In h₀ → News h₀ L s.heap rest →
    Top hd.view_39 loose mean mg mb h₀ → cs.kind = .function → KBw.bInts bs = ks → ks.length = 8 → dp + 1 < recursionLimit → un + 8 < cLine →
    (∀ t h' tk', Fr h₀ L h' m → News h₀ L h' rest → Q (.int (ks.foldl (fun a k => a * 256 + k) 0) t) { s with heap := h', toks := tk' }) →
    wpAny (model PySem.Challenge.rw_pf0248_01.row.prog w) (ktrTop dp un gd cn cs L a ccd [] outer) (PySem.call (.ref 69) [.bytes bs tn, .int 0 ta, .int 8 ts]) Q E s := by
  k_fill
  w_top off
  intro w loose mean mg mb dp un gd cn cs a ccd outer A₀ base h₀ L m s Q E rest bs ks tn ta ts B F X N T hk hbs hsz hdp hu ret
  refine wpAny_call ?_
  k_dflt cell_enter
  k_steps
  · rename Fr _ _ _ _ => F₇
    rename News _ _ _ _ => N₇
    exact ⟨_, _, _, _, rest, rfl, F₇, N₇, fun p hp => List.mem_append_left _ hp, fun p hp => List.mem_append_right _ hp, rfl, rfl, ⟨_, rfl⟩, fun z h1 h2 => by simp only [if_neg h1, if_neg h2]⟩
  · have e : List.take (clipAt ks.length (0 + 8) - clipAt ks.length 0) (List.drop (clipAt ks.length 0) ks) = ks := by
      rw [hsz]
      show List.take 8 (List.drop 0 ks) = ks
      rw [List.drop_zero, List.take_of_length_le (by omega)]
    rw [e]
    exact ret _ _ _ (by k_asm) (by k_asm)
end Mine

namespace Mine
open PySem.Calls
local macro_rules | `(tactic| walk_at "call ref") => `(tactic| (k_here; (with_reducible show wpAny _ _ (call (Value.ref 69) [Value.bytes _ _, Value.int 0 _, Value.int 8 _]) _ _ _); k_dflt (refine' get_whole_call _ _ _ _ _ _ _ _ _ _ _ _ _ _ _ _ _ _ _ _ _ _ _ _ _ _ _ ?kB ?kF ?kX ?kN ?kT ?kk ?k0 ?k1 ?kd ?ku ?_; (case kB => k_asm); (case kF => k_asm); (case kX => k_asm); (case kN => k_asm); (case kT => k_asm); (case kk => rfl); (case k0 => assumption); (case k1 => assumption); (case kd => ktr_room); (case ku => ktr_units); k_whole); intro t' h' tk' F' N'; (try dsimp only)))

theorem get_varint_call : ∀ (w : World) (loose : List Str) (mean : ExcName → Option Value) (mg mb : Str → Option Value) (dp un : Nat) (gd : Option (List Code)) (cn : Str) (cs : Scope) (a : Addr) (ccd : Value) (outer : List Env) (A₀ : Around) (base h₀ : Heap) (L : Addr) (m : Str → Option Value) (s : Shared) (Q E : Value → Shared → Prop)
    (rest : List (Addr × Obj)) (bs : Array UInt8) (ks : List Int) (tn ta : Tok),
    Below A₀ base outer h₀ → Fr h₀ L s.heap m → (hd.heap_39 w.params).In h₀ → News h₀ L s.heap rest →
    Top hd.view_39 loose mean mg mb h₀ → cs.kind = .function → KBw.bInts bs = ks → ks.length = 8 → (ks.getD (0 : Int).toNat 0).fdiv (2 ^ (6 : Int).toNat) = 3 → dp + 2 < recursionLimit → un + 24 < cLine →
    (∀ T t1 t2 h' tk', Fr h₀ L h' m → News h₀ L h' ((T, { cls := .type "tuple", data := .seq #[.int (Builtin.bitAnd (ks.foldl (fun a k => a * 256 + k) 0) 4611686018427387903) t1, .int 8 t2] }) :: rest) → Q (.ref T) { s with heap := h', toks := tk' }) →
    wpAny (model PySem.Challenge.rw_pf0248_01.row.prog w) (ktrTop dp un gd cn cs L a ccd [] outer) (PySem.call (.ref 90) [.bytes bs tn, .int 0 ta]) Q E s := by
  k_fill
  w_top off
  intro w loose mean mg mb dp un gd cn cs a ccd outer A₀ base h₀ L m s Q E rest bs ks tn ta B F X N T hk hbs hsz hix hdp hu ret
  refine wpAny_call ?_
  k_dflt cell_enter
  k_steps
  have e8 : ([1, 2, 4, 8] : List Int).getD ((ks.getD (0 : Int).toNat 0).fdiv (2 ^ (6 : Int).toNat)).toNat 0 = 8 := by rw [hix]; rfl
  simp only [e8] at *
  k_steps
  exact ret _ _ _ _ _ (by k_asm) (by k_asm)
end Mine

namespace Mine
open PySem.Calls
theorem oct_int (N : Int) (j : Nat) : (((oct N j).toNat : Nat) : Int) = N / 256 ^ (7 - j) % 256 := by
  unfold oct
  have h0 := Int.emod_nonneg (N / 256 ^ (7 - j)) (show (256 : Int) ≠ 0 by decide)
  have h1 := Int.emod_lt_of_pos (N / 256 ^ (7 - j)) (show (0 : Int) < 256 by decide)
  generalize N / 256 ^ (7 - j) % 256 = x at h0 h1
  show (((UInt8.ofNat x.toNat).toNat : Nat) : Int) = x
  rw [UInt8.toNat_ofNat']
  omega
theorem ints_upto (N : Int) : KBw.bInts (upto N 8) = [N / 72057594037927936 % 256, N / 281474976710656 % 256, N / 1099511627776 % 256, N / 4294967296 % 256, N / 16777216 % 256, N / 65536 % 256, N / 256 % 256, N / 1 % 256] := by
  show [((oct N 0).toNat : Int), ((oct N 1).toNat : Int), ((oct N 2).toNat : Int), ((oct N 3).toNat : Int), ((oct N 4).toNat : Int), ((oct N 5).toNat : Int), ((oct N 6).toNat : Int), ((oct N 7).toNat : Int)] = _
  simp only [oct_int]
  rfl
theorem fold_upto (N : Int) (h0 : 0 ≤ N) (h1 : N < 18446744073709551616) : (KBw.bInts (upto N 8)).foldl (fun a k => a * 256 + k) 0 = N := by
  rw [ints_upto]
  simp only [List.foldl_cons, List.foldl_nil]
  omega
theorem head_upto {n : Int} (h0 : 0 ≤ n) (h1 : n < 4611686018427387904) : ((KBw.bInts (upto (13835058055282163712 + n) 8)).getD (0 : Int).toNat 0).fdiv (2 ^ (6 : Int).toNat) = 3 := by
  rw [ints_upto, Int.fdiv_eq_ediv_of_nonneg _ (by decide)]
  show (13835058055282163712 + n) / 72057594037927936 % 256 / 64 = 3
  omega
theorem told_back {n : Int} (h0 : 0 ≤ n) (h1 : n < 4611686018427387904) : Builtin.bitAnd ((KBw.bInts (upto (13835058055282163712 + n) 8)).foldl (fun a k => a * 256 + k) 0) 4611686018427387903 = n := by
  rw [fold_upto _ (by omega) (by omega), and62 (by omega)]
  omega
end Mine

namespace Mine
open PySem.Calls
def lawBody : List Stmt := match PySem.Challenge.rw_pf0248_01.row.prog.theDef "law" with | some (_, b, _) => b | none => []
def lawScope : Scope := match PySem.Challenge.rw_pf0248_01.row.prog.theDef "law" with | some (_, _, c) => c | none => { kind := .function, names := [], isGenerator := false, isCoroutine := false }
def turnBody : List Stmt := match lawBody with | _ :: _ :: _ :: _ :: _ :: _ :: _ :: .For _ _ b _ _ :: _ => b | _ => []
def ln (k : Nat) : Stmt := lawBody.getD k (.Pass default)
def tn (k : Nat) : Stmt := turnBody.getD k (.Pass default)
abbrev penO (lq : Addr) (c q : Int) (tc tq : Tok) (n : Nat) : Obj := listOf #[.ref lq, .int c tc, .int q tq] n
end Mine

namespace Mine
open PySem.Calls
theorem pick_head : ∀ (w : World) (loose : List Str) (mean : ExcName → Option Value) (mg mb : Str → Option Value) (dp un : Nat) (gd : Option (List Code)) (cn : Str) (cs : Scope) (a : Addr) (ccd : Value) (outer : List Env) (A₀ : Around) (base h₀ : Heap) (L : Addr) (m : Str → Option Value) (s : Shared) (Q E : Value → Shared → Prop)
    (rest : List (Addr × Obj)) (D : Addr) (ob : Obj) (pn lq : Addr) (vs : List Value) (xs : List Int) (c q : Int) (tc tq : Tok) (n1 n2 : Nat) (many : Int) (tm : Tok),
    Below A₀ base outer h₀ → Fr h₀ L s.heap m → (hd.heap_39 w.params).In h₀ →
    News h₀ L s.heap ((D, ob) :: (pn, penO lq c q tc tq n1) :: (lq, listOf vs.toArray n2) :: rest) → OwnOff rest [pn, lq] → pn < D → lq < D → @Ne Nat lq pn →
    Top hd.view_39 loose mean mg mb h₀ → cs.kind = .function → IntsAre vs xs → xs.length ≤ 63 → 0 ≤ c → c ≤ 1000 → 0 ≤ q → q < 997 → 1 ≤ many → many ≤ 64 → dp + 1 < recursionLimit → un + 8 < cLine →
    (∀ r t t' n' h' tk', 0 ≤ r → r < many → Fr h₀ L h' m → News h₀ L h' ((D, ob) :: (pn, penO lq (c + 1) q t' tq n') :: (lq, listOf vs.toArray n2) :: rest) → Q (.int r t) { s with heap := h', toks := tk' }) →
    wpAny (model PySem.Challenge.rw_pf0248_01.row.prog w) (ktrTop dp un gd cn cs L a ccd [] outer) (PySem.call (.ref 153) [.ref pn, .int many tm]) Q E s := by
  intro w loose mean mg mb dp un gd cn cs a ccd outer A₀ base h₀ L m s Q E rest D ob pn lq vs xs c q tc tq n1 n2 many tm B F X N hoff hD1 hD2 hne T hk hI hlen hc0 hc1 hq0 hq1 hm0 hm1 hdp hu ret
  have e1 : @Ne Nat D pn := Nat.ne_of_gt hD1
  have e2 : @Ne Nat D lq := Nat.ne_of_gt hD2
  refine pick_call w loose mean mg mb dp un gd cn cs a ccd outer A₀ base h₀ L m s Q E ((D, ob) :: rest) pn lq vs xs c q tc tq n1 n2 many tm B F X ?_ ?_ hne T hk hI hlen hc0 hc1 hq0 hq1 hm0 hm1 hdp hu fun r t t' n' h' tk' h0 h1 F' N' => ret r t t' n' h' tk' h0 h1 F' ?_
  · intro p hp
    simp only [List.mem_cons] at hp
    exact N p (by simp only [List.mem_cons]; rcases hp with h | h | h | h <;> simp [h])
  · intro p hp b hb
    rcases List.mem_cons.mp hp with rfl | hp
    · simp only [List.mem_cons, List.not_mem_nil, or_false] at hb
      rcases hb with rfl | rfl
      · exact e1
      · exact e2
    · exact hoff p hp b hb
  · intro p hp
    simp only [List.mem_cons] at hp
    exact N' p (by simp only [List.mem_cons]; rcases hp with h | h | h | h <;> simp [h])
end Mine

namespace Mine
theorem read_call : ∀ (w : World) (loose : List Str) (mean : ExcName → Option Value) (mg mb : Str → Option Value) (dp un : Nat) (gd : Option (List Code)) (cn : Str) (cs : Scope) (a : Addr) (ccd : Value) (outer : List Env) (A₀ : Around) (base h₀ : Heap) (L : Addr) (m : Str → Option Value) (s : Shared) (Q E : Value → Shared → Prop)
    (rest : List (Addr × Obj)) (wn dx : Addr) (H1 H2 H3 H4 H5 : Int) (k1 k2 k3 k4 k5 : Tok) (size limit got used : Int) (t1 t2 t3 t4 : Tok) (owes : Bool) (many : Int) (tm : Tok),
    Below A₀ base outer h₀ → Fr h₀ L s.heap m → (hd.heap_39 w.params).In h₀ →
    News h₀ L s.heap ((wn, instObj 135 dx) :: (dx, winD H1 H2 H3 H4 H5 k1 k2 k3 k4 k5 size limit got used t1 t2 t3 t4 owes 5) :: rest) → OwnOff rest [wn, dx] → @Ne Nat dx wn →
    Top hd.view_39 loose mean mg mb h₀ → cs.kind = .function → dp + 1 < recursionLimit → un + 8 < cLine →
    (∀ t h' tk', Fr h₀ L h' m → News h₀ L h' ((wn, instObj 135 dx) :: (dx, winD H1 H2 H3 H4 H5 k1 k2 k3 k4 k5 size limit got (used + many) t1 t2 t3 t owes 5) :: rest) → Q .none { s with heap := h', toks := tk' }) →
    wpAny (model PySem.Challenge.rw_pf0248_01.row.prog w) (ktrTop dp un gd cn cs L a ccd [] outer) (PySem.call (.ref 118) [.ref wn, .int many tm]) Q E s := by
  k_fill
  w_top off
  intro w loose mean mg mb dp un gd cn cs a ccd outer A₀ base h₀ L m s Q E rest wn dx H1 H2 H3 H4 H5 k1 k2 k3 k4 k5 size limit got used t1 t2 t3 t4 owes many tm B F X N hoff hne T hk hdp hu ret
  refine wpAny_call ?_
  k_dflt cell_enter
  k_steps
  exact ret _ _ _ (by k_asm) (by k_asm)

theorem lost_call : ∀ (w : World) (loose : List Str) (mean : ExcName → Option Value) (mg mb : Str → Option Value) (dp un : Nat) (gd : Option (List Code)) (cn : Str) (cs : Scope) (a : Addr) (ccd : Value) (outer : List Env) (A₀ : Around) (base h₀ : Heap) (L : Addr) (m : Str → Option Value) (s : Shared) (Q E : Value → Shared → Prop)
    (rest : List (Addr × Obj)) (wn dx : Addr) (H1 H2 H3 H4 H5 : Int) (k1 k2 k3 k4 k5 : Tok) (size limit got used : Int) (t1 t2 t3 t4 : Tok) (owes : Bool) (lost : Int) (tm : Tok),
    Below A₀ base outer h₀ → Fr h₀ L s.heap m → (hd.heap_39 w.params).In h₀ →
    News h₀ L s.heap ((wn, instObj 135 dx) :: (dx, winD H1 H2 H3 H4 H5 k1 k2 k3 k4 k5 size limit got used t1 t2 t3 t4 owes 5) :: rest) → OwnOff rest [wn, dx] → @Ne Nat dx wn →
    Top hd.view_39 loose mean mg mb h₀ → cs.kind = .function → dp + 1 < recursionLimit → un + 8 < cLine →
    (∀ h' tk', Fr h₀ L h' m → News h₀ L h' ((wn, instObj 135 dx) :: (dx, winD H1 H2 H3 H4 H5 k1 k2 k3 k4 k5 size limit got used t1 t2 t3 t4 (if lost = limit then true else owes) 5) :: rest) → Q .none { s with heap := h', toks := tk' }) →
    wpAny (model PySem.Challenge.rw_pf0248_01.row.prog w) (ktrTop dp un gd cn cs L a ccd [] outer) (PySem.call (.ref 132) [.ref wn, .int lost tm]) Q E s := by
  k_fill
  w_top off
  intro w loose mean mg mb dp un gd cn cs a ccd outer A₀ base h₀ L m s Q E rest wn dx H1 H2 H3 H4 H5 k1 k2 k3 k4 k5 size limit got used t1 t2 t3 t4 owes lost tm B F X N hoff hne T hk hdp hu ret
  refine wpAny_call ?_
  k_dflt cell_enter
  k_steps
  · have hz : lost = limit := by omega
    rw [if_pos hz] at ret
    exact ret _ _ (by k_asm) (by k_asm)
  · have hz : ¬ lost = limit := by omega
    rw [if_neg hz] at ret
    exact ret _ _ (by k_asm) (by k_asm)

end Mine

namespace Mine
open PySem.Calls
theorem allLt_all {d : Addr} : ∀ {l : List (Addr × Obj)}, AllLt d l → ∀ p ∈ l, p.1 < d
  | [], _, _, h => nomatch h
  | q :: r, h, p, hp => by
    rcases List.mem_cons.mp hp with rfl | hp
    · exact h.1
    · exact allLt_all h.2 p hp
/-- the five objects of the law's ledger lie apart, and apart from the rest -/
structure Apart (pn lq wn dx en : Addr) (rest : List (Addr × Obj)) : Prop where
  a1 : @Ne Nat lq pn
  a2 : @Ne Nat wn pn
  a3 : @Ne Nat dx pn
  a4 : @Ne Nat en pn
  a5 : @Ne Nat wn lq
  a6 : @Ne Nat dx lq
  a7 : @Ne Nat en lq
  a8 : @Ne Nat dx wn
  a9 : @Ne Nat en wn
  a10 : @Ne Nat en dx
  off : OwnOff rest [pn, lq, wn, dx, en]
theorem Apart.offPick {pn lq wn dx en : Addr} {rest : List (Addr × Obj)} {o1 o2 o3 : Obj} (A : Apart pn lq wn dx en rest) : OwnOff ((wn, o1) :: (dx, o2) :: (en, o3) :: rest) [pn, lq] := by
  intro p hp b hb
  simp only [List.mem_cons, List.not_mem_nil, or_false] at hp hb
  rcases hb with rfl | rfl <;> rcases hp with rfl | rfl | rfl | hp
  · exact A.a2
  · exact A.a3
  · exact A.a4
  · exact A.off p hp _ (by simp)
  · exact A.a5
  · exact A.a6
  · exact A.a7
  · exact A.off p hp _ (by simp)
theorem Apart.offWin {pn lq wn dx en : Addr} {rest : List (Addr × Obj)} {o1 o2 o3 : Obj} (A : Apart pn lq wn dx en rest) : OwnOff ((pn, o1) :: (lq, o2) :: (en, o3) :: rest) [wn, dx] := by
  intro p hp b hb
  simp only [List.mem_cons, List.not_mem_nil, or_false] at hp hb
  rcases hb with rfl | rfl <;> rcases hp with rfl | rfl | rfl | hp
  · exact A.a2.symm
  · exact A.a5.symm
  · exact A.a9
  · exact A.off p hp _ (by simp)
  · exact A.a3.symm
  · exact A.a6.symm
  · exact A.a10
  · exact A.off p hp _ (by simp)
theorem Apart.every {pn lq wn dx en en' : Addr} {rest : List (Addr × Obj)} (A : Apart pn lq wn dx en rest) (h1 : pn < en') (h2 : lq < en') (h3 : wn < en') (h4 : dx < en') (h5 : ∀ p ∈ rest, p.1 < en') : Apart pn lq wn dx en' rest where
  a1 := A.a1
  a2 := A.a2
  a3 := A.a3
  a4 := Nat.ne_of_gt h1
  a5 := A.a5
  a6 := A.a6
  a7 := Nat.ne_of_gt h2
  a8 := A.a8
  a9 := Nat.ne_of_gt h3
  a10 := Nat.ne_of_gt h4
  off := by
    intro p hp b hb
    simp only [List.mem_cons, List.not_mem_nil, or_false] at hb
    rcases hb with rfl | rfl | rfl | rfl | rfl
    · exact A.off p hp _ (by simp)
    · exact A.off p hp _ (by simp)
    · exact A.off p hp _ (by simp)
    · exact A.off p hp _ (by simp)
    · exact Nat.ne_of_lt (h5 p hp)
section
variable {h₀ h : Heap} {L : Addr} {a b c d e : Addr × Obj} {r : List (Addr × Obj)}
theorem rotWin (N : News h₀ L h (a :: b :: c :: d :: e :: r)) : News h₀ L h (c :: d :: a :: b :: e :: r) := fun p hp => N p (by
  simp only [List.mem_cons] at hp ⊢
  rcases hp with h | h | h | h | h | h <;> simp [h])
theorem rotPen (N : News h₀ L h (c :: d :: a :: b :: e :: r)) : News h₀ L h (a :: b :: c :: d :: e :: r) := rotWin N
theorem rotEvery (N : News h₀ L h (a :: b :: c :: d :: e :: r)) : News h₀ L h (e :: a :: b :: c :: d :: r) := fun p hp => N p (by
  simp only [List.mem_cons] at hp ⊢
  rcases hp with h | h | h | h | h | h <;> simp [h])
theorem rotBack (N : News h₀ L h (e :: a :: b :: c :: d :: r)) : News h₀ L h (a :: b :: c :: d :: e :: r) := fun p hp => N p (by
  simp only [List.mem_cons] at hp ⊢
  rcases hp with h | h | h | h | h | h <;> simp [h])
end
end Mine

namespace Mine
open PySem.Calls
local macro_rules | `(tactic| walk_at "eval Name") => `(tactic| (k_here; k_dflt (refine' ld ?k1 ?k2 ?_; (case k1 => k_asm); (case k2 => first | rfl | assumption | (with_unfolding_all assumption)); k_whole)))
local macro_rules | `(tactic| walk_at "call ref") => `(tactic| (k_here; (with_reducible show wpAny _ _ (call (Value.ref 153) [Value.ref _, Value.int _ _]) _ _ _); k_dflt (refine' pick_head _ _ _ _ _ _ _ _ _ _ _ _ _ _ _ _ _ _ _ _ _ _ _ _ _ _ _ _ _ _ _ _ _ _ _ _ ?kB ?kF ?kX ?kN ?ko ?kl ?km ?kn ?kT ?kk ?kI ?k0 ?k1 ?k2 ?k3 ?k4 ?k5 ?k6 ?kd ?ku ?_; (case kB => k_asm); (case kF => k_asm); (case kX => k_asm); (case kN => k_asm); (case ko => k_asm); (case kl => first | assumption | exact And.left (by assumption)); (case km => first | assumption | exact And.left (And.right (by assumption))); (case kn => k_asm); (case kT => k_asm); (case kk => rfl); (case kI => k_asm); (case k0 => omega); (case k1 => omega); (case k2 => omega); (case k3 => omega); (case k4 => omega); (case k5 => omega); (case k6 => omega); (case kd => ktr_room); (case ku => ktr_units); k_whole); intro r' t' tq' n' h' tk' hr0' hr1' F' N'; (try dsimp only)))
local macro_rules | `(tactic| walk_at "call ref") => `(tactic| (k_here; (with_reducible show wpAny _ _ (call (Value.ref 153) [Value.ref _, Value.int _ _]) _ _ _); k_dflt (refine' pick_call _ _ _ _ _ _ _ _ _ _ _ _ _ _ _ _ _ _ _ _ _ _ _ _ _ _ _ _ _ _ _ _ _ _ ?kB ?kF ?kX ?kN ?ko ?kn ?kT ?kk ?kI ?k0 ?k1 ?k2 ?k3 ?k4 ?k5 ?k6 ?kd ?ku ?_; (case kB => k_asm); (case kF => k_asm); (case kX => k_asm); (case kN => k_asm); (case ko => k_asm); (case kn => k_asm); (case kT => k_asm); (case kk => rfl); (case kI => k_asm); (case k0 => omega); (case k1 => omega); (case k2 => omega); (case k3 => omega); (case k4 => omega); (case k5 => omega); (case k6 => omega); (case kd => ktr_room); (case ku => ktr_units); k_whole); intro r' t' tq' n' h' tk' hr0' hr1' F' N'; (try dsimp only)))
theorem getD5 {a b c d e k : Int} (h0 : 0 ≤ k) (h1 : k < 5) : [a, b, c, d, e].getD k.toNat 0 = a ∨ [a, b, c, d, e].getD k.toNat 0 = b ∨ [a, b, c, d, e].getD k.toNat 0 = c ∨ [a, b, c, d, e].getD k.toNat 0 = d ∨ [a, b, c, d, e].getD k.toNat 0 = e := by
  have h : k = 0 ∨ k = 1 ∨ k = 2 ∨ k = 3 ∨ k = 4 := by omega
  rcases h with rfl | rfl | rfl | rfl | rfl
  · exact .inl rfl
  · exact .inr (.inl rfl)
  · exact .inr (.inr (.inl rfl))
  · exact .inr (.inr (.inr (.inl rfl)))
  · exact .inr (.inr (.inr (.inr rfl)))
theorem getD3 {a b c k : Int} (h0 : 0 ≤ k) (h1 : k < 3) : [a, b, c].getD k.toNat 0 = a ∨ [a, b, c].getD k.toNat 0 = b ∨ [a, b, c].getD k.toNat 0 = c := by
  have h : k = 0 ∨ k = 1 ∨ k = 2 := by omega
  rcases h with rfl | rfl | rfl
  · exact .inl rfl
  · exact .inr (.inl rfl)
  · exact .inr (.inr rfl)

theorem st0 : ∀ (w : World) (loose : List Str) (mean : ExcName → Option Value) (mg mb : Str → Option Value) (a : Addr) (ccd : Value) (A₀ : Around) (base : Heap) (L : Addr) (m : Str → Option Value) (s : Shared) (Q : Flow → Shared → Prop) (E : Value → Shared → Prop) (rest : List (Addr × Obj)) (limit got : Int) (tl tg : Tok),
    Below A₀ base [] base → Fr base L s.heap m → (hd.heap_39 w.params).In base → Top hd.view_39 loose mean mg mb base → News base L s.heap rest → m (Str.ofString "limit") = some (.int limit tl) →m (Str.ofString "got") = some (.int got tg) → (∀ t h' tk', Fr base L h' (fun y => if y = Str.ofString "room" then some (.int (limit - got) t) else m y) → News base L h' rest → Q .next { s with heap := h', toks := tk' }) →
    wpAny (model PySem.Challenge.rw_pf0248_01.row.prog w) (ktrTop 302 7 (some []) (Str.ofString "law") lawScope L a ccd [] []) (exec (tn 0) (envX (Str.ofString "law") lawScope L a ccd [])) Q E s := by
  k_fill
  w_top off
  intro w loose mean mg mb a ccd A₀ base L m s Q E rest limit got tl tg B F X T N h1 h2 ret
  have eS := (rfl : lawScope = lawScope)
  conv at eS => rhs; whnf
  rw [eS]
  clear eS
  have eT := (rfl : tn 0 = tn 0)
  conv at eT => rhs; whnf
  rw [eT]
  clear eT
  k_steps
  exact ret _ _ _ (by k_asm) (by k_asm)

theorem st1 : ∀ (w : World) (loose : List Str) (mean : ExcName → Option Value) (mg mb : Str → Option Value) (a : Addr) (ccd : Value) (A₀ : Around) (base : Heap) (L : Addr) (m : Str → Option Value) (s : Shared) (Q : Flow → Shared → Prop) (E : Value → Shared → Prop) (rest : List (Addr × Obj)) (pn lq : Addr) (vs : List Value) (xs : List Int) (c q : Int) (tc tq : Tok) (n1 n2 : Nat) (room : Int) (tr : Tok),
    Below A₀ base [] base → Fr base L s.heap m → (hd.heap_39 w.params).In base → Top hd.view_39 loose mean mg mb base → News base L s.heap ((pn, penO lq c q tc tq n1) :: (lq, listOf vs.toArray n2) :: rest) → OwnOff rest [pn, lq] → @Ne Nat lq pn → IntsAre vs xs → xs.length ≤ 63 → 0 ≤ c → c ≤ 1000 → 0 ≤ q → q < 997 → m (Str.ofString "pen") = some (.ref pn) → m (Str.ofString "room") = some (.int room tr) → (∀ r t tc' n1' h' tk', (r = room ∨ r = room.fdiv 2 + 1 ∨ r = 1 ∨ r = 0 ∨ r = room + 1) → Fr base L h' (fun y => if y = Str.ofString "many" then some (.int r t) else m y) → News base L h' ((pn, penO lq (c + 1) q tc' tq n1') :: (lq, listOf vs.toArray n2) :: rest) → Q .next { s with heap := h', toks := tk' }) →
    wpAny (model PySem.Challenge.rw_pf0248_01.row.prog w) (ktrTop 302 7 (some []) (Str.ofString "law") lawScope L a ccd [] []) (exec (tn 1) (envX (Str.ofString "law") lawScope L a ccd [])) Q E s := by
  k_fill
  w_top off
  intro w loose mean mg mb a ccd A₀ base L m s Q E rest pn lq vs xs c q tc tq n1 n2 room tr B F X T N hoff hne hI hlen hc0 hc1 hq0 hq1 hpen h1 ret
  have eS := (rfl : lawScope = lawScope)
  conv at eS => rhs; whnf
  rw [eS]
  clear eS
  have eT := (rfl : tn 1 = tn 1)
  conv at eT => rhs; whnf
  rw [eT]
  clear eT
  k_steps
  rename News base L _ _ => N9
  rename Fr base L _ _ => F9
  exact ret _ _ _ _ _ _ (getD5 (by assumption) (by assumption)) F9 fun p hp => N9 p (List.mem_cons_of_mem _ hp)

theorem st3 : ∀ (w : World) (loose : List Str) (mean : ExcName → Option Value) (mg mb : Str → Option Value) (a : Addr) (ccd : Value) (A₀ : Around) (base : Heap) (L : Addr) (m : Str → Option Value) (s : Shared) (Q : Flow → Shared → Prop) (E : Value → Shared → Prop) (rest : List (Addr × Obj)) (got many room : Int) (tg tm tr : Tok),
    Below A₀ base [] base → Fr base L s.heap m → (hd.heap_39 w.params).In base → Top hd.view_39 loose mean mg mb base → News base L s.heap rest → m (Str.ofString "got") = some (.int got tg) →m (Str.ofString "many") = some (.int many tm) →m (Str.ofString "room") = some (.int room tr) → (∀ t h' tk', Fr base L h' (fun y => if y = Str.ofString "got" then some (.int (if many ≤ room then got + many else got) t) else m y) → News base L h' rest → Q .next { s with heap := h', toks := tk' }) →
    wpAny (model PySem.Challenge.rw_pf0248_01.row.prog w) (ktrTop 302 7 (some []) (Str.ofString "law") lawScope L a ccd [] []) (exec (tn 3) (envX (Str.ofString "law") lawScope L a ccd [])) Q E s := by
  k_fill
  w_top off
  intro w loose mean mg mb a ccd A₀ base L m s Q E rest got many room tg tm tr B F X T N h1 h2 h3 ret
  have eS := (rfl : lawScope = lawScope)
  conv at eS => rhs; whnf
  rw [eS]
  clear eS
  have eT := (rfl : tn 3 = tn 3)
  conv at eT => rhs; whnf
  rw [eT]
  clear eT
  k_steps
  · rw [if_pos (by omega)] at ret
    exact ret _ _ _ (by k_asm) (by k_asm)
  · rw [if_neg (by omega)] at ret
    exact ret _ _ _ (by k_asm) (by k_asm)

theorem st4 : ∀ (w : World) (loose : List Str) (mean : ExcName → Option Value) (mg mb : Str → Option Value) (a : Addr) (ccd : Value) (A₀ : Around) (base : Heap) (L : Addr) (m : Str → Option Value) (s : Shared) (Q : Flow → Shared → Prop) (E : Value → Shared → Prop) (rest : List (Addr × Obj)) (got read : Int) (tg tr : Tok),
    Below A₀ base [] base → Fr base L s.heap m → (hd.heap_39 w.params).In base → Top hd.view_39 loose mean mg mb base → News base L s.heap rest → m (Str.ofString "got") = some (.int got tg) →m (Str.ofString "read") = some (.int read tr) → (∀ t h' tk', Fr base L h' (fun y => if y = Str.ofString "left" then some (.int (got - read) t) else m y) → News base L h' rest → Q .next { s with heap := h', toks := tk' }) →
    wpAny (model PySem.Challenge.rw_pf0248_01.row.prog w) (ktrTop 302 7 (some []) (Str.ofString "law") lawScope L a ccd [] []) (exec (tn 4) (envX (Str.ofString "law") lawScope L a ccd [])) Q E s := by
  k_fill
  w_top off
  intro w loose mean mg mb a ccd A₀ base L m s Q E rest got read tg tr B F X T N h1 h2 ret
  have eS := (rfl : lawScope = lawScope)
  conv at eS => rhs; whnf
  rw [eS]
  clear eS
  have eT := (rfl : tn 4 = tn 4)
  conv at eT => rhs; whnf
  rw [eT]
  clear eT
  k_steps
  exact ret _ _ _ (by k_asm) (by k_asm)

theorem st5 : ∀ (w : World) (loose : List Str) (mean : ExcName → Option Value) (mg mb : Str → Option Value) (a : Addr) (ccd : Value) (A₀ : Around) (base : Heap) (L : Addr) (m : Str → Option Value) (s : Shared) (Q : Flow → Shared → Prop) (E : Value → Shared → Prop) (rest : List (Addr × Obj)) (pn lq : Addr) (vs : List Value) (xs : List Int) (c q : Int) (tc tq : Tok) (n1 n2 : Nat) (left : Int) (tr : Tok),
    Below A₀ base [] base → Fr base L s.heap m → (hd.heap_39 w.params).In base → Top hd.view_39 loose mean mg mb base → News base L s.heap ((pn, penO lq c q tc tq n1) :: (lq, listOf vs.toArray n2) :: rest) → OwnOff rest [pn, lq] → @Ne Nat lq pn → IntsAre vs xs → xs.length ≤ 63 → 0 ≤ c → c ≤ 1000 → 0 ≤ q → q < 997 → m (Str.ofString "pen") = some (.ref pn) → m (Str.ofString "left") = some (.int left tr) → (∀ r t tc' n1' h' tk', (r = left ∨ r = left.fdiv 2 ∨ r = 0) → Fr base L h' (fun y => if y = Str.ofString "less" then some (.int r t) else m y) → News base L h' ((pn, penO lq (c + 1) q tc' tq n1') :: (lq, listOf vs.toArray n2) :: rest) → Q .next { s with heap := h', toks := tk' }) →
    wpAny (model PySem.Challenge.rw_pf0248_01.row.prog w) (ktrTop 302 7 (some []) (Str.ofString "law") lawScope L a ccd [] []) (exec (tn 5) (envX (Str.ofString "law") lawScope L a ccd [])) Q E s := by
  k_fill
  w_top off
  intro w loose mean mg mb a ccd A₀ base L m s Q E rest pn lq vs xs c q tc tq n1 n2 left tr B F X T N hoff hne hI hlen hc0 hc1 hq0 hq1 hpen h1 ret
  have eS := (rfl : lawScope = lawScope)
  conv at eS => rhs; whnf
  rw [eS]
  clear eS
  have eT := (rfl : tn 5 = tn 5)
  conv at eT => rhs; whnf
  rw [eT]
  clear eT
  k_steps
  rename News base L _ _ => N9
  rename Fr base L _ _ => F9
  exact ret _ _ _ _ _ _ (getD3 (by assumption) (by assumption)) F9 fun p hp => N9 p (List.mem_cons_of_mem _ hp)

theorem st7 : ∀ (w : World) (loose : List Str) (mean : ExcName → Option Value) (mg mb : Str → Option Value) (a : Addr) (ccd : Value) (A₀ : Around) (base : Heap) (L : Addr) (m : Str → Option Value) (s : Shared) (Q : Flow → Shared → Prop) (E : Value → Shared → Prop) (rest : List (Addr × Obj)) (read less : Int) (tg tr : Tok),
    Below A₀ base [] base → Fr base L s.heap m → (hd.heap_39 w.params).In base → Top hd.view_39 loose mean mg mb base → News base L s.heap rest → m (Str.ofString "read") = some (.int read tg) →m (Str.ofString "less") = some (.int less tr) → (∀ t h' tk', Fr base L h' (fun y => if y = Str.ofString "read" then some (.int (read + less) t) else m y) → News base L h' rest → Q .next { s with heap := h', toks := tk' }) →
    wpAny (model PySem.Challenge.rw_pf0248_01.row.prog w) (ktrTop 302 7 (some []) (Str.ofString "law") lawScope L a ccd [] []) (exec (tn 7) (envX (Str.ofString "law") lawScope L a ccd [])) Q E s := by
  k_fill
  w_top off
  intro w loose mean mg mb a ccd A₀ base L m s Q E rest read less tg tr B F X T N h1 h2 ret
  have eS := (rfl : lawScope = lawScope)
  conv at eS => rhs; whnf
  rw [eS]
  clear eS
  have eT := (rfl : tn 7 = tn 7)
  conv at eT => rhs; whnf
  rw [eT]
  clear eT
  k_steps
  exact ret _ _ _ (by k_asm) (by k_asm)

theorem st12 : ∀ (w : World) (loose : List Str) (mean : ExcName → Option Value) (mg mb : Str → Option Value) (a : Addr) (ccd : Value) (A₀ : Around) (base : Heap) (L : Addr) (m : Str → Option Value) (s : Shared) (Q : Flow → Shared → Prop) (E : Value → Shared → Prop) (rest : List (Addr × Obj)) ,
    Below A₀ base [] base → Fr base L s.heap m → (hd.heap_39 w.params).In base → Top hd.view_39 loose mean mg mb base → News base L s.heap rest →  (∀  h' tk', Fr base L h' (fun y => if y = Str.ofString "owes" then some (.bool false) else m y) → News base L h' rest → Q .next { s with heap := h', toks := tk' }) →
    wpAny (model PySem.Challenge.rw_pf0248_01.row.prog w) (ktrTop 302 7 (some []) (Str.ofString "law") lawScope L a ccd [] []) (exec (tn 12) (envX (Str.ofString "law") lawScope L a ccd [])) Q E s := by
  k_fill
  w_top off
  intro w loose mean mg mb a ccd A₀ base L m s Q E rest  B F X T N  ret
  have eS := (rfl : lawScope = lawScope)
  conv at eS => rhs; whnf
  rw [eS]
  clear eS
  have eT := (rfl : tn 12 = tn 12)
  conv at eT => rhs; whnf
  rw [eT]
  clear eT
  k_steps
  exact ret _ _ (by k_asm) (by k_asm)

end Mine

namespace Mine
open PySem.Calls
local macro_rules | `(tactic| walk_at "eval Name") => `(tactic| (k_here; k_dflt (refine' ld ?k1 ?k2 ?_; (case k1 => k_asm); (case k2 => first | rfl | assumption | (with_unfolding_all assumption)); k_whole)))
local macro_rules | `(tactic| walk_at "call ref") => `(tactic| (k_here; (with_reducible show wpAny _ _ (call (Value.ref 160) [Value.ref _, Value.int _ _]) _ _ _); k_dflt (refine' refused_call _ _ _ _ _ _ _ _ _ _ _ _ _ _ _ _ _ _ _ _ _ _ _ _ _ _ _ _ _ _ _ _ _ _ _ _ _ _ _ _  ?k0 ?k1 ?k2 ?k3 ?k4 ?k5 ?k6 ?_; (case k0 => k_asm); (case k1 => k_asm); (case k2 => k_asm); (case k3 => k_asm); (case k4 => k_asm); (case k5 => k_asm); (case k6 => k_asm); k_whole); intro t' h' tk' F' N'; (try dsimp only)))
local macro_rules | `(tactic| walk_at "call ref") => `(tactic| (k_here; (with_reducible show wpAny _ _ (call (Value.ref 118) [Value.ref _, Value.int _ _]) _ _ _); k_dflt (refine' read_call _ _ _ _ _ _ _ _ _ _ _ _ _ _ _ _ _ _ _ _ _ _ _ _ _ _ _ _ _ _ _ _ _ _ _ _ _ _ _ _ _ _ _ _ _  ?k0 ?k1 ?k2 ?k3 ?k4 ?k5 ?k6 ?k7 ?k8 ?k9 ?_; (case k0 => k_asm); (case k1 => k_asm); (case k2 => k_asm); (case k3 => k_asm); (case k4 => k_asm); (case k5 => k_asm); (case k6 => k_asm); (case k7 => rfl); (case k8 => ktr_room); (case k9 => ktr_units); k_whole); intro t' h' tk' F' N'; (try dsimp only)))
local macro_rules | `(tactic| walk_at "call ref") => `(tactic| (k_here; (with_reducible show wpAny _ _ (call (Value.ref 132) [Value.ref _, Value.int _ _]) _ _ _); k_dflt (refine' lost_call _ _ _ _ _ _ _ _ _ _ _ _ _ _ _ _ _ _ _ _ _ _ _ _ _ _ _ _ _ _ _ _ _ _ _ _ _ _ _ _ _ _ _ _ _  ?k0 ?k1 ?k2 ?k3 ?k4 ?k5 ?k6 ?k7 ?k8 ?k9 ?_; (case k0 => k_asm); (case k1 => k_asm); (case k2 => k_asm); (case k3 => k_asm); (case k4 => k_asm); (case k5 => k_asm); (case k6 => k_asm); (case k7 => rfl); (case k8 => ktr_room); (case k9 => ktr_units); k_whole); intro h' tk' F' N'; (try dsimp only)))
theorem st2 : ∀ (w : World) (loose : List Str) (mean : ExcName → Option Value) (mg mb : Str → Option Value) (a : Addr) (ccd : Value) (A₀ : Around) (base : Heap) (L : Addr) (m : Str → Option Value) (s : Shared) (Q : Flow → Shared → Prop) (E : Value → Shared → Prop) (rest : List (Addr × Obj)) (wn dx : Addr) (H1 H2 H3 H4 H5 : Int) (k1 k2 k3 k4 k5 : Tok) (size limit got used : Int) (t1 t2 t3 t4 : Tok) (owes : Bool) (many room : Int) (tm tr : Tok),
    Below A₀ base [] base → Fr base L s.heap m → (hd.heap_39 w.params).In base → Top hd.view_39 loose mean mg mb base → News base L s.heap ((wn, instObj 135 dx) :: (dx, winD H1 H2 H3 H4 H5 k1 k2 k3 k4 k5 size (limit) (got) (used) t1 t2 t3 t4 (owes) 5) :: rest) → OwnOff rest [wn, dx] → @Ne Nat dx wn → m (Str.ofString "window") = some (.ref wn) → m (Str.ofString "many") = some (.int many tm) →m (Str.ofString "room") = some (.int room tr) → room = limit - got → (∀ t3' h' tk', Fr base L h' m → News base L h' ((wn, instObj 135 dx) :: (dx, winD H1 H2 H3 H4 H5 k1 k2 k3 k4 k5 size (limit) (if got + many > limit then got else got + many) (used) t1 t2 t3' t4 (owes) 5) :: rest) → Q .next { s with heap := h', toks := tk' }) →
    wpAny (model PySem.Challenge.rw_pf0248_01.row.prog w) (ktrTop 302 7 (some []) (Str.ofString "law") lawScope L a ccd [] []) (exec (tn 2) (envX (Str.ofString "law") lawScope L a ccd [])) Q E s := by
  k_fill
  w_top off
  intro w loose mean mg mb a ccd A₀ base L m s Q E rest wn dx H1 H2 H3 H4 H5 k1 k2 k3 k4 k5 size limit got used t1 t2 t3 t4 owes many room tm tr B F X T N hoff hne hwin h1 h2 h3 ret
  have eS := (rfl : lawScope = lawScope)
  conv at eS => rhs; whnf
  rw [eS]
  clear eS
  have eT := (rfl : tn 2 = tn 2)
  conv at eT => rhs; whnf
  rw [eT]
  clear eT
  k_steps
  · rename_i ha
    have e : decide (got + many > limit) = decide (room < many) := decide_eq_decide.mpr (by omega)
    rw [e] at ha
    simp at ha
  · exact ret _ _ _ (by k_asm) (by k_asm)

theorem st6 : ∀ (w : World) (loose : List Str) (mean : ExcName → Option Value) (mg mb : Str → Option Value) (a : Addr) (ccd : Value) (A₀ : Around) (base : Heap) (L : Addr) (m : Str → Option Value) (s : Shared) (Q : Flow → Shared → Prop) (E : Value → Shared → Prop) (rest : List (Addr × Obj)) (wn dx : Addr) (H1 H2 H3 H4 H5 : Int) (k1 k2 k3 k4 k5 : Tok) (size limit got used : Int) (t1 t2 t3 t4 : Tok) (owes : Bool) (less : Int) (tm : Tok),
    Below A₀ base [] base → Fr base L s.heap m → (hd.heap_39 w.params).In base → Top hd.view_39 loose mean mg mb base → News base L s.heap ((wn, instObj 135 dx) :: (dx, winD H1 H2 H3 H4 H5 k1 k2 k3 k4 k5 size (limit) (got) (used) t1 t2 t3 t4 (owes) 5) :: rest) → OwnOff rest [wn, dx] → @Ne Nat dx wn → m (Str.ofString "window") = some (.ref wn) → m (Str.ofString "less") = some (.int less tm) → (∀ t4' h' tk', Fr base L h' m → News base L h' ((wn, instObj 135 dx) :: (dx, winD H1 H2 H3 H4 H5 k1 k2 k3 k4 k5 size (limit) (got) (used + less) t1 t2 t3 t4' (owes) 5) :: rest) → Q .next { s with heap := h', toks := tk' }) →
    wpAny (model PySem.Challenge.rw_pf0248_01.row.prog w) (ktrTop 302 7 (some []) (Str.ofString "law") lawScope L a ccd [] []) (exec (tn 6) (envX (Str.ofString "law") lawScope L a ccd [])) Q E s := by
  k_fill
  w_top off
  intro w loose mean mg mb a ccd A₀ base L m s Q E rest wn dx H1 H2 H3 H4 H5 k1 k2 k3 k4 k5 size limit got used t1 t2 t3 t4 owes less tm B F X T N hoff hne hwin h1 ret
  have eS := (rfl : lawScope = lawScope)
  conv at eS => rhs; whnf
  rw [eS]
  clear eS
  have eT := (rfl : tn 6 = tn 6)
  conv at eT => rhs; whnf
  rw [eT]
  clear eT
  k_steps
  exact ret _ _ _ (by k_asm) (by k_asm)

theorem st15 : ∀ (w : World) (loose : List Str) (mean : ExcName → Option Value) (mg mb : Str → Option Value) (a : Addr) (ccd : Value) (A₀ : Around) (base : Heap) (L : Addr) (m : Str → Option Value) (s : Shared) (Q : Flow → Shared → Prop) (E : Value → Shared → Prop) (rest : List (Addr × Obj)) (wn dx : Addr) (H1 H2 H3 H4 H5 : Int) (k1 k2 k3 k4 k5 : Tok) (size limit got used : Int) (t1 t2 t3 t4 : Tok) (owes : Bool) (tl tg tr : Tok),
    Below A₀ base [] base → Fr base L s.heap m → (hd.heap_39 w.params).In base → Top hd.view_39 loose mean mg mb base → News base L s.heap ((wn, instObj 135 dx) :: (dx, winD H1 H2 H3 H4 H5 k1 k2 k3 k4 k5 size (limit) (got) (used) t1 t2 t3 t4 (owes) 5) :: rest) → OwnOff rest [wn, dx] → @Ne Nat dx wn → m (Str.ofString "window") = some (.ref wn) → m (Str.ofString "limit") = some (.int limit tl) →m (Str.ofString "got") = some (.int got tg) →m (Str.ofString "read") = some (.int used tr) → (∀  h' tk', Fr base L h' m → News base L h' ((wn, instObj 135 dx) :: (dx, winD H1 H2 H3 H4 H5 k1 k2 k3 k4 k5 size (limit) (got) (used) t1 t2 t3 t4 (owes) 5) :: rest) → Q .next { s with heap := h', toks := tk' }) →
    wpAny (model PySem.Challenge.rw_pf0248_01.row.prog w) (ktrTop 302 7 (some []) (Str.ofString "law") lawScope L a ccd [] []) (exec (tn 15) (envX (Str.ofString "law") lawScope L a ccd [])) Q E s := by
  k_fill
  w_top off
  intro w loose mean mg mb a ccd A₀ base L m s Q E rest wn dx H1 H2 H3 H4 H5 k1 k2 k3 k4 k5 size limit got used t1 t2 t3 t4 owes tl tg tr B F X T N hoff hne hwin h1 h2 h3 ret
  have eS := (rfl : lawScope = lawScope)
  conv at eS => rhs; whnf
  rw [eS]
  clear eS
  have eT := (rfl : tn 15 = tn 15)
  conv at eT => rhs; whnf
  rw [eT]
  clear eT
  k_steps
  rename News base L _ _ => N9
  rename Fr base L _ _ => F9
  exact ret _ _ F9 fun p hp => N9 p (List.mem_cons_of_mem _ (List.mem_cons_of_mem _ hp))

end Mine

namespace Mine
open PySem.Calls
local macro_rules | `(tactic| walk_at "eval Name") => `(tactic| (k_here; k_dflt (refine' ld ?k1 ?k2 ?_; (case k1 => k_asm); (case k2 => first | rfl | assumption | (with_unfolding_all assumption)); k_whole)))
theorem st8 : ∀ (w : World) (loose : List Str) (mean : ExcName → Option Value) (mg mb : Str → Option Value) (a : Addr) (ccd : Value) (A₀ : Around) (base : Heap) (L : Addr) (m : Str → Option Value) (s : Shared) (Q : Flow → Shared → Prop) (E : Value → Shared → Prop) (rest : List (Addr × Obj)) (limit read size : Int) (tl tr ts : Tok),
    Below A₀ base [] base → Fr base L s.heap m → (hd.heap_39 w.params).In base → Top hd.view_39 loose mean mg mb base → News base L s.heap rest →m (Str.ofString "limit") = some (.int limit tl) →m (Str.ofString "read") = some (.int read tr) →m (Str.ofString "size") = some (.int size ts) → (∀  h' tk', Fr base L h' (fun y => if y = Str.ofString "is_low" then some (.bool (decide (2 * (limit - read) < size ∧ limit ≠ 4611686018427387903))) else m y) → News base L h' rest → Q .next { s with heap := h', toks := tk' }) →
    wpAny (model PySem.Challenge.rw_pf0248_01.row.prog w) (ktrTop 302 7 (some []) (Str.ofString "law") lawScope L a ccd [] []) (exec (tn 8) (envX (Str.ofString "law") lawScope L a ccd [])) Q E s := by
  k_fill
  w_top off
  intro w loose mean mg mb a ccd A₀ base L m s Q E rest limit read size tl tr ts B F X T N h1 h2 h3 ret
  have eS := (rfl : lawScope = lawScope)
  conv at eS => rhs; whnf
  rw [eS]
  clear eS
  have eT := (rfl : tn 8 = tn 8)
  conv at eT => rhs; whnf
  rw [eT]
  clear eT
  have hm : ((2 : Int) ^ Int.toNat 62 - 1) = 4611686018427387903 := rfl
  k_steps
  · have hlt : limit - read + limit - read < size := by assumption
    have e : decide (2 * (limit - read) < size ∧ limit ≠ 4611686018427387903) = (limit != 2 ^ Int.toNat 62 - 1) := by
      rw [hm]
      by_cases hq : limit = 4611686018427387903
      · simp [hq]
      · have h2 : 2 * (limit - read) < size := by omega
        simp [hq, h2]
    rw [e] at ret
    exact ret _ _ (by k_asm) (by k_asm)
  · have hlt : ¬ limit - read + limit - read < size := by assumption
    have e : decide (2 * (limit - read) < size ∧ limit ≠ 4611686018427387903) = decide (limit - read + limit - read < size) := decide_eq_decide.mpr (by omega)
    rw [e] at ret
    exact ret _ _ (by k_asm) (by k_asm)

theorem st9 : ∀ (w : World) (loose : List Str) (mean : ExcName → Option Value) (mg mb : Str → Option Value) (a : Addr) (ccd : Value) (A₀ : Around) (base : Heap) (L : Addr) (m : Str → Option Value) (s : Shared) (Q : Flow → Shared → Prop) (E : Value → Shared → Prop) (rest : List (Addr × Obj)) (limit read size : Int) (low ow : Bool) (tl tr ts : Tok),
    Below A₀ base [] base → Fr base L s.heap m → (hd.heap_39 w.params).In base → Top hd.view_39 loose mean mg mb base → News base L s.heap rest →m (Str.ofString "limit") = some (.int limit tl) →m (Str.ofString "read") = some (.int read tr) →m (Str.ofString "size") = some (.int size ts) →m (Str.ofString "is_low") = some (.bool low) →m (Str.ofString "owes") = some (.bool ow) → (low = true → ∀ t h' tk', Fr base L h' (fun y => if y = Str.ofString "due" then some (.int (min (read + size) 4611686018427387903) t) else m y) → News base L h' rest → Q .next { s with heap := h', toks := tk' }) → (low = false → ow = true → ∀  h' tk', Fr base L h' (fun y => if y = Str.ofString "due" then some (.int limit tl) else m y) → News base L h' rest → Q .next { s with heap := h', toks := tk' }) → (low = false → ow = false → ∀  h' tk', Fr base L h' (fun y => if y = Str.ofString "due" then some (.none) else m y) → News base L h' rest → Q .next { s with heap := h', toks := tk' }) →
    wpAny (model PySem.Challenge.rw_pf0248_01.row.prog w) (ktrTop 302 7 (some []) (Str.ofString "law") lawScope L a ccd [] []) (exec (tn 9) (envX (Str.ofString "law") lawScope L a ccd [])) Q E s := by
  k_fill
  w_top off
  intro w loose mean mg mb a ccd A₀ base L m s Q E rest limit read size low ow tl tr ts B F X T N h1 h2 h3 h4 h5 r1 r2 r3
  have eS := (rfl : lawScope = lawScope)
  conv at eS => rhs; whnf
  rw [eS]
  clear eS
  have eT := (rfl : tn 9 = tn 9)
  conv at eT => rhs; whnf
  rw [eT]
  clear eT
  have hm : ((2 : Int) ^ Int.toNat 62 - 1) = 4611686018427387903 := rfl
  k_steps
  · have e : min (read + size) 4611686018427387903 = if read + size < 2 ^ Int.toNat 62 - 1 then read + size else 2 ^ Int.toNat 62 - 1 := by
      rw [hm]
      split <;> omega
    rw [e] at r1
    exact r1 (by assumption) _ _ _ (by k_asm) (by k_asm)
  · exact r2 (by assumption) (by assumption) _ _ (by k_asm) (by k_asm)
  · exact r3 (by assumption) (by assumption) _ _ (by k_asm) (by k_asm)

local macro_rules | `(tactic| walk_at "call ref") => `(tactic| (k_here; (with_reducible show wpAny _ _ (call (Value.ref 125) [Value.ref _]) _ _ _); k_dflt (refine' next_call _ _ _ _ _ _ _ _ _ _ _ _ _ _ _ _ _ _ _ _ _ _ _ _ _ _ _ _ _ _ _ _ _ _ _ _ _ _ _ _ _ _ _  ?k0 ?k1 ?k2 ?k3 ?k4 ?k5 ?k6 ?k7 ?k8 ?k9 ?_ ?_ ?_; (case k0 => k_asm); (case k1 => k_asm); (case k2 => k_asm); (case k3 => k_asm); (case k4 => k_asm); (case k5 => k_asm); (case k6 => k_asm); (case k7 => rfl); (case k8 => ktr_room); (case k9 => ktr_units)); (all_goals (try (intro ho' hl' h' tk' F' N'; (try dsimp only)))); (all_goals (try (intro hl' t' h' tk' F' N'; (try dsimp only))))))
theorem st10 : ∀ (w : World) (loose : List Str) (mean : ExcName → Option Value) (mg mb : Str → Option Value) (a : Addr) (ccd : Value) (A₀ : Around) (base : Heap) (L : Addr) (m : Str → Option Value) (s : Shared) (Q : Flow → Shared → Prop) (E : Value → Shared → Prop) (rest : List (Addr × Obj)) (wn dx : Addr) (H1 H2 H3 H4 H5 : Int) (k1 k2 k3 k4 k5 : Tok) (size limit got used : Int) (t1 t2 t3 t4 : Tok) (owes : Bool),
    Below A₀ base [] base → Fr base L s.heap m → (hd.heap_39 w.params).In base → Top hd.view_39 loose mean mg mb base → News base L s.heap ((wn, instObj 135 dx) :: (dx, winD H1 H2 H3 H4 H5 k1 k2 k3 k4 k5 size (limit) (got) (used) t1 t2 t3 t4 (owes) 5) :: rest) → OwnOff rest [wn, dx] → @Ne Nat dx wn → m (Str.ofString "window") = some (.ref wn) → (owes = false → ¬ (2 * (limit - used) < size ∧ limit < 4611686018427387903) → ∀  h' tk', Fr base L h' (fun y => if y = Str.ofString "told" then some (.none) else m y) → News base L h' ((wn, instObj 135 dx) :: (dx, winD H1 H2 H3 H4 H5 k1 k2 k3 k4 k5 size (limit) (got) (used) t1 t2 t3 t4 (owes) 5) :: rest) → Q .next { s with heap := h', toks := tk' }) → (owes = true → ¬ (2 * (limit - used) < size ∧ limit < 4611686018427387903) → ∀  h' tk', Fr base L h' (fun y => if y = Str.ofString "told" then some (.int limit t2) else m y) → News base L h' ((wn, instObj 135 dx) :: (dx, winD H1 H2 H3 H4 H5 k1 k2 k3 k4 k5 size (limit) (got) (used) t1 t2 t3 t4 (false) 5) :: rest) → Q .next { s with heap := h', toks := tk' }) → ((2 * (limit - used) < size ∧ limit < 4611686018427387903) → ∀ t h' tk', Fr base L h' (fun y => if y = Str.ofString "told" then some (.int (min (used + size) 4611686018427387903) t) else m y) → News base L h' ((wn, instObj 135 dx) :: (dx, winD H1 H2 H3 H4 H5 k1 k2 k3 k4 k5 size (min (used + size) 4611686018427387903) (got) (used) t1 t t3 t4 (false) 5) :: rest) → Q .next { s with heap := h', toks := tk' }) →
    wpAny (model PySem.Challenge.rw_pf0248_01.row.prog w) (ktrTop 302 7 (some []) (Str.ofString "law") lawScope L a ccd [] []) (exec (tn 10) (envX (Str.ofString "law") lawScope L a ccd [])) Q E s := by
  k_fill
  w_top off
  intro w loose mean mg mb a ccd A₀ base L m s Q E rest wn dx H1 H2 H3 H4 H5 k1 k2 k3 k4 k5 size limit got used t1 t2 t3 t4 owes B F X T N hoff hne hwin r1 r2 r3
  have eS := (rfl : lawScope = lawScope)
  conv at eS => rhs; whnf
  rw [eS]
  clear eS
  have eT := (rfl : tn 10 = tn 10)
  conv at eT => rhs; whnf
  rw [eT]
  clear eT
  rw [show min (used + size) 4611686018427387903 = if 4611686018427387903 < used + size then 4611686018427387903 else used + size by split <;> omega] at r3
  k_steps
  all_goals first
    | exact r3 ⟨by omega, by omega⟩ _ _ _ (by k_asm) (by k_asm)
    | exact r2 (by assumption) (by omega) _ _ (by k_asm) (by k_asm)
    | exact r1 (by assumption) (by omega) _ _ (by k_asm) (by k_asm)

theorem st13n : ∀ (w : World) (loose : List Str) (mean : ExcName → Option Value) (mg mb : Str → Option Value) (a : Addr) (ccd : Value) (A₀ : Around) (base : Heap) (L : Addr) (m : Str → Option Value) (s : Shared) (Q : Flow → Shared → Prop) (E : Value → Shared → Prop) (rest : List (Addr × Obj)),
    Below A₀ base [] base → Fr base L s.heap m → (hd.heap_39 w.params).In base → Top hd.view_39 loose mean mg mb base → News base L s.heap rest →m (Str.ofString "due") = some (.none) → (∀  h' tk', Fr base L h' m → News base L h' rest → Q .next { s with heap := h', toks := tk' }) →
    wpAny (model PySem.Challenge.rw_pf0248_01.row.prog w) (ktrTop 302 7 (some []) (Str.ofString "law") lawScope L a ccd [] []) (exec (tn 13) (envX (Str.ofString "law") lawScope L a ccd [])) Q E s := by
  k_fill
  w_top off
  intro w loose mean mg mb a ccd A₀ base L m s Q E rest B F X T N h1 ret
  have eS := (rfl : lawScope = lawScope)
  conv at eS => rhs; whnf
  rw [eS]
  clear eS
  have eT := (rfl : tn 13 = tn 13)
  conv at eT => rhs; whnf
  rw [eT]
  clear eT
  k_steps
  exact ret s.heap s.toks F N

theorem st13i : ∀ (w : World) (loose : List Str) (mean : ExcName → Option Value) (mg mb : Str → Option Value) (a : Addr) (ccd : Value) (A₀ : Around) (base : Heap) (L : Addr) (m : Str → Option Value) (s : Shared) (Q : Flow → Shared → Prop) (E : Value → Shared → Prop) (rest : List (Addr × Obj)) (en : Addr) (es : List Value) (ns : List Int) (n3 : Nat) (d : Int) (td : Tok),
    Below A₀ base [] base → Fr base L s.heap m → (hd.heap_39 w.params).In base → Top hd.view_39 loose mean mg mb base → News base L s.heap ((en, listOf es.toArray n3) :: rest) → IntsAre es ns → ns.length ≤ 60 →m (Str.ofString "due") = some (.int d td) →m (Str.ofString "every") = some (.ref en) → (∀ en' es' h' tk', IntsAre es' (ns ++ [d]) → AllLt en' rest → Fr base L h' (fun y => if y = Str.ofString "limit" then some (Value.int d td) else if y = Str.ofString "every" then some (.ref en') else m y) → News base L h' ((en', listOf (List.toArray es') 0) :: rest) → Q .next { s with heap := h', toks := tk' }) →
    wpAny (model PySem.Challenge.rw_pf0248_01.row.prog w) (ktrTop 302 7 (some []) (Str.ofString "law") lawScope L a ccd [] []) (exec (tn 13) (envX (Str.ofString "law") lawScope L a ccd [])) Q E s := by
  k_fill
  w_top off
  intro w loose mean mg mb a ccd A₀ base L m s Q E rest en es ns n3 d td B F X T N hE hk h1 h2 ret
  have eS := (rfl : lawScope = lawScope)
  conv at eS => rhs; whnf
  rw [eS]
  clear eS
  have eT := (rfl : tn 13 = tn 13)
  conv at eT => rhs; whnf
  rw [eT]
  clear eT
  k_steps
  rename News base L _ _ => N9
  rename Fr base L _ _ => F9
  refine ret _ _ _ _ (by assumption) ?_ F9 (fun p hp => N9 p ?_)
  · exact And.right (And.right (by assumption))
  · rcases List.mem_cons.mp hp with rfl | hp
    · exact .tail _ (.head _)
    · exact .tail _ (.tail _ (.tail _ (.tail _ hp)))

end Mine

namespace Mine
open PySem.Calls
local macro_rules | `(tactic| walk_at "eval Name") => `(tactic| (k_here; k_dflt (refine' ld ?k1 ?k2 ?_; (case k1 => k_asm); (case k2 => first | rfl | assumption | (with_unfolding_all assumption)); k_whole)))
theorem st11n : ∀ (w : World) (loose : List Str) (mean : ExcName → Option Value) (mg mb : Str → Option Value) (a : Addr) (ccd : Value) (A₀ : Around) (base : Heap) (L : Addr) (m : Str → Option Value) (s : Shared) (Q : Flow → Shared → Prop) (E : Value → Shared → Prop) (rest : List (Addr × Obj)),
    Below A₀ base [] base → Fr base L s.heap m → (hd.heap_39 w.params).In base → Top hd.view_39 loose mean mg mb base → News base L s.heap rest →m (Str.ofString "told") = some (.none) →m (Str.ofString "due") = some (.none) → (∀ h' tk', Fr base L h' m → News base L h' rest → Q .next { s with heap := h', toks := tk' }) →
    wpAny (model PySem.Challenge.rw_pf0248_01.row.prog w) (ktrTop 302 7 (some []) (Str.ofString "law") lawScope L a ccd [] []) (exec (tn 11) (envX (Str.ofString "law") lawScope L a ccd [])) Q E s := by
  k_fill
  w_top off
  intro w loose mean mg mb a ccd A₀ base L m s Q E rest B F X T N h1 h2 ret
  have eS := (rfl : lawScope = lawScope)
  conv at eS => rhs; whnf
  rw [eS]
  clear eS
  have eT := (rfl : tn 11 = tn 11)
  conv at eT => rhs; whnf
  rw [eT]
  clear eT
  k_steps
  exact ret _ _ F N

theorem st11i : ∀ (w : World) (loose : List Str) (mean : ExcName → Option Value) (mg mb : Str → Option Value) (a : Addr) (ccd : Value) (A₀ : Around) (base : Heap) (L : Addr) (m : Str → Option Value) (s : Shared) (Q : Flow → Shared → Prop) (E : Value → Shared → Prop) (rest : List (Addr × Obj)) (d : Int) (ta tb : Tok),
    Below A₀ base [] base → Fr base L s.heap m → (hd.heap_39 w.params).In base → Top hd.view_39 loose mean mg mb base → News base L s.heap rest →m (Str.ofString "told") = some (.int d ta) →m (Str.ofString "due") = some (.int d tb) →0 ≤ d → d < 4611686018427387904 → (∀ h' tk', Fr base L h' m → News base L h' rest → Q .next { s with heap := h', toks := tk' }) →
    wpC (model PySem.Challenge.rw_pf0248_01.row.prog w) (ktrTop 302 7 (some []) (Str.ofString "law") lawScope L a ccd [] []) (exec (tn 11) (envX (Str.ofString "law") lawScope L a ccd [])) Q E s := by
  k_fill
  w_top off
  intro w loose mean mg mb a ccd A₀ base L m s Q E rest d ta tb B F X T N h1 h2 hd0 hd1 ret
  have eS := (rfl : lawScope = lawScope)
  conv at eS => rhs; whnf
  rw [eS]
  clear eS
  have eT := (rfl : tn 11 = tn 11)
  conv at eT => rhs; whnf
  rw [eT]
  clear eT
  refine wpC_If (wpC_isTrue_BoolOp (wpC_allTrue_Or_cons (wpC_any ?_)))
  k_steps
  · exact absurd rfl (by assumption)
  refine wpC_allTrue_Or_cons (wpC_isTrue_BoolOp (wpC_allTrue_And_cons (wpC_any ?_)))
  k_steps
  refine wpC_allTrue_And_cons (wpC_isTrue_Compare1 (evalC_call_K (f := .ref 90) ?_))
  k_steps
  refine wpC_spliced2 (evalC_call_K (f := .ref 83) ?_)
  k_steps
  refine wpC_any ?_
  k_steps
  · exact keeps_K (K := hd.heap_39 w.params) (by k_is) _ (X.keeps (Fr.keep (by k_asm)))
  refine put_varint_call w loose mean mg mb 302 7 (some []) _ _ a ccd [] A₀ base base L m _ _ _ rest d ta _ B (by k_asm) X (by k_asm) T rfl hd0 hd1 (by decide) (by decide) ?_
  intro tb h' tk' F' N'
  k_steps
  · exact keeps_K (K := hd.heap_39 w.params) (by k_is) _ (X.keeps (Fr.keep (by k_asm)))
  refine wpC_any ?_
  refine get_varint_call w loose mean mg mb 302 7 (some []) _ _ a ccd [] A₀ base base L m _ _ _ rest (upto (13835058055282163712 + d) 8) _ _ _ B (by k_asm) X (by k_asm) T rfl rfl (by rw [ints_upto]; rfl) (head_upto hd0 hd1) (by decide) (by decide) ?_
  intro TT u1 u2 h'' tk'' F'' N''
  rw [told_back hd0 hd1] at N''
  k_steps
  rename News base L _ _ => N9
  rename Fr base L _ _ => F9
  refine wpC_allTrue_Or_nil ?_
  rw [if_neg (by decide)]
  exact wpC_any (wpAny_execs_nil (ret _ _ F9 fun p hp => N9 p (.tail _ (.tail _ hp))))

end Mine

namespace Mine
open PySem.Calls
local macro_rules | `(tactic| walk_at "eval Name") => `(tactic| (k_here; k_dflt (refine' ld ?k1 ?k2 ?_; (case k1 => k_asm); (case k2 => first | rfl | assumption | (with_unfolding_all assumption)); k_whole)))
local macro_rules | `(tactic| walk_at "call ref") => `(tactic| (k_here; (with_reducible show wpAny _ _ (call (Value.ref 153) [Value.ref _, Value.int _ _]) _ _ _); k_dflt (refine' pick_call _ _ _ _ _ _ _ _ _ _ _ _ _ _ _ _ _ _ _ _ _ _ _ _ _ _ _ _ _ _ _ _ _ _  ?kB ?kF ?kX ?kN ?ko ?kn ?kT ?kk ?kI ?k0 ?k1 ?k2 ?k3 ?k4 ?k5 ?k6 ?kd ?ku ?_; (case kB => k_asm); (case kF => k_asm); (case kX => k_asm); (case kN => k_asm); (case ko => exact Apart.offPick (by assumption)); (case kn => exact Apart.a1 (by assumption)); (case kT => k_asm); (case kk => rfl); (case kI => k_asm); (case k0 => omega); (case k1 => omega); (case k2 => omega); (case k3 => omega); (case k4 => omega); (case k5 => omega); (case k6 => omega); (case kd => ktr_room); (case ku => ktr_units); k_whole); intro r' t' tq' n' h' tk' hr0' hr1' F' N'; (try dsimp only)))
local macro_rules | `(tactic| walk_at "call ref") => `(tactic| (k_here; (with_reducible show wpAny _ _ (call (Value.ref 132) [Value.ref _, Value.int _ _]) _ _ _); k_dflt (refine' lost_call _ _ _ _ _ _ _ _ _ _ _ _ _ _ _ _ _ _ _ _ _ _ _ _ _ _ _ _ _ _ _ _ _ _ _ _ _ _ _ _ _ _ _ _ _  ?kB ?kF ?kX ?kN ?ko ?kn ?kT ?kk ?kd ?ku ?_; (case kB => k_asm); (case kF => k_asm); (case kX => k_asm); (case kN => exact rotWin (by k_asm)); (case ko => exact Apart.offWin (by assumption)); (case kn => exact Apart.a8 (by assumption)); (case kT => k_asm); (case kk => rfl); (case kd => ktr_room); (case ku => ktr_units); k_whole); intro h' tk' F' N'; (try dsimp only); (replace N' := rotPen N')))
theorem ite_beq (a b : Int) : (if a = b then true else false) = (a == b) := by by_cases h : a = b <;> simp [h]
theorem st14 : ∀ (w : World) (loose : List Str) (mean : ExcName → Option Value) (mg mb : Str → Option Value) (a : Addr) (ccd : Value) (A₀ : Around) (base : Heap) (L : Addr) (m : Str → Option Value) (s : Shared) (Q : Flow → Shared → Prop) (E : Value → Shared → Prop) (rest : List (Addr × Obj)) (pn lq wn dx en : Addr) (vs : List Value) (xs : List Int) (c q : Int) (tc tq : Tok) (n1 n2 n3 : Nat) (H1 H2 H3 H4 H5 : Int) (k1 k2 k3 k4 k5 : Tok) (size limit got used : Int) (t1 t2 t3 t4 : Tok) (es : List Value) (ns : List Int) (tl : Tok),
    Below A₀ base [] base → Fr base L s.heap m → (hd.heap_39 w.params).In base → Top hd.view_39 loose mean mg mb base → News base L s.heap ((pn, penO lq (c) q tc tq n1) :: (lq, listOf vs.toArray n2) :: (wn, instObj 135 dx) :: (dx, winD H1 H2 H3 H4 H5 k1 k2 k3 k4 k5 size (limit) (got) (used) t1 t2 t3 t4 false 5) :: (en, listOf (List.toArray es) n3) :: rest) → Apart pn lq wn dx en rest → IntsAre vs xs → xs.length ≤ 63 → 0 ≤ c → c ≤ 900 → 0 ≤ q → q < 997 → m (Str.ofString "pen") = some (.ref pn) →IntsAre es ns → 1 ≤ ns.length → ns.length ≤ 60 →m (Str.ofString "window") = some (.ref wn) →m (Str.ofString "every") = some (.ref en) →m (Str.ofString "limit") = some (.int limit tl) →m (Str.ofString "owes") = some (.bool false) → (∀ m' b c' tc' n1' h' tk', c < c' → c' ≤ c + 2 → (∀ y, y ≠ Str.ofString "lost" → y ≠ Str.ofString "owes" → m' y = m y) → m' (Str.ofString "owes") = some (.bool b) → Fr base L h' m' → News base L h' ((pn, penO lq (c') q tc' tq n1') :: (lq, listOf vs.toArray n2) :: (wn, instObj 135 dx) :: (dx, winD H1 H2 H3 H4 H5 k1 k2 k3 k4 k5 size (limit) (got) (used) t1 t2 t3 t4 (b) 5) :: (en, listOf (List.toArray es) n3) :: rest) → Q .next { s with heap := h', toks := tk' }) →
    wpAny (model PySem.Challenge.rw_pf0248_01.row.prog w) (ktrTop 302 7 (some []) (Str.ofString "law") lawScope L a ccd [] []) (exec (tn 14) (envX (Str.ofString "law") lawScope L a ccd [])) Q E s := by
  k_fill
  w_top off
  intro w loose mean mg mb a ccd A₀ base L m s Q E rest pn lq wn dx en vs xs c q tc tq n1 n2 n3 H1 H2 H3 H4 H5 k1 k2 k3 k4 k5 size limit got used t1 t2 t3 t4 es ns tl B F X T N ap hI hlen hc0 hc1 hq0 hq1 hpen hE hk0 hk1 h1 h2 h3 h4 ret
  have eS := (rfl : lawScope = lawScope)
  conv at eS => rhs; whnf
  rw [eS]
  clear eS
  have eT := (rfl : tn 14 = tn 14)
  conv at eT => rhs; whnf
  rw [eT]
  clear eT
  k_steps
  · rename News base L _ _ => N9
    rename Fr base L _ _ => F9
    rw [ite_beq] at N9
    exact ret _ _ _ _ _ _ _ (by omega) (by omega) (fun y g1 g2 => by simp only [if_neg g1, if_neg g2]) rfl F9 N9
  · rename News base L _ _ => N9
    rename Fr base L _ _ => F9
    exact ret m false _ _ _ _ _ (by omega) (by omega) (fun _ _ _ => rfl) h4 F9 N9

end Mine

namespace Mine
open PySem.Calls
theorem turn_list : turnBody = [tn 0, tn 1, tn 2, tn 3, tn 4, tn 5, tn 6, tn 7, tn 8, tn 9, tn 10, tn 11, tn 12, tn 13, tn 14, tn 15] := rfl
theorem tail_C : ∀ (w : World) (loose : List Str) (mean : ExcName → Option Value) (mg mb : Str → Option Value) (a : Addr) (ccd : Value) (A₀ : Around) (base : Heap) (L : Addr) (m : Str → Option Value) (s : Shared) (Q : Flow → Shared → Prop) (E : Value → Shared → Prop) (rest : List (Addr × Obj)) (pn lq wn dx en : Addr) (vs : List Value) (xs : List Int) (c q : Int) (tc tq : Tok) (n1 n2 n3 : Nat) (H1 H2 H3 H4 H5 : Int) (k1 k2 k3 k4 k5 : Tok) (size limit got used : Int) (t1 t2 t3 t4 : Tok) (es : List Value) (ns : List Int) (tl tg tr : Tok),
    Below A₀ base [] base → Fr base L s.heap m → (hd.heap_39 w.params).In base → Top hd.view_39 loose mean mg mb base → News base L s.heap ((pn, penO lq (c) q tc tq n1) :: (lq, listOf vs.toArray n2) :: (wn, instObj 135 dx) :: (dx, winD H1 H2 H3 H4 H5 k1 k2 k3 k4 k5 size (limit) (got) (used) t1 t2 t3 t4 false 5) :: (en, listOf (List.toArray es) n3) :: rest) → Apart pn lq wn dx en rest → IntsAre vs xs → xs.length ≤ 63 → 0 ≤ c → c ≤ 900 → 0 ≤ q → q < 997 → m (Str.ofString "pen") = some (.ref pn) → IntsAre es ns → 1 ≤ ns.length → ns.length ≤ 60 → m (Str.ofString "window") = some (.ref wn) →m (Str.ofString "every") = some (.ref en) →m (Str.ofString "limit") = some (.int limit tl) →m (Str.ofString "got") = some (.int got tg) →m (Str.ofString "read") = some (.int used tr) → m (Str.ofString "owes") = some (.bool false) →
    (∀ m' b c' tc' n1' h' tk', c < c' → c' ≤ c + 2 → (∀ y, y ≠ Str.ofString "lost" → y ≠ Str.ofString "owes" → m' y = m y) → m' (Str.ofString "owes") = some (.bool b) → Fr base L h' m' → News base L h' ((pn, penO lq (c') q tc' tq n1') :: (lq, listOf vs.toArray n2) :: (wn, instObj 135 dx) :: (dx, winD H1 H2 H3 H4 H5 k1 k2 k3 k4 k5 size (limit) (got) (used) t1 t2 t3 t4 (b) 5) :: (en, listOf (List.toArray es) n3) :: rest) → Q .next { s with heap := h', toks := tk' }) →
    wpC (model PySem.Challenge.rw_pf0248_01.row.prog w) (ktrTop 302 7 (some []) (Str.ofString "law") lawScope L a ccd [] []) (execs ([tn 14, tn 15]) (envX (Str.ofString "law") lawScope L a ccd [])) Q E s := by
  intro w loose mean mg mb a ccd A₀ base L m s Q E rest pn lq wn dx en vs xs c q tc tq n1 n2 n3 H1 H2 H3 H4 H5 k1 k2 k3 k4 k5 size limit got used t1 t2 t3 t4 es ns tl tg tr B F X T N ap hI hlen hc0 hc1 hq0 hq1 hpen hE hk0 hk1 h1 h2 h4 h5 h6 h7 ret
  refine wpC_execs_cons (wpC_any (st14 w loose mean mg mb a ccd A₀ base L m s _ _ rest pn lq wn dx en vs xs c q tc tq n1 n2 n3 H1 H2 H3 H4 H5 k1 k2 k3 k4 k5 size limit got used t1 t2 t3 t4 es ns tl B F X T N ap hI hlen hc0 hc1 hq0 hq1 hpen hE hk0 hk1 h1 h2 h4 h7 ?_))
  intro m' b c' tc' n1' h' tk' hcc hcc2 hag how F' N'
  show wpC _ _ _ _ _ _
  refine wpC_execs_cons (wpC_any (st15 w loose mean mg mb a ccd A₀ base L m' _ _ _ _ wn dx H1 H2 H3 H4 H5 k1 k2 k3 k4 k5 size limit got used t1 t2 t3 t4 b tl tg tr B F' X T (rotWin N') ap.offWin ap.a8 ((hag _ (by decide) (by decide)).trans h1) ((hag _ (by decide) (by decide)).trans h4) ((hag _ (by decide) (by decide)).trans h5) ((hag _ (by decide) (by decide)).trans h6) ?_))
  intro h'' tk'' F'' N''
  show wpC _ _ _ _ _ _
  exact wpC_any (wpAny_execs_nil (ret m' b c' tc' n1' h'' tk'' hcc hcc2 hag how F'' (rotPen N'')))
theorem none_C : ∀ (w : World) (loose : List Str) (mean : ExcName → Option Value) (mg mb : Str → Option Value) (a : Addr) (ccd : Value) (A₀ : Around) (base : Heap) (L : Addr) (m : Str → Option Value) (s : Shared) (Q : Flow → Shared → Prop) (E : Value → Shared → Prop) (rest : List (Addr × Obj)) (pn lq wn dx en : Addr) (vs : List Value) (xs : List Int) (c q : Int) (tc tq : Tok) (n1 n2 n3 : Nat) (H1 H2 H3 H4 H5 : Int) (k1 k2 k3 k4 k5 : Tok) (size limit got used : Int) (t1 t2 t3 t4 : Tok) (es : List Value) (ns : List Int) (ts tl tg tr : Tok),
    Below A₀ base [] base → Fr base L s.heap m → (hd.heap_39 w.params).In base → Top hd.view_39 loose mean mg mb base → News base L s.heap ((pn, penO lq (c) q tc tq n1) :: (lq, listOf vs.toArray n2) :: (wn, instObj 135 dx) :: (dx, winD H1 H2 H3 H4 H5 k1 k2 k3 k4 k5 size (limit) (got) (used) t1 t2 t3 t4 false 5) :: (en, listOf (List.toArray es) n3) :: rest) → Apart pn lq wn dx en rest → IntsAre vs xs → xs.length ≤ 63 → 0 ≤ c → c ≤ 900 → 0 ≤ q → q < 997 → m (Str.ofString "pen") = some (.ref pn) → IntsAre es ns → 1 ≤ ns.length → ns.length ≤ 50 → 0 ≤ used → used ≤ got → got ≤ limit → limit ≤ 4611686018427387903 → m (Str.ofString "window") = some (.ref wn) →m (Str.ofString "every") = some (.ref en) →m (Str.ofString "size") = some (.int size ts) →m (Str.ofString "limit") = some (.int limit tl) →m (Str.ofString "got") = some (.int got tg) →m (Str.ofString "read") = some (.int used tr) → m (Str.ofString "told") = some (.none) → m (Str.ofString "due") = some (.none) →
    (∀ m' en' c' tc' n1' n3' limit' got' used' t2' t3' t4' b es' ns' tl' tg' tr' h' tk', c ≤ c' → c' ≤ c + 2 → IntsAre es' ns' → 1 ≤ ns'.length → ns'.length ≤ ns.length + 1 → 0 ≤ used' → used' ≤ got' → got' ≤ limit' → limit' ≤ 4611686018427387903 → Apart pn lq wn dx en' rest → m' (Str.ofString "pen") = some (.ref pn) → m' (Str.ofString "window") = some (.ref wn) → m' (Str.ofString "every") = some (.ref en') → m' (Str.ofString "size") = some (.int size ts) → m' (Str.ofString "limit") = some (.int limit' tl') → m' (Str.ofString "got") = some (.int got' tg') → m' (Str.ofString "read") = some (.int used' tr') → m' (Str.ofString "owes") = some (.bool b) → Fr base L h' m' → News base L h' ((pn, penO lq c' q tc' tq n1') :: (lq, listOf vs.toArray n2) :: (wn, instObj 135 dx) :: (dx, winD H1 H2 H3 H4 H5 k1 k2 k3 k4 k5 size limit' got' used' t1 t2' t3' t4' b 5) :: (en', listOf (List.toArray es') n3') :: rest) → Q .next { s with heap := h', toks := tk' }) → wpC (model PySem.Challenge.rw_pf0248_01.row.prog w) (ktrTop 302 7 (some []) (Str.ofString "law") lawScope L a ccd [] []) (execs ([tn 11, tn 12, tn 13, tn 14, tn 15]) (envX (Str.ofString "law") lawScope L a ccd [])) Q E s := by
  intro w loose mean mg mb a ccd A₀ base L m s Q E rest pn lq wn dx en vs xs c q tc tq n1 n2 n3 H1 H2 H3 H4 H5 k1 k2 k3 k4 k5 size limit got used t1 t2 t3 t4 es ns ts tl tg tr B F X T N ap hI hlen hc0 hc1 hq0 hq1 hpen hE hk0 hk1 f1 f2 f3 f4 h1 h2 h3 h4 h5 h6 h7 h8 ret
  refine wpC_execs_cons (wpC_any (st11n w loose mean mg mb a ccd A₀ base L m s _ _ _ B F X T N h7 h8 ?_))
  intro ha ka Fa Na
  show wpC _ _ _ _ _ _
  refine wpC_execs_cons (wpC_any (st12 w loose mean mg mb a ccd A₀ base L m _ _ _ _ B Fa X T Na ?_))
  intro hb kb Fb Nb
  show wpC _ _ _ _ _ _
  refine wpC_execs_cons (wpC_any (st13n w loose mean mg mb a ccd A₀ base L _ _ _ _ _ B Fb X T Nb h8 ?_))
  intro hc kc Fc Nc
  show wpC _ _ _ _ _ _
  refine tail_C w loose mean mg mb a ccd A₀ base L _ _ _ _ rest pn lq wn dx en vs xs c q tc tq n1 n2 n3 H1 H2 H3 H4 H5 k1 k2 k3 k4 k5 size limit got used t1 t2 t3 t4 es ns tl tg tr B Fc X T Nc ap hI hlen hc0 hc1 hq0 hq1 hpen hE hk0 (by omega) h1 h2 h4 h5 h6 rfl ?_
  intro m' b c' tc' n1' h' tk' hcc hcc2 hag how F' N'
  exact ret m' en c' tc' n1' n3 limit got used t2 t3 t4 b es ns tl tg tr h' tk' (by omega) (by omega) hE hk0 (by omega) f1 f2 f3 f4 ap ((hag _ (by decide) (by decide)).trans hpen) ((hag _ (by decide) (by decide)).trans h1) ((hag _ (by decide) (by decide)).trans h2) ((hag _ (by decide) (by decide)).trans h3) ((hag _ (by decide) (by decide)).trans h4) ((hag _ (by decide) (by decide)).trans h5) ((hag _ (by decide) (by decide)).trans h6) how F' N'
theorem int_C : ∀ (w : World) (loose : List Str) (mean : ExcName → Option Value) (mg mb : Str → Option Value) (a : Addr) (ccd : Value) (A₀ : Around) (base : Heap) (L : Addr) (m : Str → Option Value) (s : Shared) (Q : Flow → Shared → Prop) (E : Value → Shared → Prop) (rest : List (Addr × Obj)) (pn lq wn dx en : Addr) (vs : List Value) (xs : List Int) (c q : Int) (tc tq : Tok) (n1 n2 n3 : Nat) (H1 H2 H3 H4 H5 : Int) (k1 k2 k3 k4 k5 : Tok) (size limit got used : Int) (t1 t2 t3 t4 : Tok) (es : List Value) (ns : List Int) (ts tg tr ta tb : Tok),
    Below A₀ base [] base → Fr base L s.heap m → (hd.heap_39 w.params).In base → Top hd.view_39 loose mean mg mb base → News base L s.heap ((pn, penO lq (c) q tc tq n1) :: (lq, listOf vs.toArray n2) :: (wn, instObj 135 dx) :: (dx, winD H1 H2 H3 H4 H5 k1 k2 k3 k4 k5 size (limit) (got) (used) t1 t2 t3 t4 false 5) :: (en, listOf (List.toArray es) n3) :: rest) → Apart pn lq wn dx en rest → IntsAre vs xs → xs.length ≤ 63 → 0 ≤ c → c ≤ 900 → 0 ≤ q → q < 997 → m (Str.ofString "pen") = some (.ref pn) → IntsAre es ns → 1 ≤ ns.length → ns.length ≤ 50 → 0 ≤ used → used ≤ got → got ≤ limit → limit ≤ 4611686018427387903 → m (Str.ofString "window") = some (.ref wn) →m (Str.ofString "every") = some (.ref en) →m (Str.ofString "size") = some (.int size ts) →m (Str.ofString "got") = some (.int got tg) →m (Str.ofString "read") = some (.int used tr) → m (Str.ofString "told") = some (.int limit ta) → m (Str.ofString "due") = some (.int limit tb) → 0 ≤ limit →
    (∀ m' en' c' tc' n1' n3' limit' got' used' t2' t3' t4' b es' ns' tl' tg' tr' h' tk', c ≤ c' → c' ≤ c + 2 → IntsAre es' ns' → 1 ≤ ns'.length → ns'.length ≤ ns.length + 1 → 0 ≤ used' → used' ≤ got' → got' ≤ limit' → limit' ≤ 4611686018427387903 → Apart pn lq wn dx en' rest → m' (Str.ofString "pen") = some (.ref pn) → m' (Str.ofString "window") = some (.ref wn) → m' (Str.ofString "every") = some (.ref en') → m' (Str.ofString "size") = some (.int size ts) → m' (Str.ofString "limit") = some (.int limit' tl') → m' (Str.ofString "got") = some (.int got' tg') → m' (Str.ofString "read") = some (.int used' tr') → m' (Str.ofString "owes") = some (.bool b) → Fr base L h' m' → News base L h' ((pn, penO lq c' q tc' tq n1') :: (lq, listOf vs.toArray n2) :: (wn, instObj 135 dx) :: (dx, winD H1 H2 H3 H4 H5 k1 k2 k3 k4 k5 size limit' got' used' t1 t2' t3' t4' b 5) :: (en', listOf (List.toArray es') n3') :: rest) → Q .next { s with heap := h', toks := tk' }) → wpC (model PySem.Challenge.rw_pf0248_01.row.prog w) (ktrTop 302 7 (some []) (Str.ofString "law") lawScope L a ccd [] []) (execs ([tn 11, tn 12, tn 13, tn 14, tn 15]) (envX (Str.ofString "law") lawScope L a ccd [])) Q E s := by
  intro w loose mean mg mb a ccd A₀ base L m s Q E rest pn lq wn dx en vs xs c q tc tq n1 n2 n3 H1 H2 H3 H4 H5 k1 k2 k3 k4 k5 size limit got used t1 t2 t3 t4 es ns ts tg tr ta tb B F X T N ap hI hlen hc0 hc1 hq0 hq1 hpen hE hk0 hk1 f1 f2 f3 f4 h1 h2 h3 h5 h6 h7 h8 f5 ret
  refine wpC_execs_cons (st11i w loose mean mg mb a ccd A₀ base L m s _ _ _ limit ta tb B F X T N h7 h8 f5 (by omega) ?_)
  intro ha ka Fa Na
  show wpC _ _ _ _ _ _
  refine wpC_execs_cons (wpC_any (st12 w loose mean mg mb a ccd A₀ base L m _ _ _ _ B Fa X T Na ?_))
  intro hb kb Fb Nb
  show wpC _ _ _ _ _ _
  refine wpC_execs_cons (wpC_any (st13i w loose mean mg mb a ccd A₀ base L _ _ _ _ _ en es ns n3 limit tb B Fb X T (rotEvery Nb) hE (by omega) h8 h2 ?_))
  intro en' es' hc kc hE' hlt Fc Nc
  show wpC _ _ _ _ _ _
  have ap' : Apart pn lq wn dx en' rest := ap.every hlt.1 hlt.2.1 hlt.2.2.1 hlt.2.2.2.1 (allLt_all hlt.2.2.2.2)
  have hl' : (ns ++ [limit]).length = ns.length + 1 := by simp
  refine tail_C w loose mean mg mb a ccd A₀ base L _ _ _ _ rest pn lq wn dx en' vs xs c q tc tq n1 n2 0 H1 H2 H3 H4 H5 k1 k2 k3 k4 k5 size limit got used t1 t2 t3 t4 es' (ns ++ [limit]) tb tg tr B Fc X T (rotBack Nc) ap' hI hlen hc0 hc1 hq0 hq1 hpen hE' (by omega) (by omega) h1 rfl rfl h5 h6 rfl ?_
  intro m' b c' tc' n1' h' tk' hcc hcc2 hag how F' N'
  exact ret m' en' c' tc' n1' 0 limit got used t2 t3 t4 b es' (ns ++ [limit]) tb tg tr h' tk' (by omega) (by omega) hE' (by omega) (by omega) f1 f2 f3 f4 ap' ((hag _ (by decide) (by decide)).trans hpen) ((hag _ (by decide) (by decide)).trans h1) ((hag _ (by decide) (by decide)).trans rfl) ((hag _ (by decide) (by decide)).trans h3) ((hag _ (by decide) (by decide)).trans rfl) ((hag _ (by decide) (by decide)).trans h5) ((hag _ (by decide) (by decide)).trans h6) how F' N'
end Mine

namespace Mine
open PySem.Calls
theorem turn_C : ∀ (w : World) (loose : List Str) (mean : ExcName → Option Value) (mg mb : Str → Option Value) (a : Addr) (ccd : Value) (A₀ : Around) (base : Heap) (L : Addr) (m : Str → Option Value) (s : Shared) (Q : Flow → Shared → Prop) (E : Value → Shared → Prop) (rest : List (Addr × Obj)) (pn lq wn dx en : Addr) (vs : List Value) (xs : List Int) (c q : Int) (tc tq : Tok) (n1 n2 n3 : Nat) (H1 H2 H3 H4 H5 : Int) (k1 k2 k3 k4 k5 : Tok) (size limit got used : Int) (t1 t2 t3 t4 : Tok) (owes : Bool) (es : List Value) (ns : List Int) (ts tl tg tr : Tok),
    Below A₀ base [] base → Fr base L s.heap m → (hd.heap_39 w.params).In base → Top hd.view_39 loose mean mg mb base → News base L s.heap ((pn, penO lq (c) q tc tq n1) :: (lq, listOf vs.toArray n2) :: (wn, instObj 135 dx) :: (dx, winD H1 H2 H3 H4 H5 k1 k2 k3 k4 k5 size (limit) (got) (used) t1 t2 t3 t4 (owes) 5) :: (en, listOf (List.toArray es) n3) :: rest) → Apart pn lq wn dx en rest → IntsAre vs xs → xs.length ≤ 63 → 0 ≤ c → c ≤ 800 → 0 ≤ q → q < 997 → m (Str.ofString "pen") = some (.ref pn) → IntsAre es ns → 1 ≤ ns.length → ns.length ≤ 50 → 0 ≤ used → used ≤ got → got ≤ limit → limit ≤ 4611686018427387903 → m (Str.ofString "window") = some (.ref wn) →m (Str.ofString "every") = some (.ref en) →m (Str.ofString "size") = some (.int size ts) →m (Str.ofString "limit") = some (.int limit tl) →m (Str.ofString "got") = some (.int got tg) →m (Str.ofString "read") = some (.int used tr) → m (Str.ofString "owes") = some (.bool owes) →
    (∀ m' en' c' tc' n1' n3' limit' got' used' t2' t3' t4' b es' ns' tl' tg' tr' h' tk', c ≤ c' → c' ≤ c + 4 → IntsAre es' ns' → 1 ≤ ns'.length → ns'.length ≤ ns.length + 1 → 0 ≤ used' → used' ≤ got' → got' ≤ limit' → limit' ≤ 4611686018427387903 → Apart pn lq wn dx en' rest → m' (Str.ofString "pen") = some (.ref pn) → m' (Str.ofString "window") = some (.ref wn) → m' (Str.ofString "every") = some (.ref en') → m' (Str.ofString "size") = some (.int size ts) → m' (Str.ofString "limit") = some (.int limit' tl') → m' (Str.ofString "got") = some (.int got' tg') → m' (Str.ofString "read") = some (.int used' tr') → m' (Str.ofString "owes") = some (.bool b) → Fr base L h' m' → News base L h' ((pn, penO lq c' q tc' tq n1') :: (lq, listOf vs.toArray n2) :: (wn, instObj 135 dx) :: (dx, winD H1 H2 H3 H4 H5 k1 k2 k3 k4 k5 size limit' got' used' t1 t2' t3' t4' b 5) :: (en', listOf (List.toArray es') n3') :: rest) → Q .next { s with heap := h', toks := tk' }) → wpC (model PySem.Challenge.rw_pf0248_01.row.prog w) (ktrTop 302 7 (some []) (Str.ofString "law") lawScope L a ccd [] []) (execs (turnBody) (envX (Str.ofString "law") lawScope L a ccd [])) Q E s := by
  intro w loose mean mg mb a ccd A₀ base L m s Q E rest pn lq wn dx en vs xs c q tc tq n1 n2 n3 H1 H2 H3 H4 H5 k1 k2 k3 k4 k5 size limit got used t1 t2 t3 t4 owes es ns ts tl tg tr B F X T N ap hI hlen hc0 hc1 hq0 hq1 hpen hE hk0 hk1 f1 f2 f3 f4 h1 h2 h3 h4 h5 h6 h7 ret
  rw [turn_list]
  refine wpC_execs_cons (wpC_any (st0 w loose mean mg mb a ccd A₀ base L m s _ _ _ limit got tl tg B F X T N h4 h5 ?_))
  intro tm0 ha ka Fa Na
  show wpC _ _ _ _ _ _
  refine wpC_execs_cons (wpC_any (st1 w loose mean mg mb a ccd A₀ base L _ _ _ _ _ pn lq vs xs c q tc tq n1 n2 (limit - got) tm0 B Fa X T Na ap.offPick ap.a1 hI hlen hc0 (by omega) hq0 hq1 hpen rfl ?_))
  intro many tm tc1 n11 hb kb hmany Fb Nb
  show wpC _ _ _ _ _ _
  have hm0 : 0 ≤ many := by
    rw [Int.fdiv_eq_ediv_of_nonneg _ (by decide)] at hmany
    rcases hmany with h | h | h | h | h <;> omega
  refine wpC_execs_cons (wpC_any (st2 w loose mean mg mb a ccd A₀ base L _ _ _ _ _ wn dx H1 H2 H3 H4 H5 k1 k2 k3 k4 k5 size limit got used t1 t2 t3 t4 owes many (limit - got) tm tm0 B Fb X T (rotWin Nb) ap.offWin ap.a8 h1 rfl rfl rfl ?_))
  intro t31 hc kc Fc Nc
  show wpC _ _ _ _ _ _
  refine wpC_execs_cons (wpC_any (st3 w loose mean mg mb a ccd A₀ base L _ _ _ _ _ got many (limit - got) tg tm tm0 B Fc X T Nc h5 rfl rfl ?_))
  intro tg1 hd' kd Fd Nd
  show wpC _ _ _ _ _ _
  have hgg : (if got + many > limit then got else got + many) = (if many ≤ limit - got then got + many else got) := by
    split <;> split <;> omega
  rw [hgg] at Nd
  have hg1 : got ≤ (if many ≤ limit - got then got + many else got) ∧ (if many ≤ limit - got then got + many else got) ≤ limit := by
    split <;> omega
  generalize (if many ≤ limit - got then got + many else got) = got1 at Fd Nd hg1
  refine wpC_execs_cons (wpC_any (st4 w loose mean mg mb a ccd A₀ base L _ _ _ _ _ got1 used tg1 tr B Fd X T Nd rfl h6 ?_))
  intro tl4 he ke Fe Ne
  show wpC _ _ _ _ _ _
  refine wpC_execs_cons (wpC_any (st5 w loose mean mg mb a ccd A₀ base L _ _ _ _ _ pn lq vs xs (c + 1) q tc1 tq n11 n2 (got1 - used) tl4 B Fe X T (rotPen Ne) ap.offPick ap.a1 hI hlen (by omega) (by omega) hq0 hq1 hpen rfl ?_))
  intro less tls tc2 n12 hf kf hless Ff Nf
  show wpC _ _ _ _ _ _
  have hl0 : 0 ≤ less ∧ less ≤ got1 - used := by
    rw [Int.fdiv_eq_ediv_of_nonneg _ (by decide)] at hless
    rcases hless with h | h | h <;> omega
  refine wpC_execs_cons (wpC_any (st6 w loose mean mg mb a ccd A₀ base L _ _ _ _ _ wn dx H1 H2 H3 H4 H5 k1 k2 k3 k4 k5 size limit got1 used t1 t2 t31 t4 owes less tls B Ff X T (rotWin Nf) ap.offWin ap.a8 h1 rfl ?_))
  intro t41 hg kg Fg Ng
  show wpC _ _ _ _ _ _
  refine wpC_execs_cons (wpC_any (st7 w loose mean mg mb a ccd A₀ base L _ _ _ _ _ used less tr tls B Fg X T Ng h6 rfl ?_))
  intro tr1 hh kh Fh Nh
  show wpC _ _ _ _ _ _
  have hu1 : 0 ≤ used + less ∧ used + less ≤ got1 := by omega
  generalize used + less = used1 at Fh Nh hu1
  refine wpC_execs_cons (wpC_any (st8 w loose mean mg mb a ccd A₀ base L _ _ _ _ _ limit used1 size tl tr1 ts B Fh X T Nh h4 rfl h3 ?_))
  intro hi ki Fi Ni
  show wpC _ _ _ _ _ _
  refine wpC_execs_cons (wpC_any (st9 w loose mean mg mb a ccd A₀ base L _ _ _ _ _ limit used1 size (decide (2 * (limit - used1) < size ∧ limit ≠ 4611686018427387903)) owes tl tr1 ts B Fi X T Ni h4 rfl h3 rfl h7 ?_ ?_ ?_))
  · intro hlow tdue hj kj Fj Nj
    have hlow := of_decide_eq_true hlow
    show wpC _ _ _ _ _ _
    refine wpC_execs_cons (wpC_any (st10 w loose mean mg mb a ccd A₀ base L _ _ _ _ _ wn dx H1 H2 H3 H4 H5 k1 k2 k3 k4 k5 size limit got1 used1 t1 t2 t31 t41 owes B Fj X T Nj ap.offWin ap.a8 h1 ?_ ?_ ?_))
    · intro _ hnl
      exact absurd ⟨hlow.1, by omega⟩ hnl
    · intro _ hnl
      exact absurd ⟨hlow.1, by omega⟩ hnl
    · intro _ tt hk kk Fk Nk
      show wpC _ _ _ _ _ _
      refine int_C w loose mean mg mb a ccd A₀ base L _ _ _ _ rest pn lq wn dx en vs xs (c + 1 + 1) q tc2 tq n12 n2 n3 H1 H2 H3 H4 H5 k1 k2 k3 k4 k5 size (min (used1 + size) 4611686018427387903) got1 used1 t1 tt t31 t41 es ns ts tg1 tr1 tt tdue B Fk X T (rotPen Nk) ap hI hlen (by omega) (by omega) hq0 hq1 hpen hE hk0 hk1 hu1.1 hu1.2 (by omega) (by omega) h1 h2 h3 rfl rfl rfl rfl (by omega) ?_
      intro m' en' c' tc' n1' n3' limit' got' used' t2' t3' t4' b es' ns' tl' tg' tr' h' tk' g1 g2
      exact ret m' en' c' tc' n1' n3' limit' got' used' t2' t3' t4' b es' ns' tl' tg' tr' h' tk' (by omega) (by omega)
  · intro hlow how hj kj Fj Nj
    have hlow := of_decide_eq_false hlow
    show wpC _ _ _ _ _ _
    refine wpC_execs_cons (wpC_any (st10 w loose mean mg mb a ccd A₀ base L _ _ _ _ _ wn dx H1 H2 H3 H4 H5 k1 k2 k3 k4 k5 size limit got1 used1 t1 t2 t31 t41 owes B Fj X T Nj ap.offWin ap.a8 h1 ?_ ?_ ?_))
    · intro ho _
      rw [how] at ho
      cases ho
    · intro _ _ hk kk Fk Nk
      show wpC _ _ _ _ _ _
      refine int_C w loose mean mg mb a ccd A₀ base L _ _ _ _ rest pn lq wn dx en vs xs (c + 1 + 1) q tc2 tq n12 n2 n3 H1 H2 H3 H4 H5 k1 k2 k3 k4 k5 size limit got1 used1 t1 t2 t31 t41 es ns ts tg1 tr1 t2 tl B Fk X T (rotPen Nk) ap hI hlen (by omega) (by omega) hq0 hq1 hpen hE hk0 hk1 hu1.1 hu1.2 hg1.2 f4 h1 h2 h3 rfl rfl rfl rfl (by omega) ?_
      intro m' en' c' tc' n1' n3' limit' got' used' t2' t3' t4' b es' ns' tl' tg' tr' h' tk' g1 g2
      exact ret m' en' c' tc' n1' n3' limit' got' used' t2' t3' t4' b es' ns' tl' tg' tr' h' tk' (by omega) (by omega)
    · intro hl
      exact absurd ⟨hl.1, by omega⟩ hlow
  · intro hlow how hj kj Fj Nj
    have hlow := of_decide_eq_false hlow
    subst how
    show wpC _ _ _ _ _ _
    refine wpC_execs_cons (wpC_any (st10 w loose mean mg mb a ccd A₀ base L _ _ _ _ _ wn dx H1 H2 H3 H4 H5 k1 k2 k3 k4 k5 size limit got1 used1 t1 t2 t31 t41 false B Fj X T Nj ap.offWin ap.a8 h1 ?_ ?_ ?_))
    · intro _ _ hk kk Fk Nk
      show wpC _ _ _ _ _ _
      refine none_C w loose mean mg mb a ccd A₀ base L _ _ _ _ rest pn lq wn dx en vs xs (c + 1 + 1) q tc2 tq n12 n2 n3 H1 H2 H3 H4 H5 k1 k2 k3 k4 k5 size limit got1 used1 t1 t2 t31 t41 es ns ts tl tg1 tr1 B Fk X T (rotPen Nk) ap hI hlen (by omega) (by omega) hq0 hq1 hpen hE hk0 hk1 hu1.1 hu1.2 hg1.2 f4 h1 h2 h3 h4 rfl rfl rfl rfl ?_
      intro m' en' c' tc' n1' n3' limit' got' used' t2' t3' t4' b es' ns' tl' tg' tr' h' tk' g1 g2
      exact ret m' en' c' tc' n1' n3' limit' got' used' t2' t3' t4' b es' ns' tl' tg' tr' h' tk' (by omega) (by omega)
    · intro ho
      cases ho
    · intro hl
      exact absurd ⟨hl.1, by omega⟩ hlow
end Mine

namespace Mine
local macro_rules | `(tactic| walk_at "no such place") => `(tactic| skip)
open PySem.Calls
local macro_rules | `(tactic| walk_at "eval Name") => `(tactic| (k_here; k_dflt (refine' ld ?k1 ?k2 ?_; (case k1 => k_asm); (case k2 => first | rfl | assumption | (with_unfolding_all assumption)); k_whole)))
local macro_rules | `(tactic| walk_at "call ref") => `(tactic| (k_here; (with_reducible show wpAny _ _ (call (Value.ref 153) [Value.ref _, Value.int _ _]) _ _ _); k_dflt (refine' pick_head _ _ _ _ _ _ _ _ _ _ _ _ _ _ _ _ _ _ _ _ _ _ _ _ _ _ _ _ _ _ _ _ _ _ _ _ ?kB ?kF ?kX ?kN ?ko ?kl ?km ?kn ?kT ?kk ?kI ?k0 ?k1 ?k2 ?k3 ?k4 ?k5 ?k6 ?kd ?ku ?_; (case kB => k_asm); (case kF => k_asm); (case kX => k_asm); (case kN => k_asm); (case ko => k_asm); (case kl => first | assumption | exact And.left (by assumption)); (case km => first | assumption | exact And.left (And.right (by assumption))); (case kn => k_asm); (case kT => k_asm); (case kk => rfl); (case kI => k_asm); (case k0 => omega); (case k1 => omega); (case k2 => omega); (case k3 => omega); (case k4 => omega); (case k5 => omega); (case k6 => omega); (case kd => ktr_room); (case ku => ktr_units); k_whole); intro r' t' tq' n' h' tk' hr0' hr1' F' N'; (try dsimp only)))
local macro_rules | `(tactic| walk_at "call ref") => `(tactic| (k_here; (with_reducible show wpAny _ _ (call (Value.ref 153) [Value.ref _, Value.int _ _]) _ _ _); k_dflt (refine' pick_call _ _ _ _ _ _ _ _ _ _ _ _ _ _ _ _ _ _ _ _ _ _ _ _ _ _ _ _ _ _ _ _ _ _ ?kB ?kF ?kX ?kN ?ko ?kn ?kT ?kk ?kI ?k0 ?k1 ?k2 ?k3 ?k4 ?k5 ?k6 ?kd ?ku ?_; (case kB => k_asm); (case kF => k_asm); (case kX => k_asm); (case kN => k_asm); (case ko => k_asm); (case kn => k_asm); (case kT => k_asm); (case kk => rfl); (case kI => k_asm); (case k0 => omega); (case k1 => omega); (case k2 => omega); (case k3 => omega); (case k4 => omega); (case k5 => omega); (case k6 => omega); (case kd => ktr_room); (case ku => ktr_units); k_whole); intro r' t' tq' n' h' tk' hr0' hr1' F' N'; (try dsimp only)))
theorem newsDrop {h₀ h : Heap} {L : Addr} {a b c d : Addr × Obj} {r : List (Addr × Obj)} (N : News h₀ L h (a :: b :: c :: d :: r)) : News h₀ L h (a :: c :: r) := fun p hp => N p (by
  rcases List.mem_cons.mp hp with rfl | hp
  · exact .head _
  rcases List.mem_cons.mp hp with rfl | hp
  · exact .tail _ (.tail _ (.head _))
  · exact .tail _ (.tail _ (.tail _ (.tail _ hp))))
theorem newsTail {h₀ h : Heap} {L : Addr} {a : Addr × Obj} {r : List (Addr × Obj)} (N : News h₀ L h (a :: r)) : News h₀ L h r := fun p hp => N p (.tail _ hp)
theorem pl0 : ∀ (w : World) (loose : List Str) (mean : ExcName → Option Value) (mg mb : Str → Option Value) (a : Addr) (ccd : Value) (A₀ : Around) (base : Heap) (L : Addr) (m : Str → Option Value) (s : Shared) (Q : Flow → Shared → Prop) (E : Value → Shared → Prop) (rest : List (Addr × Obj)) (l : Addr) (vs : List Value) (ns : List Int),
    Below A₀ base [] base → Fr base L s.heap m → (hd.heap_39 w.params).In base → Top hd.view_39 loose mean mg mb base → News base L s.heap rest →base.IsList l vs.toArray → IntsAre vs ns → ns.length ≤ 63 →m (Str.ofString "script") = some (.ref l) → (∀ pn lq q tc tq n1 n2 vs2 ns2 h' tk', 0 ≤ q → q < 997 → IntsAre vs2 ns2 → ns2.length ≤ 63 → AllLt pn rest → AllLt lq rest → lq < pn → Fr base L h' (fun y => if y = Str.ofString "pen" then some (.ref pn) else m y) → News base L h' ((pn, penO lq 0 q tc tq n1) :: (lq, listOf (List.toArray vs2) n2) :: rest) → Q .next { s with heap := h', toks := tk' }) →
    wpAny (model PySem.Challenge.rw_pf0248_01.row.prog w) (ktrTop 302 7 (some []) (Str.ofString "law") lawScope L a ccd [] []) (exec (ln 0) (envX (Str.ofString "law") lawScope L a ccd [])) Q E s := by
  k_fill
  w_top off
  intro w loose mean mg mb a ccd A₀ base L m s Q E rest l vs ns B F X T N hL hI hlen h1 ret
  have eS := (rfl : lawScope = lawScope)
  conv at eS => rhs; whnf
  rw [eS]
  clear eS
  have eT := (rfl : ln 0 = ln 0)
  conv at eT => rhs; whnf
  rw [eT]
  clear eT
  k_steps
  rename News base L _ _ => N9
  rename Fr base L _ _ => F9
  have hlt := List.length_take_le 40 ns
  refine ret _ _ _ _ _ _ _ _ _ _ _ ?_ ?_ (by assumption) (by omega) ?_ ?_ ?_ F9 (newsDrop N9)
  · rw [Int.fmod_eq_emod_of_nonneg _ (by decide)]; exact Int.emod_nonneg _ (by decide)
  · rw [Int.fmod_eq_emod_of_nonneg _ (by decide)]; exact Int.emod_lt_of_pos _ (by decide)
  · exact And.right (And.right (And.right (by assumption)))
  · exact And.right (by assumption)
  · exact And.left (And.right (by assumption))

theorem pl2 : ∀ (w : World) (loose : List Str) (mean : ExcName → Option Value) (mg mb : Str → Option Value) (a : Addr) (ccd : Value) (A₀ : Around) (base : Heap) (L : Addr) (m : Str → Option Value) (s : Shared) (Q : Flow → Shared → Prop) (E : Value → Shared → Prop) (rest : List (Addr × Obj)) (way more : Int) (tw tm : Tok),
    Below A₀ base [] base → Fr base L s.heap m → (hd.heap_39 w.params).In base → Top hd.view_39 loose mean mg mb base → News base L s.heap rest →m (Str.ofString "way") = some (.int way tw) →m (Str.ofString "more") = some (.int more tm) →0 ≤ way → way < 5 → 0 ≤ more → more < 40 → (∀ z t h' tk', 1 ≤ z → z ≤ 4611686018427387903 → (way = 4 → z ≤ 40) → Fr base L h' (fun y => if y = Str.ofString "size" then some (.int z t) else m y) → News base L h' rest → Q .next { s with heap := h', toks := tk' }) →
    wpAny (model PySem.Challenge.rw_pf0248_01.row.prog w) (ktrTop 302 7 (some []) (Str.ofString "law") lawScope L a ccd [] []) (exec (ln 2) (envX (Str.ofString "law") lawScope L a ccd [])) Q E s := by
  k_fill
  w_top off
  intro w loose mean mg mb a ccd A₀ base L m s Q E rest way more tw tm B F X T N h1 h2 f1 f2 f3 f4 ret
  have eS := (rfl : lawScope = lawScope)
  conv at eS => rhs; whnf
  rw [eS]
  clear eS
  have eT := (rfl : ln 2 = ln 2)
  conv at eT => rhs; whnf
  rw [eT]
  clear eT
  have hw : way = 0 ∨ way = 1 ∨ way = 2 ∨ way = 3 ∨ way = 4 := by omega
  have key : ∀ a b c d e : Int, [a, b, c, d, e].getD way.toNat 0 = if way = 0 then a else if way = 1 then b else if way = 2 then c else if way = 3 then d else e := by
    intro a b c d e
    rcases hw with h | h | h | h | h <;> rw [h] <;> rfl
  have e62 : ((2 : Int) ^ Int.toNat 62) = 4611686018427387904 := rfl
  have e61 : ((2 : Int) ^ Int.toNat 61) = 2305843009213693952 := rfl
  have e60 : ((2 : Int) ^ Int.toNat 60) = 1152921504606846976 := rfl
  k_steps
  rename News base L _ _ => N9
  rename Fr base L _ _ => F9
  rw [key, e62, e61, e60] at F9
  refine ret _ _ _ _ ?_ ?_ ?_ F9 (newsTail N9)
  · (repeat' split) <;> omega
  · (repeat' split) <;> omega
  · intro h4
    rw [if_neg (by omega), if_neg (by omega), if_neg (by omega), if_neg (by omega)]
    omega

theorem pl4 : ∀ (w : World) (loose : List Str) (mean : ExcName → Option Value) (mg mb : Str → Option Value) (a : Addr) (ccd : Value) (A₀ : Around) (base : Heap) (L : Addr) (m : Str → Option Value) (s : Shared) (Q : Flow → Shared → Prop) (E : Value → Shared → Prop) (rest : List (Addr × Obj)) (size : Int) (tw : Tok),
    Below A₀ base [] base → Fr base L s.heap m → (hd.heap_39 w.params).In base → Top hd.view_39 loose mean mg mb base → News base L s.heap rest →m (Str.ofString "size") = some (.int size tw) → (∀ wn dx H1 H2 H3 H4 H5 k1 k2 k3 k4 k5 t1 t2 t3 t4 h' tk', (∀ p ∈ rest, p.1 < dx) → dx < wn → Fr base L h' (fun y => if y = Str.ofString "window" then some (.ref wn) else m y) → News base L h' ((wn, instObj 135 dx) :: (dx, winD H1 H2 H3 H4 H5 k1 k2 k3 k4 k5 size size 0 0 t1 t2 t3 t4 false 5) :: rest) → Q .next { s with heap := h', toks := tk' }) →
    wpAny (model PySem.Challenge.rw_pf0248_01.row.prog w) (ktrTop 302 7 (some []) (Str.ofString "law") lawScope L a ccd [] []) (exec (ln 4) (envX (Str.ofString "law") lawScope L a ccd [])) Q E s := by
  k_fill
  w_top off
  intro w loose mean mg mb a ccd A₀ base L m s Q E rest size tw B F X T N h1 ret
  have eS := (rfl : lawScope = lawScope)
  conv at eS => rhs; whnf
  rw [eS]
  clear eS
  have eT := (rfl : ln 4 = ln 4)
  conv at eT => rhs; whnf
  rw [eT]
  clear eT
  k_steps
  rename News base L _ _ => N9
  rename Fr base L _ _ => F9
  exact ret _ _ _ _ _ _ _ _ _ _ _ _ _ _ _ _ _ _ (by assumption) (by assumption) F9 N9

end Mine

namespace Mine
open PySem.Calls
local macro_rules | `(tactic| walk_at "eval Name") => `(tactic| (k_here; k_dflt (refine' ld ?k1 ?k2 ?_; (case k1 => k_asm); (case k2 => first | rfl | assumption | (with_unfolding_all assumption)); k_whole)))
local macro_rules | `(tactic| walk_at "call ref") => `(tactic| (k_here; (with_reducible show wpAny _ _ (call (Value.ref 153) [Value.ref _, Value.int _ _]) _ _ _); k_dflt (refine' pick_head _ _ _ _ _ _ _ _ _ _ _ _ _ _ _ _ _ _ _ _ _ _ _ _ _ _ _ _ _ _ _ _ _ _ _ _ ?kB ?kF ?kX ?kN ?ko ?kl ?km ?kn ?kT ?kk ?kI ?k0 ?k1 ?k2 ?k3 ?k4 ?k5 ?k6 ?kd ?ku ?_; (case kB => k_asm); (case kF => k_asm); (case kX => k_asm); (case kN => k_asm); (case ko => k_asm); (case kl => first | assumption | exact And.left (by assumption)); (case km => first | assumption | exact And.left (And.right (by assumption))); (case kn => k_asm); (case kT => k_asm); (case kk => rfl); (case kI => k_asm); (case k0 => omega); (case k1 => omega); (case k2 => omega); (case k3 => omega); (case k4 => omega); (case k5 => omega); (case k6 => omega); (case kd => ktr_room); (case ku => ktr_units); k_whole); intro r' t' tq' n' h' tk' hr0' hr1' F' N'; (try dsimp only)))
local macro_rules | `(tactic| walk_at "call ref") => `(tactic| (k_here; (with_reducible show wpAny _ _ (call (Value.ref 153) [Value.ref _, Value.int _ _]) _ _ _); k_dflt (refine' pick_call _ _ _ _ _ _ _ _ _ _ _ _ _ _ _ _ _ _ _ _ _ _ _ _ _ _ _ _ _ _ _ _ _ _ ?kB ?kF ?kX ?kN ?ko ?kn ?kT ?kk ?kI ?k0 ?k1 ?k2 ?k3 ?k4 ?k5 ?k6 ?kd ?ku ?_; (case kB => k_asm); (case kF => k_asm); (case kX => k_asm); (case kN => k_asm); (case ko => k_asm); (case kn => k_asm); (case kT => k_asm); (case kk => rfl); (case kI => k_asm); (case k0 => omega); (case k1 => omega); (case k2 => omega); (case k3 => omega); (case k4 => omega); (case k5 => omega); (case k6 => omega); (case kd => ktr_room); (case ku => ktr_units); k_whole); intro r' t' tq' n' h' tk' hr0' hr1' F' N'; (try dsimp only)))
theorem pl1 : ∀ (w : World) (loose : List Str) (mean : ExcName → Option Value) (mg mb : Str → Option Value) (a : Addr) (ccd : Value) (A₀ : Around) (base : Heap) (L : Addr) (m : Str → Option Value) (s : Shared) (Q : Flow → Shared → Prop) (E : Value → Shared → Prop) (rest : List (Addr × Obj)) (pn lq : Addr) (vs : List Value) (xs : List Int) (c q : Int) (tc tq : Tok) (n1 n2 : Nat),
    Below A₀ base [] base → Fr base L s.heap m → (hd.heap_39 w.params).In base → Top hd.view_39 loose mean mg mb base → News base L s.heap ((pn, penO lq c q tc tq n1) :: (lq, listOf vs.toArray n2) :: rest) → OwnOff rest [pn, lq] → @Ne Nat lq pn → IntsAre vs xs → xs.length ≤ 63 → 0 ≤ c → c ≤ 900 → 0 ≤ q → q < 997 → m (Str.ofString "pen") = some (.ref pn) → (∀ r1 r2 u1 u2 tc' n1' h' tk', 0 ≤ r1 → r1 < 5 → 0 ≤ r2 → r2 < 40 → Fr base L h' (fun y => if y = Str.ofString "way" then some (.int r1 u1) else if y = Str.ofString "more" then some (.int r2 u2) else m y) → News base L h' ((pn, penO lq (c + 1 + 1) q tc' tq n1') :: (lq, listOf vs.toArray n2) :: rest) → Q .next { s with heap := h', toks := tk' }) →
    wpAny (model PySem.Challenge.rw_pf0248_01.row.prog w) (ktrTop 302 7 (some []) (Str.ofString "law") lawScope L a ccd [] []) (exec (ln 1) (envX (Str.ofString "law") lawScope L a ccd [])) Q E s := by
  k_fill
  w_top off
  intro w loose mean mg mb a ccd A₀ base L m s Q E rest pn lq vs xs c q tc tq n1 n2 B F X T N hoff hne hI hlen hc0 hc1 hq0 hq1 hpen ret
  have eS := (rfl : lawScope = lawScope)
  conv at eS => rhs; whnf
  rw [eS]
  clear eS
  have eT := (rfl : ln 1 = ln 1)
  conv at eT => rhs; whnf
  rw [eT]
  clear eT
  k_steps
  rename News base L _ _ => N9
  rename Fr base L _ _ => F9
  exact ret _ _ _ _ _ _ _ _ (by assumption) (by assumption) (by assumption) (by assumption) F9 (newsTail N9)

theorem pl3 : ∀ (w : World) (loose : List Str) (mean : ExcName → Option Value) (mg mb : Str → Option Value) (a : Addr) (ccd : Value) (A₀ : Around) (base : Heap) (L : Addr) (m : Str → Option Value) (s : Shared) (Q : Flow → Shared → Prop) (E : Value → Shared → Prop) (rest : List (Addr × Obj)) (pn lq : Addr) (vs : List Value) (xs : List Int) (c q : Int) (tc tq : Tok) (n1 n2 : Nat) (way size : Int) (tw ts : Tok),
    Below A₀ base [] base → Fr base L s.heap m → (hd.heap_39 w.params).In base → Top hd.view_39 loose mean mg mb base → News base L s.heap ((pn, penO lq c q tc tq n1) :: (lq, listOf vs.toArray n2) :: rest) → OwnOff rest [pn, lq] → @Ne Nat lq pn → IntsAre vs xs → xs.length ≤ 63 → 0 ≤ c → c ≤ 1000 → 0 ≤ q → q < 997 → m (Str.ofString "pen") = some (.ref pn) →m (Str.ofString "way") = some (.int way tw) →m (Str.ofString "size") = some (.int size ts) → (way = 4 → ∀ r u tc' n1' h' tk', 0 ≤ r → r < 30 → Fr base L h' (fun y => if y = Str.ofString "base" then some (.int (4611686018427387903 - size - r) u) else m y) → News base L h' ((pn, penO lq (c + 1) q tc' tq n1') :: (lq, listOf vs.toArray n2) :: rest) → Q .next { s with heap := h', toks := tk' }) → (way ≠ 4 → ∀ u h' tk', Fr base L h' (fun y => if y = Str.ofString "base" then some (.int 0 u) else m y) → News base L h' ((pn, penO lq (c) q tc tq n1) :: (lq, listOf vs.toArray n2) :: rest) → Q .next { s with heap := h', toks := tk' }) →
    wpAny (model PySem.Challenge.rw_pf0248_01.row.prog w) (ktrTop 302 7 (some []) (Str.ofString "law") lawScope L a ccd [] []) (exec (ln 3) (envX (Str.ofString "law") lawScope L a ccd [])) Q E s := by
  k_fill
  w_top off
  intro w loose mean mg mb a ccd A₀ base L m s Q E rest pn lq vs xs c q tc tq n1 n2 way size tw ts B F X T N hoff hne hI hlen hc0 hc1 hq0 hq1 hpen h1 h2 r1 r2
  have eS := (rfl : lawScope = lawScope)
  conv at eS => rhs; whnf
  rw [eS]
  clear eS
  have eT := (rfl : ln 3 = ln 3)
  conv at eT => rhs; whnf
  rw [eT]
  clear eT
  have hm : ((2 : Int) ^ Int.toNat 62 - 1) = 4611686018427387903 := rfl
  k_steps
  · rename News base L _ _ => N9
    rename Fr base L _ _ => F9
    rw [hm] at F9
    exact r1 (by assumption) _ _ _ _ _ _ (by assumption) (by assumption) F9 N9
  · rename News base L _ _ => N9
    rename Fr base L _ _ => F9
    exact r2 (by assumption) _ _ _ F9 N9

theorem pl5 : ∀ (w : World) (loose : List Str) (mean : ExcName → Option Value) (mg mb : Str → Option Value) (a : Addr) (ccd : Value) (A₀ : Around) (base : Heap) (L : Addr) (m : Str → Option Value) (s : Shared) (Q : Flow → Shared → Prop) (E : Value → Shared → Prop) (rest : List (Addr × Obj)) (bs : Int) (tb ts : Tok) (wn dx : Addr) (H1 H2 H3 H4 H5 : Int) (k1 k2 k3 k4 k5 : Tok) (size limit got used : Int) (t1 t2 t3 t4 : Tok) (owes : Bool),
    Below A₀ base [] base → Fr base L s.heap m → (hd.heap_39 w.params).In base → Top hd.view_39 loose mean mg mb base → News base L s.heap ((wn, instObj 135 dx) :: (dx, winD H1 H2 H3 H4 H5 k1 k2 k3 k4 k5 size (limit) (got) (used) t1 t2 t3 t4 (owes) 5) :: rest) → OwnOff rest [wn, dx] → @Ne Nat dx wn → m (Str.ofString "window") = some (.ref wn) →m (Str.ofString "base") = some (.int bs tb) →m (Str.ofString "size") = some (.int size ts) → (∀ t2' t3' t4' h' tk', Fr base L h' m → News base L h' ((wn, instObj 135 dx) :: (dx, winD H1 H2 H3 H4 H5 k1 k2 k3 k4 k5 size (bs + size) (bs) (bs) t1 t2' t3' t4' (owes) 5) :: rest) → Q .next { s with heap := h', toks := tk' }) →
    wpAny (model PySem.Challenge.rw_pf0248_01.row.prog w) (ktrTop 302 7 (some []) (Str.ofString "law") lawScope L a ccd [] []) (exec (ln 5) (envX (Str.ofString "law") lawScope L a ccd [])) Q E s := by
  k_fill
  w_top off
  intro w loose mean mg mb a ccd A₀ base L m s Q E rest bs tb ts wn dx H1 H2 H3 H4 H5 k1 k2 k3 k4 k5 size limit got used t1 t2 t3 t4 owes B F X T N hoff hne hwin h1 h2 ret
  have eS := (rfl : lawScope = lawScope)
  conv at eS => rhs; whnf
  rw [eS]
  clear eS
  have eT := (rfl : ln 5 = ln 5)
  conv at eT => rhs; whnf
  rw [eT]
  clear eT
  k_steps
  rename News base L _ _ => N9
  rename Fr base L _ _ => F9
  exact ret _ _ _ _ _ F9 (newsTail N9)

theorem pl6 : ∀ (w : World) (loose : List Str) (mean : ExcName → Option Value) (mg mb : Str → Option Value) (a : Addr) (ccd : Value) (A₀ : Around) (base : Heap) (L : Addr) (m : Str → Option Value) (s : Shared) (Q : Flow → Shared → Prop) (E : Value → Shared → Prop) (rest : List (Addr × Obj)) (bs size : Int) (tb ts : Tok),
    Below A₀ base [] base → Fr base L s.heap m → (hd.heap_39 w.params).In base → Top hd.view_39 loose mean mg mb base → News base L s.heap rest →m (Str.ofString "base") = some (.int bs tb) →m (Str.ofString "size") = some (.int size ts) → (∀ en t u n3 h' tk', AllLt en rest → Fr base L h' (fun y => if y = Str.ofString "every" then some (.ref en) else if y = Str.ofString "owes" then some (.bool false) else if y = Str.ofString "read" then some (.int bs tb) else if y = Str.ofString "got" then some (.int bs tb) else if y = Str.ofString "limit" then some (.int (bs + size) t) else m y) → News base L h' ((en, listOf #[.int (bs + size) u] n3) :: rest) → Q .next { s with heap := h', toks := tk' }) →
    wpAny (model PySem.Challenge.rw_pf0248_01.row.prog w) (ktrTop 302 7 (some []) (Str.ofString "law") lawScope L a ccd [] []) (exec (ln 6) (envX (Str.ofString "law") lawScope L a ccd [])) Q E s := by
  k_fill
  w_top off
  intro w loose mean mg mb a ccd A₀ base L m s Q E rest bs size tb ts B F X T N h1 h2 ret
  have eS := (rfl : lawScope = lawScope)
  conv at eS => rhs; whnf
  rw [eS]
  clear eS
  have eT := (rfl : ln 6 = ln 6)
  conv at eT => rhs; whnf
  rw [eT]
  clear eT
  k_steps
  rename News base L _ _ => N9
  rename Fr base L _ _ => F9
  exact ret _ _ _ _ _ _ (allLt_of (by assumption)) F9 (newsTail N9)

theorem pl8 : ∀ (w : World) (loose : List Str) (mean : ExcName → Option Value) (mg mb : Str → Option Value) (a : Addr) (ccd : Value) (A₀ : Around) (base : Heap) (L : Addr) (m : Str → Option Value) (s : Shared) (Q : Flow → Shared → Prop) (E : Value → Shared → Prop) (rest : List (Addr × Obj)) (limit : Int) (tl : Tok),
    Below A₀ base [] base → Fr base L s.heap m → (hd.heap_39 w.params).In base → Top hd.view_39 loose mean mg mb base → News base L s.heap rest →m (Str.ofString "limit") = some (.int limit tl) →limit ≤ 4611686018427387903 → (∀ h' tk', Fr base L h' m → News base L h' rest → Q (.ret (.bool true)) { s with heap := h', toks := tk' }) →
    wpAny (model PySem.Challenge.rw_pf0248_01.row.prog w) (ktrTop 302 7 (some []) (Str.ofString "law") lawScope L a ccd [] []) (exec (ln 8) (envX (Str.ofString "law") lawScope L a ccd [])) Q E s := by
  k_fill
  w_top off
  intro w loose mean mg mb a ccd A₀ base L m s Q E rest limit tl B F X T N h1 f ret
  have eS := (rfl : lawScope = lawScope)
  conv at eS => rhs; whnf
  rw [eS]
  clear eS
  have eT := (rfl : ln 8 = ln 8)
  conv at eT => rhs; whnf
  rw [eT]
  clear eT
  have hm : ((2 : Int) ^ Int.toNat 62 - 1) = 4611686018427387903 := rfl
  k_steps
  rename News base L _ _ => N9
  rename Fr base L _ _ => F9
  rw [hm, decide_eq_true f]
  exact ret _ _ F9 N9

end Mine

namespace Mine
open PySem.Calls
local macro_rules | `(tactic| walk_at "eval Name") => `(tactic| (k_here; k_dflt (refine' ld ?k1 ?k2 ?_; (case k1 => k_asm); (case k2 => first | rfl | assumption | (with_unfolding_all assumption)); k_whole)))
theorem rotTwo {h₀ h : Heap} {L : Addr} {a b c d e : Addr × Obj} (N : News h₀ L h (e :: c :: d :: a :: b :: [])) : News h₀ L h (e :: c :: d :: a :: b :: []) := N
theorem law_list : lawBody = [ln 0, ln 1, ln 2, ln 3, ln 4, ln 5, ln 6, ln 7, ln 8] := rfl
theorem pl7 : ∀ (w : World) (loose : List Str) (mean : ExcName → Option Value) (mg mb : Str → Option Value) (a : Addr) (ccd : Value) (A₀ : Around) (base : Heap) (L : Addr) (m : Str → Option Value) (s : Shared) (Q : Flow → Shared → Prop) (E : Value → Shared → Prop) (rest : List (Addr × Obj)),
    Below A₀ base [] base → Fr base L s.heap m → (hd.heap_39 w.params).In base → Top hd.view_39 loose mean mg mb base → News base L s.heap rest →
    (∀ px r t u v h' tk', IsRange h' r 0 6 1 t u v → Fr base L h' m → News base L h' rest → wpC (model PySem.Challenge.rw_pf0248_01.row.prog w) (ktrTop 302 7 (some []) (Str.ofString "law") lawScope L a ccd [] []) (do runOwn (.forLoop (.Name (Str.ofString "turn") px) (← holding [.ref r] (pyIter (.ref r))) turnBody [] (envX (Str.ofString "law") lawScope L a ccd [])) (envX (Str.ofString "law") lawScope L a ccd [])) Q E { s with heap := h', toks := tk' }) →
    wpC (model PySem.Challenge.rw_pf0248_01.row.prog w) (ktrTop 302 7 (some []) (Str.ofString "law") lawScope L a ccd [] []) (exec (ln 7) (envX (Str.ofString "law") lawScope L a ccd [])) Q E s := by
  k_fill
  w_top off
  intro w loose mean mg mb a ccd A₀ base L m s Q E rest B F X T N ret
  have eT := (rfl : ln 7 = ln 7)
  conv at eT => rhs; whnf
  rw [eT]
  clear eT
  refine wpC_For ?_
  have eS := (rfl : lawScope = lawScope)
  conv at eS => rhs; whnf
  rw [eS] at ret ⊢
  clear eS
  k_steps
  rename News base L _ _ => N9
  rename Fr base L _ _ => F9
  rename IsRange _ _ _ _ _ _ _ _ => R9
  exact ret _ _ _ _ _ _ _ R9 F9 N9
def LawInv (pn lq wn dx : Addr) (vs : List Value) (xs : List Int) (q : Int) (tq : Tok) (n2 : Nat) (H1 H2 H3 H4 H5 : Int) (k1 k2 k3 k4 k5 : Tok) (size : Int) (t1 ts : Tok) (i : Nat) (m : Str → Option Value) (news : List (Addr × Obj)) : Prop :=
  ∃ (en : Addr) (c : Int) (tc : Tok) (n1 n3 : Nat) (limit got used : Int) (t2 t3 t4 : Tok) (owes : Bool) (es : List Value) (ns : List Int) (tl tg tr : Tok),
    news = ((pn, penO lq (c) q tc tq n1) :: (lq, listOf vs.toArray n2) :: (wn, instObj 135 dx) :: (dx, winD H1 H2 H3 H4 H5 k1 k2 k3 k4 k5 size (limit) (got) (used) t1 t2 t3 t4 (owes) 5) :: (en, listOf (List.toArray es) n3) :: []) ∧ 0 ≤ c ∧ c ≤ 3 + 4 * (i : Int) ∧ IntsAre es ns ∧ 1 ≤ ns.length ∧ ns.length ≤ 1 + i ∧ 0 ≤ used ∧ used ≤ got ∧ got ≤ limit ∧ limit ≤ 4611686018427387903 ∧ Apart pn lq wn dx en [] ∧
    m (Str.ofString "pen") = some (.ref pn) ∧ m (Str.ofString "window") = some (.ref wn) ∧ m (Str.ofString "every") = some (.ref en) ∧ m (Str.ofString "size") = some (.int size ts) ∧ m (Str.ofString "limit") = some (.int limit tl) ∧ m (Str.ofString "got") = some (.int got tg) ∧ m (Str.ofString "read") = some (.int used tr) ∧ m (Str.ofString "owes") = some (.bool owes)
theorem law_tail : ∀ (w : World) (loose : List Str) (mean : ExcName → Option Value) (mg mb : Str → Option Value) (a : Addr) (ccd : Value) (A₀ : Around) (base : Heap) (L : Addr) (m : Str → Option Value) (s : Shared) (Q : Flow → Shared → Prop) (E : Value → Shared → Prop) (pn lq : Addr) (vs : List Value) (xs : List Int) (c q : Int) (tc tq : Tok) (n1 n2 : Nat) (bs size : Int) (tb ts : Tok),
    Below A₀ base [] base → Fr base L s.heap m → (hd.heap_39 w.params).In base → Top hd.view_39 loose mean mg mb base → News base L s.heap ((pn, penO lq c q tc tq n1) :: (lq, listOf vs.toArray n2) :: []) → lq < pn → IntsAre vs xs → xs.length ≤ 63 → 0 ≤ c → c ≤ 3 → 0 ≤ q → q < 997 → m (Str.ofString "pen") = some (.ref pn) → m (Str.ofString "size") = some (.int size ts) → m (Str.ofString "base") = some (.int bs tb) →
    1 ≤ size → 0 ≤ bs → bs + size ≤ 4611686018427387903 →
    (∀ m' h' tk', Fr base L h' m' → Q (.ret (.bool true)) { s with heap := h', toks := tk' }) →
    wpC (model PySem.Challenge.rw_pf0248_01.row.prog w) (ktrTop 302 7 (some []) (Str.ofString "law") lawScope L a ccd [] []) (execs ([ln 4, ln 5, ln 6, ln 7, ln 8]) (envX (Str.ofString "law") lawScope L a ccd [])) Q E s := by
  intro w loose mean mg mb a ccd A₀ base L m s Q E pn lq vs xs c q tc tq n1 n2 bs size tb ts B F X T N hlp hI hlen hc0 hc1 hq0 hq1 hpen hsize hbase f1 f2 f3 ret
  refine wpC_execs_cons (wpC_any (pl4 w loose mean mg mb a ccd A₀ base L m s _ _ _ size ts B F X T N hsize ?_))
  intro wn dx H1 H2 H3 H4 H5 k1 k2 k3 k4 k5 t1 t2 t3 t4 ha ka hdx hdw Fa Na
  show wpC _ _ _ _ _ _
  have d1 : pn < dx := hdx _ (.head _)
  have d2 : lq < dx := hdx _ (.tail _ (.head _))
  have hof : OwnOff ((pn, penO lq c q tc tq n1) :: (lq, listOf vs.toArray n2) :: []) [wn, dx] := by
    intro p hp b hb
    simp only [List.mem_cons, List.not_mem_nil, or_false] at hp hb
    rcases hp with rfl | rfl <;> rcases hb with rfl | rfl
    · exact Nat.ne_of_lt (Nat.lt_trans d1 hdw)
    · exact Nat.ne_of_lt d1
    · exact Nat.ne_of_lt (Nat.lt_trans d2 hdw)
    · exact Nat.ne_of_lt d2
  refine wpC_execs_cons (wpC_any (pl5 w loose mean mg mb a ccd A₀ base L _ _ _ _ _ bs tb ts wn dx H1 H2 H3 H4 H5 k1 k2 k3 k4 k5 size size 0 0 t1 t2 t3 t4 false B Fa X T Na hof (Nat.ne_of_lt hdw) rfl hbase hsize ?_))
  intro t2' t3' t4' hb kb Fb Nb
  show wpC _ _ _ _ _ _
  refine wpC_execs_cons (wpC_any (pl6 w loose mean mg mb a ccd A₀ base L _ _ _ _ _ bs size tb ts B Fb X T Nb hbase hsize ?_))
  intro en t u n3 hc kc hlt Fc Nc
  show wpC _ _ _ _ _ _
  have ap : Apart pn lq wn dx en [] := {
    a1 := Nat.ne_of_lt hlp
    a2 := Nat.ne_of_gt (Nat.lt_trans d1 hdw)
    a3 := Nat.ne_of_gt d1
    a4 := Nat.ne_of_gt hlt.2.2.1
    a5 := Nat.ne_of_gt (Nat.lt_trans d2 hdw)
    a6 := Nat.ne_of_gt d2
    a7 := Nat.ne_of_gt hlt.2.2.2.1
    a8 := Nat.ne_of_lt hdw
    a9 := Nat.ne_of_gt hlt.1
    a10 := Nat.ne_of_gt hlt.2.1
    off := fun p hp => nomatch hp }
  refine wpC_execs_cons (pl7 w loose mean mg mb a ccd A₀ base L _ _ _ _ _ B Fc X T (rotPen (rotBack (rotTwo Nc))) ?_)
  intro px r tr1 tr2 tr3 hd' kd R Fd Nd
  refine wpC_forRange (A := (ktrTop 302 7 (some []) (Str.ofString "law") lawScope L a ccd [] [])) (env := (envX (Str.ofString "law") lawScope L a ccd [])) (n := 6) (h₀ := base) 0 1 (LawInv pn lq wn dx vs xs q tq n2 H1 H2 H3 H4 H5 k1 k2 k3 k4 k5 size t1 ts) rfl rfl rfl R (by decide) (by decide) Fd Nd
    ⟨en, c, tc, n1, n3, bs + size, bs, bs, t2', t3', t4', false, [.int (bs + size) u], [bs + size], t, tb, tb, rfl, hc0, by omega, .cons _ _ .nil, Nat.le_refl 1, Nat.le_refl 1, f2, by omega, by omega, f3, ap, hpen, rfl, rfl, hsize, rfl, rfl, rfl, rfl⟩ ?_ ?_
  · intro i I io tt m₁ news₁ h tk hi hJ hoff F' N'
    obtain ⟨en, c, tc, n1, n3, limit, got, used, t2, t3, t4, owes, es, ns, tl, tg, tr, rfl, j1, j2, j3, j4, j5, j6, j7, j8, j9, j10, l1, l2, l3, l4, l5, l6, l7, l8⟩ := hJ
    have ap1 : Apart pn lq wn dx en [(I, io)] := { j10 with
      off := by
        intro p hp b hb
        rw [List.mem_singleton.mp hp]
        simp only [List.mem_cons, List.not_mem_nil, or_false] at hb
        rcases hb with rfl | rfl | rfl | rfl | rfl
        · exact (hoff _ (.head _)).symm
        · exact (hoff _ (.tail _ (.head _))).symm
        · exact (hoff _ (.tail _ (.tail _ (.head _)))).symm
        · exact (hoff _ (.tail _ (.tail _ (.tail _ (.head _))))).symm
        · exact (hoff _ (.tail _ (.tail _ (.tail _ (.tail _ (.head _)))))).symm }
    refine turn_C w loose mean mg mb a ccd A₀ base L _ _ _ _ [(I, io)] pn lq wn dx en vs xs c q tc tq n1 n2 n3 H1 H2 H3 H4 H5 k1 k2 k3 k4 k5 size limit got used t1 t2 t3 t4 owes es ns ts tl tg tr B F' X T N' ap1 hI hlen j1 (by omega) hq0 hq1 l1 j3 j4 (by omega) j6 j7 j8 j9 l2 l3 l4 l5 l6 l7 l8 ?_
    intro m' en' c' tc' n1' n3' limit' got' used' t2' t3' t4' b es' ns' tl' tg' tr' h' tk' g1 g2 g3 g4 g5 g6 g7 g8 g9 g10 g11 g12 g13 g14 g15 g16 g17 g18 F2 N2
    refine ⟨h', tk', m', _, rfl, F2, N2, ?_, en', c', tc', n1', n3', limit', got', used', t2', t3', t4', b, es', ns', tl', tg', tr', rfl, by omega, by push_cast; omega, g3, g4, by omega, g6, g7, g8, g9, { g10 with off := fun p hp => nomatch hp }, g11, g12, g13, g14, g15, g16, g17, g18⟩
    intro p hp
    have hq : ∀ b ∈ [pn, lq, wn, dx, en'], b ≠ I := fun b hb => (g10.off (I, io) (.head _) b hb).symm
    simp only [List.mem_cons, List.not_mem_nil, or_false] at hp
    rcases hp with rfl | rfl | rfl | rfl | rfl
    · exact hq _ (.head _)
    · exact hq _ (.tail _ (.head _))
    · exact hq _ (.tail _ (.tail _ (.head _)))
    · exact hq _ (.tail _ (.tail _ (.tail _ (.head _))))
    · exact hq _ (.tail _ (.tail _ (.tail _ (.tail _ (.head _)))))
  · intro m₁ news₁ h tk hJ F' N'
    obtain ⟨en, c, tc, n1, n3, limit, got, used, t2, t3, t4, owes, es, ns, tl, tg, tr, rfl, j1, j2, j3, j4, j5, j6, j7, j8, j9, j10, l1, l2, l3, l4, l5, l6, l7, l8⟩ := hJ
    show wpC _ _ _ _ _ _
    refine wpC_execs_cons (wpC_any (pl8 w loose mean mg mb a ccd A₀ base L _ _ _ _ _ limit tl B F' X T N' l5 j9 ?_))
    intro h' tk' F2 N2
    exact ret _ _ _ F2
theorem law_C : ∀ (w : World) (loose : List Str) (mean : ExcName → Option Value) (mg mb : Str → Option Value) (a : Addr) (ccd : Value) (A₀ : Around) (base : Heap) (L : Addr) (m : Str → Option Value) (s : Shared) (Q : Flow → Shared → Prop) (E : Value → Shared → Prop) (l : Addr) (vs : List Value) (ns : List Int),
    Below A₀ base [] base → Fr base L s.heap m → (hd.heap_39 w.params).In base → Top hd.view_39 loose mean mg mb base → base.IsList l vs.toArray → IntsAre vs ns → ns.length ≤ 63 → m (Str.ofString "script") = some (.ref l) →
    (∀ m' h' tk', Fr base L h' m' → Q (.ret (.bool true)) { s with heap := h', toks := tk' }) →
    wpC (model PySem.Challenge.rw_pf0248_01.row.prog w) (ktrTop 302 7 (some []) (Str.ofString "law") lawScope L a ccd [] []) (execs (lawBody) (envX (Str.ofString "law") lawScope L a ccd [])) Q E s := by
  intro w loose mean mg mb a ccd A₀ base L m s Q E l vs ns B F X T hL hI hlen hs ret
  rw [law_list]
  refine wpC_execs_cons (wpC_any (pl0 w loose mean mg mb a ccd A₀ base L m s _ _ [] l vs ns B F X T (fun p hp => nomatch hp) hL hI hlen hs ?_))
  intro pn lq q tc tq n1 n2 vs2 ns2 ha ka q0 q1 hI2 hlen2 _ _ hlp Fa Na
  show wpC _ _ _ _ _ _
  refine wpC_execs_cons (wpC_any (pl1 w loose mean mg mb a ccd A₀ base L _ _ _ _ [] pn lq vs2 ns2 0 q tc tq n1 n2 B Fa X T Na (fun p hp => nomatch hp) (Nat.ne_of_lt hlp) hI2 hlen2 (by decide) (by decide) q0 q1 rfl ?_))
  intro r1 r2 u1 u2 tc1 n11 hb kb a1 a2 b1 b2 Fb Nb
  show wpC _ _ _ _ _ _
  refine wpC_execs_cons (wpC_any (pl2 w loose mean mg mb a ccd A₀ base L _ _ _ _ _ r1 r2 u1 u2 B Fb X T Nb rfl rfl a1 a2 b1 b2 ?_))
  intro z tz hc kc z1 z2 z3 Fc Nc
  show wpC _ _ _ _ _ _
  refine wpC_execs_cons (wpC_any (pl3 w loose mean mg mb a ccd A₀ base L _ _ _ _ [] pn lq vs2 ns2 (0 + 1 + 1) q tc1 tq n11 n2 r1 z u1 tz B Fc X T Nc (fun p hp => nomatch hp) (Nat.ne_of_lt hlp) hI2 hlen2 (by decide) (by decide) q0 q1 rfl rfl rfl ?_ ?_))
  · intro hw r u tc2 n12 hd' kd r0 r3 Fd Nd
    have z4 := z3 hw
    show wpC _ _ _ _ _ _
    exact law_tail w loose mean mg mb a ccd A₀ base L _ _ _ _ pn lq vs2 ns2 (0 + 1 + 1 + 1) q tc2 tq n12 n2 (4611686018427387903 - z - r) z u tz B Fd X T Nd hlp hI2 hlen2 (by decide) (by decide) q0 q1 rfl rfl rfl z1 (by omega) (by omega) ret
  · intro hw u hd' kd Fd Nd
    show wpC _ _ _ _ _ _
    exact law_tail w loose mean mg mb a ccd A₀ base L _ _ _ _ pn lq vs2 ns2 (0 + 1 + 1) q tc1 tq n11 n2 0 z u tz B Fd X T Nd hlp hI2 hlen2 (by decide) (by decide) q0 q1 rfl rfl rfl z1 (by decide) (by omega) ret
end Mine

namespace Mine
open PySem.Calls
theorem call_fullC {prog : Program} {w : World} {A : Around} {R : Result → Shared → Prop} {s : Shared} {name : Str} {params : Arguments} {body : List Stmt} {scope : Scope}
    {dV kV pm cd doc : Value} {a : Addr} {o : Obj} {args : Args} {binds : List (Str × Value)}
    (hroom : A.depth < recursionLimit) (ho : s.heap.get? a = some o) (hdata : o.data = .func { docDef name params body scope pm cd doc with defaults := dV, kwdefaults := kV }) (hlim : s.heap.NoLimit) (hcd : s.heap.CodeRec cd name)
    (hbind : BindsTo s { docDef name params body scope pm cd doc with defaults := dV, kwdefaults := kV } args binds)
    (hloc : ∀ x ∈ binds, scope.names.lookup x.1 = some .local)
    (h : ∀ h₁, Fr s.heap s.heap.objs.size h₁ (fun x => binds.reverse.lookup x) →
      wpC (model prog w) (A.deeper (envOf name scope s.heap.objs.size a cd)) (execs body (envOf name scope s.heap.objs.size a cd))
        (fun f s' => R (.ok (.ret (match f with | .ret v => v | _ => .none))) s')
        (fun e s' => wpAny (model prog w) (A.deeper (envOf name scope s.heap.objs.size a cd)) (leaving (envOf name scope s.heap.objs.size a cd) e)
          (fun _ s'' => R (.error e) s'') (fun e' s'' => R (.error e') s'') s')
        { s with heap := h₁, toks := s.toks + binds.length })
    (hco : scope.isCoroutine = false := by rfl) (hgen : scope.isGenerator = false := by rfl) (hk : scope.kind = .function := by rfl)
    (hcell : ∀ x ∈ scope.names, x.2 ≠ .cell := by decide) :
    codeC (model prog w) A (.call (.ref a) args) R s :=
  codeC_call_def hroom ho hdata hlim hcd rfl hbind hcell hloc (fun h₁ hns hkeep => h h₁ ⟨hns, hkeep, Nat.le_refl _⟩) hco hgen hk
theorem enter_callC {M : Model} {A : Around} {s : Shared} {f : Value} {pos : List Value} {kw : List (Str × Value)} {c : ClaimW} {cl : Str → Option Addr} {mean : ExcName → Option Value} {args : List WData} {s₁ : Shared}
    (h : codeC M A (.call f ⟨pos, kw⟩) (GoodWG c cl mean args s₁) s) : wpC M A (PySem.call f pos kw) (fun v s' => GoodWG c cl mean args s₁ (.ok (.ret v)) s') (fun e s' => GoodWG c cl mean args s₁ (.error e) s') s :=
  wpC_call (codeC_mono h fun res s' g => by rcases g.1 with ⟨v, _, _, rfl, _⟩ | ⟨e, _, _, rfl, _⟩ <;> exact g)

theorem final : PySem.Challenge.rw_pf0248_01.Holds := by
  refine Mine.hd ?_
  k_fill
  w_top off
  intro w s₀ s₁ mg mb G Y fa o pm cd doc dV kV ho hdt hcd hD hmg hg args vals as hpre hlay hrd hwl hlo
  have KX := kIn_of Y
  have X := (Ground.X G).1
  have V := (Ground.X G).2
  refine Ground.open G ?_
  intro T B D TE TW
  clear D
  obtain ⟨_, _, he, B0⟩ := based_of_top T rfl hmg ho hdt
  have he' : cd = _ := he
  subst he'
  clear he hmg
  wrow_args hpre hlay hrd hwl hlo
  refine enter_callC ?_
  have he := Dflts.none hD rfl
  subst he
  refine call_fullC (by decide) ho hdt (Top.nolimit T) hcd (BindsTo.of_eq rfl) (locs rfl) fun h₁ F => ?_
  refine wpC_mono (law_C w _ _ _ _ fa _ callerA s₁.heap _ _ _ _ (fun _ _ => False) _ _ _ (below_caller s₁.heap) F KX T (by assumption) (by assumption) (by omega) rfl ?_) (fun _ _ x => x) (fun _ _ x => False.elim x)
  intro m' h' tk' F'
  dsimp only
  wrow_closeG
end Mine

theorem PySem.Challenge.cw_pf0248_01_holds : PySem.Challenge.rw_pf0248_01.Holds := by
  exact Mine.final
