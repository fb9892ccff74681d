import PyProof.Rows.All
import Wide.All
import OpenK.AllK
import Wide.FinOn
import Lean
import PySem.Challenge.RW_xw0275_01
set_option Elab.async false
set_option bootstrap.genMatcherCode false
set_option genInjectivity false
set_option genSizeOf false
section
set_option tactic.hygienic false
set_option backward.match.sparseCases false
open PySem PySem.W PyProof.Rows PySem.Calls
open PySem.Sem (wp)
namespace Mine

/-- the built-ins that hold a bytearray while they run -/
noncomputable def badIds : List String :=
  ["bytearray.__contains__", "bytearray.__mod__", "bytearray.__rmod__", "_struct.pack_into.held", "bytearray.find.held"] ++
    PySem.Builtin.Bytes.decodersThatHold
noncomputable def bad : Code → Bool
  | .builtin id _ => badIds.contains id
  | _ => false
noncomputable def clean (l : List (Code × Pos)) : Prop := ∀ x ∈ l, bad x.1 = false

/-- like wpAny, but: only contexts on whose stack no such built-in stands; no exception comes out -/
noncomputable def wpG {α : Type} (M : Model) (A : Around) (t : Sem α) (Q : α → Shared → Prop) (s : Shared) : Prop :=
  ∀ Γ p, Γ.In A → bad Γ.code = false → clean Γ.below → wp M Γ t (fun a _ s' => Q a s') (fun _ _ _ => False) p s
noncomputable def codeG (M : Model) (A : Around) (c : Code) (R : Flow → Shared → Prop) (s : Shared) : Prop :=
  ∀ Γ p, Γ.code = c → Γ.Below A → clean Γ.below → wpCode M Γ (fun r s' => match r with | .ok f => R f s' | .error _ => False) p s

section
variable {α β : Type} {M : Model} {A : Around} {s : Shared}

theorem wpG_of_any {t : Sem α} {Q : α → Shared → Prop} (h : wpAny M A t Q (fun _ _ => False) s) : wpG M A t Q s :=
  fun Γ p hΓ _ _ => h Γ p hΓ
theorem codeG_of_any {c : Code} {R : Flow → Shared → Prop} (h : codeAny M A c (fun r s' => match r with | .ok f => R f s' | .error _ => False) s) : codeG M A c R s :=
  fun Γ p hc hΓ _ => h Γ p hc hΓ
theorem wpG_mono {t : Sem α} {Q Q' : α → Shared → Prop} (h : wpG M A t Q s) (hQ : ∀ a s, Q a s → Q' a s) : wpG M A t Q' s :=
  fun Γ p h1 h2 h3 => Sem.wp_mono M Γ t (fun a _ s => hQ a s) (fun _ _ _ e => e) p s (h Γ p h1 h2 h3)
theorem codeG_mono {c : Code} {R R' : Flow → Shared → Prop} (h : codeG M A c R s) (hR : ∀ f s, R f s → R' f s) : codeG M A c R' s :=
  fun Γ p hc hΓ hb => wpCode_mono (fun r s' x => by cases r with | ok f => exact hR f s' x | error e => exact x) (h Γ p hc hΓ hb)
theorem wpG_pure {a : α} {Q : α → Shared → Prop} (h : Q a s) : wpG M A (pure a) Q s := fun _ _ _ _ _ => h
theorem wpG_bind {m : Sem α} {f : α → Sem β} {Q : β → Shared → Prop} (h : wpG M A m (fun a s' => wpG M A (f a) Q s') s) : wpG M A (m >>= f) Q s :=
  fun Γ p h1 h2 h3 => by
    rw [Sem.wp_bind']
    exact Sem.wp_mono M Γ m (fun a p' s' h' => h' Γ p' h1 h2 h3) (fun _ _ _ h' => h') p s (h Γ p h1 h2 h3)
theorem wpG_onRaise {m : Sem α} {k : Value → Sem Unit} {Q : α → Shared → Prop} (h : wpG M A m Q s) : wpG M A (m.onRaise k) Q s :=
  fun Γ p h1 h2 h3 => by
    rw [Sem.wp_onRaise]
    exact Sem.wp_mono M Γ m (fun _ _ _ h' => h') (fun _ _ _ h' => h'.elim) p s (h Γ p h1 h2 h3)
theorem wpG_attempt {m : Sem α} {Q : Except Value α → Shared → Prop} (h : wpG M A m (fun a => Q (.ok a)) s) : wpG M A m.attempt Q s :=
  fun Γ p h1 h2 h3 => by
    rw [Sem.wp_attempt]
    exact Sem.wp_mono M Γ m (fun _ _ _ h' => h') (fun _ _ _ h' => h'.elim) p s (h Γ p h1 h2 h3)
theorem wpG_holding {vs : List Value} {m : Sem α} {Q : α → Shared → Prop} (h : wpG M A m Q s) : wpG M A (holding vs m) Q s :=
  fun Γ p h1 h2 h3 => by rw [Sem.wp_holding]; exact h Γ p h1 h2 h3
theorem wpG_keep {vs : List Value} {m : Sem α} {Q : α → Shared → Prop} (h : wpG M A m Q s) : wpG M A (m.keep vs) Q s :=
  fun Γ p h1 h2 h3 => by rw [Sem.wp_keep]; exact h Γ p h1 h2 h3
theorem wpG_operate {vs : List Value} {m : Sem Value} {Q : Value → Shared → Prop} (h : wpG M A m Q s) : wpG M A (operate vs m) Q s :=
  fun Γ p h1 h2 h3 => by rw [Sem.wp_operate]; exact h Γ p h1 h2 h3
theorem wpG_release {vs keep : List Value} {Q : Unit → Shared → Prop} (h : Q () s) : wpG M A (release vs keep) Q s :=
  fun Γ p h1 h2 h3 => by rw [Sem.wp_release]; exact h
theorem wpG_point {Q : Unit → Shared → Prop} (h : Q () s) : wpG M A point Q s := fun _ _ _ _ _ => h
theorem wpG_rule {tag : String} {Q : Unit → Shared → Prop} (h : Q () s) : wpG M A (rule tag) Q s := fun _ _ _ _ _ => h
theorem wpG_standAt {pos : Pos} {Q : Unit → Shared → Prop} (h : Q () s) : wpG M A (standAt pos) Q s := fun _ _ _ _ _ => h
theorem wpG_load {a : Addr} {o : Obj} {Q : Obj → Shared → Prop} (ho : s.heap.get? a = some o) (h : Q o s) : wpG M A (load a) Q s := wpG_of_any (wpAny_load ho h)

theorem clean_cons {c : Code} {p : Pos} {l : List (Code × Pos)} (h1 : bad c = false) (h2 : clean l) : clean ((c, p) :: l) := by
  intro x hx
  rcases List.mem_cons.mp hx with rfl | hx
  · exact h1
  · exact h2 x hx

theorem wpG_run {c : Code} {h : Option Value} {Q : Flow → Shared → Prop} (hc : codeG M (A.mark h) c Q s) (hnb : h ≠ some byPass := by intro x; cases x) :
    wpG M A (run c h) Q s := fun Γ p h1 h2 h3 => by
  rw [Sem.wp_run]
  have := hc (Γ.enter c h p) p rfl (h1.enter c h p hnb) (clean_cons h2 h3)
  exact wpCode_mono (fun r s' x => by cases r with | ok f => exact x | error e => exact x) this
theorem wpG_runOwn {c : Code} {env : Env} {Q : Flow → Shared → Prop} (hc : codeG M A c Q s) : wpG M A (runOwn c env none) Q s := by
  exact wpG_onRaise (wpG_run hc)
theorem wpG_runValue {c : Code} {Q : Value → Shared → Prop} (hc : codeG M A c (fun f s' => match f with | .ret v => Q v s' | _ => False) s) : wpG M A (runValue c) Q s := by
  refine wpG_bind (wpG_mono (wpG_run (h := none) hc) fun f s' x => ?_)
  induction f using PySem.Flow.casesOn with
  | ret v => exact wpG_pure x
  | _ => exact x.elim
theorem wpG_call {f : Value} {pos : List Value} {kw : List (Str × Value)} {Q : Value → Shared → Prop}
    (hc : codeG M A (.call f ⟨pos, kw⟩) (fun f s' => match f with | .ret v => Q v s' | _ => False) s) : wpG M A (call f pos kw) Q s := wpG_runValue hc

/-- what a tree ends in, as a code's end -/
noncomputable def FinG (M : Model) (A : Around) (R : Flow → Shared → Prop) : Fin → Shared → Prop := fun fin s' => match fin with
  | .done f => R f s'
  | .again c' => c'.quiet = true ∧ codeG M A c' R s'
theorem codeG_of_tree {c : Code} {R : Flow → Shared → Prop} (hb : bad c = false) (h : wpG M (A.under c) (M.den c) (FinG M A R) s) : codeG M A c R s := fun Γ p hc hΓ hcl => by
  rw [wpCode_iff_wp, hc]
  refine Sem.wp_mono M Γ _ (fun fin p' s' h' => ?_) (fun _ _ _ h' => h') p s (h Γ p (hc ▸ hΓ.in) (by rw [hc]; exact hb) hcl)
  induction fin using PySem.Fin.casesOn with
  | done f => exact h'
  | again c' => exact ⟨h'.1, h'.2 (Γ.goto c') p' rfl (hΓ.goto c') hcl⟩
theorem dite_no {p : Prop} [inst : Decidable p] {a : p → Bool} {b : ¬p → Bool} (h : ¬ p) (g : b h = false) : dite p a b = false := (dif_neg h).trans g
theorem any_no {f : Code × Pos → Bool} (hf : ∀ x, bad x.1 = false → f x = false) {l : List (Code × Pos)} (hl : clean l) : l.any f = false :=
  List.any_eq_false.mpr fun x hx => Bool.eq_false_iff.mp (hf x (hl x hx))
theorem ne_of_bad {id i : String} (h : badIds.contains id = false) (hi : badIds.contains i = true) : ¬ id = i := fun e => by subst e; rw [hi] at h; cases h
/-- no bytearray is held -/
theorem exported_false {self : Value} {Q : Bool → Shared → Prop} (h : Q false s) : wpG M A (PySem.Builtin.Bytes.exported self) Q s := fun Γ p _ h2 h3 => by
  refine (congrArg (fun b => Q b s) (any_no (l := (Γ.code, p) :: Γ.below) (fun x hx => ?_) (clean_cons h2 h3))).mpr h
  obtain ⟨c, q⟩ := x
  induction c using PySem.Code.casesOn with
  | builtin id args =>
    have hb : badIds.contains id = false := hx
    delta PySem.Builtin.Bytes.exported.match_1 PySem.Builtin.Bytes.exported._sparseCasesOn_1
    dsimp only
    refine dite_no (p := id = "bytearray.__contains__") (ne_of_bad hb (by decide +kernel)) ?_
    refine dite_no (p := id = "bytearray.__mod__") (ne_of_bad hb (by decide +kernel)) ?_
    refine dite_no (p := id = "bytearray.__rmod__") (ne_of_bad hb (by decide +kernel)) ?_
    refine dite_no (p := id = "_struct.pack_into.held") (ne_of_bad hb (by decide +kernel)) ?_
    refine dite_no (p := id = "bytearray.find.held") (ne_of_bad hb (by decide +kernel)) ?_
    obtain ⟨ps, kw⟩ := args
    induction ps using List.casesOn with
    | nil => rfl
    | cons v t =>
      have h0 : PySem.Builtin.Bytes.decodersThatHold.contains id = false := by
        refine Bool.eq_false_iff.mpr fun hd => ?_
        have hm : badIds.contains id = true := List.contains_iff_mem.mpr (List.mem_append_right _ (List.contains_iff_mem.mp hd))
        rw [hm] at hb; cases hb
      show (PySem.Builtin.Bytes.sameRef v self && PySem.Builtin.Bytes.decodersThatHold.contains id) = false
      rw [h0, Bool.and_false]
  | _ => rfl
end

section
variable {prog : Program} {w : World} {A : Around} {s : Shared} {R : Flow → Shared → Prop}

theorem codeG_builtin {id : String} {args : Args} {b : Builtin} (hb : entryFor table id = some b) (hbad : badIds.contains id = false)
    (h : wpG (model prog w) (A.under (.builtin id args)) (b args) (FinG (model prog w) A R) s) : codeG (model prog w) A (.builtin id args) R s := by
  refine codeG_of_tree hbad ?_
  show wpG _ _ (match entryFor table id with | some b => b args | none => unsupported ((withoutEnding? id "#data").getD id)) _ s
  rw [hb]; exact h
theorem codeG_call_builtin {id : String} {args : Args} {b : Builtin} (hq : (Code.builtin id args).quiet = true) (hb : entryFor table id = some b) (hbad : badIds.contains id = false)
    (h : wpG (model prog w) A.in1 (checkBuiltinCall id args) (fun _ s₁ => wpG (model prog w) (A.under (.builtin id args)) (b args) (FinG (model prog w) A R) s₁) s) :
    codeG (model prog w) A (.call (.builtin id) args) R s := by
  refine codeG_of_tree rfl ?_
  show wpG _ A.in1 (do checkBuiltinCall id args; again (.builtin id args)) _ s
  exact wpG_bind (wpG_mono h fun _ s₁ h₁ => wpG_pure (And.intro hq (codeG_builtin hb hbad h₁)))
end
end Mine
end
section
set_option tactic.hygienic false
set_option backward.match.sparseCases false
open PySem PySem.W PyProof.Rows PySem.Calls
open PySem.Sem (wp)
namespace Mine

theorem caller_clean {prog : Program} {w : World} {t : Sem Fin} {s : Shared} {R : Result → Shared → Prop}
    (h : wpG (model prog w) callerA t (fun fin s' => ∃ f, fin = .done f ∧ R (.ok f) s') s) (p : Pos) :
    wp (model prog w) ⟨.builtin "claim.caller" {}, none, none, [], none⟩ t (Sem.finPost (model prog w) ⟨.builtin "claim.caller" {}, none, none, [], none⟩ R) (fun e _ s' => R (.error e) s') p s := by
  refine Sem.wp_mono _ _ t (fun fin p' s' h' => ?_) (fun _ _ _ h' => h'.elim) p s (h _ p caller_in (by decide +kernel) (fun x hx => nomatch hx))
  obtain ⟨f, rfl, hf⟩ := h'
  exact hf

theorem thread_G {prog : Program} {w : World} {t : Sem Fin} {s : Shared} {R : Result → Shared → Prop} (hreg : s.asleep)
    (h : wpG (model prog w) callerA t (fun fin s' => ∃ f, fin = .done f ∧ (R (.ok f) s' ∧ leftWithCleanup s'.gens = false)) s) :
    ∃ n r s' s'', runN (denote table) prog w n s ⟨t, .builtin "claim.caller" {}, default, []⟩ = .halted (outcomeOf r) s' ∧
      schedN (denote table) prog w n (.single s ⟨t, .builtin "claim.caller" {}, default, []⟩) = .halted (outcomeOf r) s' ∧ s'.forget = s''.forget ∧ R r s'' := by
  obtain ⟨n, r, s₁, s₂, hs, hn, hfo, hR⟩ := wp_halts_full (M := model prog w) (R := R) hreg (caller_clean (R := fun r s' => R r s' ∧ leftWithCleanup s'.gens = false) h default)
  exact ⟨n, r, s₂, s₁, hn, hs, hfo, hR⟩

theorem callFrom_G {c : ClaimW} {tree : List Value → Sem Fin} {w : World} {s : Shared} {free : Addr → Prop} {gens : Prop} {kept : Heap → Prop} (hz : s.asleep) (hgens : s.gens = #[])
    (hspec : ∀ args, c.pre args = true → WData.layableAll args = true →
      ∀ ord : List DictEntry → List DictEntry, (∀ l, (ord l).Perm l) →
      ∃ vs s₁, layAllW c.records (classAt s.heap) w.params ord args s = some (vs, s₁) ∧
        wpG (model c.prog w) callerA (tree vs) (fun fin s' => ∃ f, fin = .done f ∧ (c.Ends s args vs s₁ (.ok f) s' ∧ s'.os = s.os ∧ AllBare s'.gens ∧ kept s'.heap)) s₁) :
    c.CallFrom (fun vs => ⟨tree vs, .builtin "claim.caller" {}, default, []⟩) w free gens kept s := by
  intro args hpre hlay ord hord
  refine Classical.byContradiction fun hn => ?_
  obtain ⟨vs, s₁, hlaid, hcode⟩ := hspec args hpre hlay ord hord
  have hal := layAllW_rest _ _ _ hlaid
  have hcode' : wpG (model c.prog w) callerA (tree vs) (fun fin s' => ∃ f, fin = .done f ∧ ((c.Ends s args vs s₁ (.ok f) s' ∧ s'.os = s.os ∧ kept s'.heap) ∧ leftWithCleanup s'.gens = false)) s₁ := by
    refine wpG_mono hcode fun fin s' h => ?_
    obtain ⟨f, e, h⟩ := h
    exact ⟨f, e, ⟨h.1, h.2.1, h.2.2.2⟩, leftWithCleanup_false_of_bare h.2.2.1⟩
  obtain ⟨k, r, s', s'', h⟩ := thread_G (R := fun r s' => c.Ends s args vs s₁ r s' ∧ s'.os = s.os ∧ kept s'.heap) (Shared.asleep_of_life hal.2.2.2 hz) hcode'
  have hq := Shared.forget_eq h.2.2.1
  have hends' := h.2.2.2.1.congr hq.1
  have hkp := h.2.2.2.2.2
  have hos := h.2.2.2.2.1
  rw [← hq.1] at hkp
  rw [← hq.2.2.2.1] at hos
  have hlife : s'.heap.life = s.heap.life := (runN_life _ _ _ h.1).trans hal.2.2.2
  refine hn ⟨vs, s₁, hlaid, k, _, s', h.2.1, ?_, (fun _ i x hx => by rw [hgens] at hx; simp at hx), hkp, by rw [hlife], Shared.rest_eq hos⟩
  clear hn h hq
  rcases hends' with ⟨v, rfl, h⟩ | ⟨e, ob, cls, rfl, h⟩
  · exact .inl ⟨v, rfl, h.1, h.2.1, h.2.2.1, fun b o y _ => h.2.2.2.1 b o y, h.2.2.2.2⟩
  · exact .inr ⟨e, ob, cls, rfl, h.1, h.2.1, h.2.2.1, h.2.2.2.1, fun b o y _ => h.2.2.2.2 b o y⟩

theorem open_G {r : RowW} {name : Str} {q : Program} {loose defs kps : List Str} {writes : Bool} {Xt : Shared → Bool} {XP : (Str → Option Value) → Heap → Prop} {α : Type} {Yf : Shared → α} {Ya : World → α} {YP : World → Heap → Prop} {N : Nat}
    (left : LeftO r.prog q loose Xt Yf Ya N) (hY : ∀ w s, Yf s = Ya w → YP w s.heap) (hYk : ∀ w h h', YP w h → (∀ b o, h.get? b = some o → h'.get? b = some o) → YP w h') (hX : ∀ s, Xt s = true → XP (s.heap.nsMap mainGlobals) s.heap) (hXk : ∀ mg h h', XP mg h → (∀ b o, h.get? b = some o → h'.get? b = some o) → XP mg h')
    (hRf : ∀ s, Xt s = true → RecFacts r.records s.heap) (hwr : (!writes || r.records.isEmpty) = true) (ok : (chainsOk q && opensWell r.prog && (frees r && r.within.isEmpty)) = true) (hb : r.prog.bare) (hw : r.promised)
    (pin : ∀ w s, s.heap.isNs mainGlobals = true → Ground q loose [] XP w s (s.heap.nsMap mainGlobals) (s.heap.nsMap builtinsNs) s.heap → ∀ n ∈ defs, isTheDefsW r.prog s.heap n)
    (call : ∀ (w : World) (s₀ s₁ : Shared) (mg mb : Str → Option Value), Ground q loose r.records XP w s₀ mg mb s₁.heap → YP w s₁.heap → ∀ (args : List WData) (vs : List Value) (as : List Addr),
      r.claim.pre args = true → WData.layableAll args = true → Laid r.records w s₀ s₁ args vs as → sysModules < s₀.heap.objs.size → ∃ f, mg name = some f ∧
        wpG (model r.prog w) callerA (PySem.call f vs) (fun v s' => GoodWG r.claim (classAt s₀.heap) (ExcName.means s₀.heap) args s₁ (.ok (.ret v)) s') s₁) :
    r.claim.HoldsOpenBy (fun vs => ⟨(do match ← nsGet mainNs name with
      | some f => do ret (← PySem.call f vs)
      | none => unsupported "claim.caller:no-such-global"), .builtin "claim.caller" {}, default, []⟩) defs kps writes := by
  obtain ⟨ok12, k56⟩ := Bool.and_eq_true_iff.mp ok
  obtain ⟨hch, o1⟩ := Bool.and_eq_true_iff.mp ok12
  obtain ⟨k5, k6⟩ := Bool.and_eq_true_iff.mp k56
  obtain ⟨hsame, hu, ha, hap, hm⟩ := frees_parts k5
  refine ⟨⟨hb, o1, by show r.makers.map _ = []; rw [hm]; rfl⟩, hw.witness, fun w => ⟨(left.behind hX hch w).1, fun s' hs' => Classical.byContradiction fun hn => ?_⟩⟩
  obtain ⟨s₀, hf, hg0, s, hT, hz, hgens, hg, GX, y⟩ := (left.behind (XP := fun mg h => XP mg h ∧ RecFacts r.records h) (fun s hs => ⟨hX s hs, hRf s hs⟩) hch w).2 s' hs'
  have G0 : Ground q loose [] XP w s (s.heap.nsMap mainGlobals) (s.heap.nsMap builtinsNs) s.heap := ⟨GX.T, GX.B, GX.D, GX.TE, GX.TD, GX.W, GX.X.1, GX.cls, GX.has, GX.apart, GX.once, GX.K⟩
  have RF := GX.X.2
  refine hn ⟨s₀, hf, hg0, s, hT, pin w s hg G0, RF.1, RF.2.1, ?_⟩
  clear hn
  have hgens' : s.gens = #[] := Array.eq_empty_of_size_eq_zero (beq_iff_eq.mp hgens)
  have G : Ground q loose r.records XP w s _ _ s.heap := RF.ground G0
  refine callFrom_G (c := r.claim) (tree := fun vs => (do match ← nsGet mainNs name with
      | some f => do ret (← PySem.call f vs)
      | none => unsupported "claim.caller:no-such-global")) hz hgens' fun args hpre hlay ord hord => ?_
  obtain ⟨⟨vs, s₁⟩, hlaid⟩ := Option.isSome_iff_exists.mp (layAllW_isSome (P := w.params) (ord := ord) G.has args r.args s (pre_splitW hpre).1)
  have keeps := layAllW_keeps _ _ _ hlaid
  have hal := layAllW_rest _ _ _ hlaid
  obtain ⟨as, hrd, hin, hold⟩ := reads_layAllW hord _ _ _ hlaid hlay s₁.heap (fun _ _ e => e)
  have L : Laid r.records w s s₁ args vs as := ⟨⟨ord, hord, hlaid⟩, hrd, hin, hold, keeps, hal.1.trans hgens', hal.2.2.1⟩
  have G₁ := G.keeps hXk keeps
  obtain ⟨f, hfn, h⟩ := call w s s₁ _ _ G₁ (hYk _ _ _ (hY w s y) keeps) args vs as hpre hlay L G.low
  have hi := ident_freeW hu ha hap
  have hwi : r.claim.within = [] := List.isEmpty_iff.mp k6
  refine ⟨vs, s₁, hlaid, wpG_bind (wpG_of_any (wpAny_nsGet G₁.T.g ?_))⟩
  rw [hfn]
  refine wpG_bind (wpG_mono h fun v s' g => wpG_pure ?_)
  have z := g.laid (c := r.claim) hsame hwi hi L
  exact ⟨_, rfl, z.1, z.2.1, z.2.2, fun q => ⟨namesKept_of hT hg kps keeps g.2.1.old, noTable hwr q⟩⟩

noncomputable abbrev WalkG (q : Program) (loose : List Str) (XP : (Str → Option Value) → Heap → Prop) (YP : World → Heap → Prop) (r : RowW) (d : DefRec) (kwd : List (Str × PySem.Expr)) : Prop :=
  ∀ (w : World) (s₀ s₁ : Shared) (mg mb : Str → Option Value), Ground q loose r.records XP w s₀ mg mb s₁.heap → YP w s₁.heap → ∀ (a : Addr) (o : Obj) (pm cd doc dV kV : Value), s₁.heap.get? a = some o →
    o.data = .func { docDef d.name d.params d.body d.scope pm cd doc with defaults := dV, kwdefaults := kV } → s₁.heap.CodeRec cd d.name → Dflts mg s₁.heap d.params kwd dV kV → mg d.name = some (.ref a) → s₁.gens = #[] →
    ∀ (args : List WData) (vals : List Value) (as : List Addr), r.claim.pre args = true → WData.layableAll args = true → ReadsAllW r.records (classAt s₀.heap) s₁.heap vals args as → WellAll w.params s₁.heap vals args → (∀ a ∈ as, (a == sysModules) = false) →
      wpG (model r.prog w) callerA (PySem.call (.ref a) vals) (fun v s' => GoodWG r.claim (classAt s₀.heap) (ExcName.means s₀.heap) args s₁ (.ok (.ret v)) s') s₁

theorem holds_openG {r : OpenRow} {q : Program} {loose : List Str} {Xt : Shared → Bool} {XP : (Str → Option Value) → Heap → Prop} {α : Type} {Yf : Shared → α} {Ya : World → α} {YP : World → Heap → Prop} {d : DefRec} {kwd : List (Str × PySem.Expr)} {N : Nat}
    (left : LeftO r.prog q loose Xt Yf Ya N) (hY : ∀ w s, Yf s = Ya w → YP w s.heap) (hYk : ∀ w h h', YP w h → (∀ b o, h.get? b = some o → h'.get? b = some o) → YP w h')
    (hX : ∀ s, Xt s = true → XP (s.heap.nsMap mainGlobals) s.heap) (hXk : ∀ mg h h', XP mg h → (∀ b o, h.get? b = some o → h'.get? b = some o) → XP mg h')
    (hdef : defOf q r.name = some (d, kwd)) (hp : r.prog.theDef r.name = some (d.params, d.body, d.scope)) (hk : kwWritten? d.params.kwonlyargs d.params.kw_defaults = some kwd) (hRf : ∀ s, Xt s = true → RecFacts r.records s.heap) (hwr : (!r.writes || r.records.isEmpty) = true)
    (k1 : r.wellSaid = true) (ok : (chainsOk q && opensWell r.prog && (frees r.toRowW && r.within.isEmpty)) = true) (hb : r.prog.bare) (hw : r.toRowW.promised)
    (call : WalkG q loose XP YP r.toRowW d kwd) : r.Holds := by
  refine ⟨k1, hw, open_G (r := r.toRowW) left hY hYk hX hXk hRf hwr ok hb hw (fun w s hg G n hn => ?_) fun w s₀ s₁ mg mb G Y args vs as hpre hlay L low => ?_⟩
  · obtain rfl : n = r.name := by split at hn <;> simp_all
    exact pinned_of_view hg G hdef hp hk
  · obtain ⟨a, o, pm, cd, doc, dV, kV, h1, h2, h3, h4, h5⟩ := G.fn hdef
    exact ⟨.ref a, h1, call w s₀ s₁ mg mb G Y a o pm cd doc dV kV h2 h3 h4 h5 (defOf_name hdef ▸ h1) L.gens args vs as hpre hlay L.reads L.well (L.low low)⟩
end Mine
end
section
set_option tactic.hygienic false
set_option backward.match.sparseCases false
open PySem PySem.W
namespace Mine

/-! ## the small language -/
inductive BOp where | add | sub | mul | fdiv | mod | pow | shl | shr | and | or
  deriving DecidableEq
inductive COp where | lt | le | gt | ge | eq | ne | notin | is | isnt
  deriving DecidableEq
inductive Bi where | len | bytes | barr | range | list | tuple | sorted | min
  deriving DecidableEq

inductive E where
  | int (i : Int) | bytes (b : List Nat) | none | bool (b : Bool)
  | var (x : Nat)
  | bin (op : BOp) (l r : E)
  | cmp (op : COp) (l r : E)
  | bop (isAnd : Bool) (es : List E)
  | not (e : E)
  | attr (e : E) (f : Nat)
  | idx (e i : E)
  | slc (e lo hi : E)
  | list (es : List E)
  | tup (es : List E)
  | call (f : Nat) (es : List E)
  | new (C : Nat) (es : List E)
  | meth (e : E) (m : Nat) (es : List E)
  | bi (b : Bi) (es : List E)
  | comp (elt : E) (x : Nat) (iter : E) (ifs : List E)
inductive S where
  | asg (x : Nat) (e : E)
  | asgT (xs : List Nat) (e : E)
  | asgA (o : E) (f : Nat) (e : E)
  | asgI (o i e : E)
  | aug (x : Nat) (op : BOp) (e : E)
  | augA (o : E) (f : Nat) (op : BOp) (e : E)
  | ex (e : E)
  | ite (c : E) (a b : List S)
  | whl (c : E) (b : List S)
  | for1 (x : Nat) (it : E) (b : List S)
  | forT (xs : List Nat) (it : E) (b : List S)
  | ret (e : E)
  | raise
  | tr (b : List S)

/-- names of attributes and methods, by number -/
noncomputable def attrTab : List String := ["data", "at", "parts", "number", "size", "smallest", "largest", "comparator", "log_number", "next_file", "last_seq",
  "compact_pointers", "deleted", "added", "reset", "level", "check", "index", "term", "conf_octets", "runs", "kind", "client", "key", "value", "expect",
  "voters", "learners", "outgoing", "learners_next", "auto_leave", "conf", "to", "frm", "log_term", "entries", "commit", "snapshot", "reject", "reject_hint", "context",
  "left", "varint", "fixed32", "lengthed", "octet", "flag", "done", "row", "encode", "append", "extend"]
noncomputable def attrName (i : Nat) : Str := Str.ofString (attrTab.getD i "")
noncomputable def attrId (n : Str) : Option Nat := attrTab.findIdx? fun x => Str.ofString x == n

inductive GV where | fn (a : Nat) | cls (a : Nat) | int (i : Int) | bi (b : Bi)
  deriving DecidableEq
/-- what a global name says, by the heap's written part -/
noncomputable def biTab : List (String × Bi) := [("len", .len), ("bytes", .bytes), ("bytearray", .barr), ("range", .range), ("list", .list), ("tuple", .tuple), ("sorted", .sorted), ("min", .min)]
noncomputable def globIn (K : Frag) (n : Str) : Option GV := match nsIn K mainGlobals n with
  | some (some (.int i _)) => some (.int i)
  | some (some (.ref a)) => (match K.lookup a with
      | some ⟨_, _, .func _, _⟩ => some (.fn a)
      | some ⟨_, _, .cls _, _⟩ => some (.cls a)
      | _ => none)
  | some none => (biTab.find? fun p => Str.ofString p.1 == n).map fun p => .bi p.2
  | _ => none

noncomputable def bopOf : Operator → Option BOp
  | .Add => some .add | .Sub => some .sub | .Mult => some .mul | .FloorDiv => some .fdiv | .Mod => some .mod | .Pow => some .pow
  | .LShift => some .shl | .RShift => some .shr | .BitAnd => some .and | .BitOr => some .or
  | _ => none
noncomputable def copOf : CmpOp → Option COp
  | .Lt => some .lt | .LtE => some .le | .Gt => some .gt | .GtE => some .ge | .Eq => some .eq | .NotEq => some .ne | .NotIn => some .notin
  | .Is => some .is | .IsNot => some .isnt
  | _ => none

/-- where a text stands: its names' kinds, their slots, the next free slot -/
structure Cx where
  K : Frag
  sc : Scope
  nm : List (Str × Nat)
  top : Nat

noncomputable def Cx.slot (c : Cx) (n : Str) : Option Nat :=
  match c.sc.names.lookup n with
  | some .local | some .cell | some .free => c.nm.lookup n
  | _ => none
noncomputable def Cx.glob (c : Cx) (n : Str) : Option GV := match c.sc.names.lookup n with
  | some .globalImplicit => globIn c.K n
  | _ => none
noncomputable def Cx.comp (c : Cx) (sc : Scope) (x : Str) : Cx := { K := c.K, sc := sc, nm := (x, c.top) :: c.nm.filter (fun p => p.1 != x && sc.names.lookup p.1 == some .free), top := c.top + 1 }

/-- a comprehension that the proof knows -/
noncomputable def compOk (c : Cx) (sc : Scope) (x : Str) : Bool :=
  sc.kind == .function && sc.names.lookup x == some .local && sc.names.all fun p =>
    p.2 != .cell && (p.2 != .local || sc.names.lookup p.1 == some .local) &&
    (p.2 != .free || (sc.names.lookup p.1 == some .free && p.1 != ("__classdict__" : Str) && (c.sc.names.lookup p.1 == some .cell || c.sc.names.lookup p.1 == some .free)))

mutual
noncomputable def compE (c : Cx) : Nat → PySem.Expr → Option E
  | 0, _ => none
  | k + 1, e => match e with
    | .Constant (.int i) _ _ => some (.int i)
    | .Constant (.bytes b) _ _ => some (.bytes (b.map (·.toNat)))
    | .Constant .none _ _ => some .none
    | .Constant (.bool b) _ _ => some (.bool b)
    | .Name n _ => if n == ("__debug__" : Str) then none else match c.slot n with
      | some x => some (.var x)
      | none => match c.glob n with
        | some (.int i) => some (.int i)
        | _ => none
    | .BinOp l op r _ => (bopOf op).bind fun o => (compE c k l).bind fun a => (compE c k r).map fun b => .bin o a b
    | .Compare l [op] [r] _ => (copOf op).bind fun o => (compE c k l).bind fun a => (compE c k r).map fun b => .cmp o a b
    | .BoolOp .And es _ => (compEs c k es).map (.bop true)
    | .BoolOp .Or es _ => (compEs c k es).map (.bop false)
    | .UnaryOp .Not e _ => (compE c k e).map .not
    | .UnaryOp .USub (.Constant (.int i) _ _) _ => some (.int (-i))
    | .Attribute v n _ => (attrId n).bind fun f => (compE c k v).map fun a => .attr a f
    | .Subscript v (.Slice lo hi none _) _ => (compE c k v).bind fun a => (compO c k lo).bind fun l => (compO c k hi).map fun h => .slc a l h
    | .Subscript v i _ => (compE c k v).bind fun a => (compE c k i).map fun b => .idx a b
    | .List es _ => (compEs c k es).map .list
    | .Tuple es _ _ => (compEs c k es).map .tup
    | .Call (.Attribute v n apos) args [] pos => if apos.endLine == pos.line && decide (args.length < 30) then
        (attrId n).bind fun m => (compE c k v).bind fun a => (compEs c k args).map fun es => .meth a m es else none
    | .Call (.Name n _) args [] _ => if n == ("__debug__" : Str) || n == ("super" : Str) || decide (30 ≤ args.length) then none else match c.glob n with
      | some (.fn a) => (compEs c k args).map (.call a)
      | some (.cls a) => (compEs c k args).map (.new a)
      | some (.bi b) => (compEs c k args).map (.bi b)
      | _ => none
    | .ListComp elt [⟨.Name x _, iter, ifs, 0⟩] sc _ => if compOk c sc x then
      (compE c k iter).bind fun it => (compE (c.comp sc x) k elt).bind fun el => (compEs (c.comp sc x) k ifs).map fun cs => .comp el c.top it cs
      else none
    | _ => none
noncomputable def compEs (c : Cx) : Nat → List PySem.Expr → Option (List E)
  | 0, _ => none
  | _ + 1, [] => some []
  | k + 1, e :: es => (compE c k e).bind fun a => (compEs c k es).map fun as => a :: as
noncomputable def compO (c : Cx) : Nat → Option PySem.Expr → Option E
  | 0, _ => none
  | _ + 1, none => some .none
  | k + 1, some e => compE c k e
end

noncomputable def slotsOf (c : Cx) : List PySem.Expr → Option (List Nat)
  | [] => some []
  | .Name n _ :: es => (c.slot n).bind fun x => (slotsOf c es).map fun xs => x :: xs
  | _ :: _ => none

noncomputable def isComp : PySem.Expr → Bool
  | .ListComp .. | .SetComp .. | .DictComp .. => true
  | _ => false
mutual
noncomputable def compS (c : Cx) : Nat → PySem.Stmt → Option S
  | 0, _ => none
  | k + 1, s => match s with
    | .Assign [.Name n _] v _ => (c.slot n).bind fun x => (compE c k v).map fun e => .asg x e
    | .Assign [.Tuple ts _ _] (.Call f as ks p) _ => (slotsOf c ts).bind fun xs => (compE c k (.Call f as ks p)).map fun e => .asgT xs e
    | .Assign [.Attribute o n _] v _ => (attrId n).bind fun f => (compE c k v).bind fun e => (compE c k o).map fun a => .asgA a f e
    | .Assign [.Subscript o i _] v _ => (compE c k v).bind fun e => (compE c k o).bind fun a => (compE c k i).map fun b => .asgI a b e
    | .AugAssign (.Name n _) op v _ => (bopOf op).bind fun o => (c.slot n).bind fun x => (compE c k v).map fun e => .aug x o e
    | .AugAssign (.Attribute o n _) op v _ => (bopOf op).bind fun p => (attrId n).bind fun f => (compE c k o).bind fun a => (compE c k v).map fun e => .augA a f p e
    | .Expr e _ => if isComp e then none else (compE c k e).map .ex
    | .If t a b _ => (compE c k t).bind fun e => (compSs c k a).bind fun x => (compSs c k b).map fun y => .ite e x y
    | .While t a [] _ => (compE c k t).bind fun e => (compSs c k a).map fun x => .whl e x
    | .For (.Name n _) it a [] _ => (c.slot n).bind fun x => (compE c k it).bind fun e => (compSs c k a).map fun b => .for1 x e b
    | .For (.Tuple ts _ _) it a [] _ => (slotsOf c ts).bind fun xs => (compE c k it).bind fun e => (compSs c k a).map fun b => .forT xs e b
    | .Return (some e) _ => (compE c k e).map .ret
    | .Raise _ _ _ => some .raise
    | .Try a _ [] [] _ => (compSs c k a).map .tr
    | _ => none
noncomputable def compSs (c : Cx) : Nat → List PySem.Stmt → Option (List S)
  | 0, _ => none
  | _ + 1, [] => some []
  | k + 1, e :: es => (compS c k e).bind fun a => (compSs c k es).map fun as => a :: as
end

/-- the slots of a def: its locals and cells, in the order of its table -/
noncomputable def ownNames (sc : Scope) : List Str := (sc.names.filter fun p => p.2 == .local || p.2 == .cell).map (·.1)
noncomputable def Cx.ofDef (K : Frag) (sc : Scope) : Cx := { K, sc, nm := (ownNames sc).zipIdx, top := (ownNames sc).length }
noncomputable def bodyOf (K : Frag) (f : Nat) : Option (List S) := match K.lookup f with
  | some ⟨_, _, .func fd, _⟩ => (match fd.body with
    | .stmts b => compSs (Cx.ofDef K fd.scope) 40 b
    | _ => none)
  | _ => none
end Mine

namespace Mine
/-! ## what it means -/
inductive V where
  | none | bool (b : Bool) | int (i : Int) | bytes (b : List Nat) | tup (vs : List V) | ref (a : Nat) | range (lo hi : Int)
inductive AObj where
  | lst (vs : List V)
  | inst (C : Nat) (fs : List (Nat × V))
  | barr (b : List Nat)
noncomputable abbrev Hp := Nat → Option AObj
noncomputable abbrev Rho := List (Option V)
noncomputable def upd (σ : Hp) (a : Nat) (o : AObj) : Hp := fun b => if b = a then some o else σ b
/-- σ says less than τ -/
noncomputable def Sub (σ τ : Hp) : Prop := ∀ a o, σ a = some o → τ a = some o
noncomputable def setF (f : Nat) (v : V) : List (Nat × V) → List (Nat × V)
  | [] => [(f, v)]
  | (g, u) :: r => if g = f then (f, v) :: r else (g, u) :: setF f v r
noncomputable def getF (f : Nat) : List (Nat × V) → Option V
  | [] => none
  | (g, u) :: r => if g = f then some u else getF f r

/-- the longest list, text of octets that the proof speaks of -/
noncomputable def lim : Nat := 1000000

noncomputable def Rho.get (ρ : Rho) (x : Nat) : Option V := match ρ[x]? with | some o => o | none => none

noncomputable abbrev K1 := V → Hp → Prop

noncomputable def allInts : List V → Option (List Int)
  | [] => some []
  | .int i :: r => (allInts r).map (i :: ·)
  | _ :: _ => none
noncomputable def bytesOfInts (l : List Int) : Option (List Nat) := if l.all (fun i => decide (0 ≤ i) && decide (i < 256)) then some (l.map (·.toNat)) else none

noncomputable def repL {α : Type} (n : Nat) (l : List α) : List α := (List.replicate n l).flatten

noncomputable def intOp : BOp → Int → Int → (Int → Prop) → Prop
  | .add, i, j, Q => Q (i + j)
  | .sub, i, j, Q => Q (i - j)
  | .mul, i, j, Q => i.natAbs < 2 ^ 64 ∧ j.natAbs < 2 ^ 64 ∧ Q (i * j)
  | .fdiv, i, j, Q => 0 < j ∧ j < 1073741824 ∧ Q (i / j)
  | .mod, i, j, Q => 0 < j ∧ Q (i % j)
  | .pow, i, j, Q => 0 ≤ j ∧ j ≤ 100 ∧ i.natAbs < 2 ^ 64 ∧ Q (i ^ j.toNat)
  | .shl, i, j, Q => 0 ≤ j ∧ j ≤ 1000 ∧ i.natAbs < 2 ^ 64 ∧ Q (i * 2 ^ j.toNat)
  | .shr, i, j, Q => 0 ≤ j ∧ Q (i / 2 ^ j.toNat)
  | .and, i, j, Q => 0 ≤ i ∧ 0 ≤ j ∧ Q (Int.ofNat (i.toNat &&& j.toNat))
  | .or, i, j, Q => 0 ≤ i ∧ 0 ≤ j ∧ Q (Int.ofNat (i.toNat ||| j.toNat))

noncomputable def binP (op : BOp) (a b : V) (σ : Hp) (Q : K1) : Prop := match a, b with
  | .int i, .int j => intOp op i j fun k => Q (.int k) σ
  | .tup xs, .tup ys => op = .add ∧ xs.length + ys.length ≤ lim ∧ Q (.tup (xs ++ ys)) σ
  | .tup xs, .int n => op = .mul ∧ xs ≠ [] ∧ 2 ≤ n ∧ n ≤ 1000 ∧ xs.length * n.toNat ≤ lim ∧ Q (.tup (repL n.toNat xs)) σ
  | .bytes xs, .int n => op = .mul ∧ xs ≠ [] ∧ 0 ≤ n ∧ n ≤ 1000 ∧ xs.length * n.toNat ≤ lim ∧ Q (.bytes (repL n.toNat xs)) σ
  | .ref x, .int n => match σ x with
    | some (.lst xs) => op = .mul ∧ 0 ≤ n ∧ n ≤ 1000 ∧ xs.length * n.toNat ≤ lim ∧ ∀ r, σ r = none → Q (.ref r) (upd σ r (.lst (repL n.toNat xs)))
    | _ => False
  | .ref x, .ref y => match σ x, σ y with
    | some (.lst xs), some (.lst ys) => op = .add ∧ xs.length + ys.length ≤ lim ∧ ∀ r, σ r = none → Q (.ref r) (upd σ r (.lst (xs ++ ys)))
    | _, _ => False
  | _, _ => False

/-- no object in it, and not too deep -/
noncomputable def pureV : Nat → V → Bool
  | _, .ref _ | _, .range .. => false
  | n + 1, .tup vs => vs.all (pureV n)
  | 0, .tup _ => false
  | _, _ => true

noncomputable def eqP (a b : V) (σ : Hp) (Q : Bool → Prop) : Prop := match a, b with
  | .int i, .int j => Q (decide (i = j))
  | .ref x, .ref y => match σ x, σ y with
    | some (.lst xs), some (.lst ys) => xs = ys ∧ xs.all (pureV 8) = true ∧ Q true
    | _, _ => False
  | a, b => a = b ∧ pureV 8 a = true ∧ Q true
noncomputable def V.isNil : V → Bool
  | .none => true
  | _ => false
noncomputable def ltP (a b : V) (f : Int → Int → Bool) (Q : Bool → Prop) : Prop := match a, b with | .int i, .int j => Q (f i j) | _, _ => False
noncomputable def cmpP (op : COp) (a b : V) (σ : Hp) (Q : Bool → Prop) : Prop := match op with
  | .eq => eqP a b σ Q
  | .ne => eqP a b σ fun t => Q (!t)
  | .is => b = .none ∧ Q a.isNil
  | .isnt => b = .none ∧ Q (!a.isNil)
  | .notin => match a, b with
    | .int i, .ref y => (match σ y with
      | some (.lst ys) => match allInts ys with
        | some l => Q (!l.contains i)
        | none => False
      | _ => False)
    | _, _ => False
  | .lt => ltP a b (fun i j => decide (i < j)) Q
  | .le => ltP a b (fun i j => decide (i ≤ j)) Q
  | .gt => ltP a b (fun i j => decide (i > j)) Q
  | .ge => ltP a b (fun i j => decide (i ≥ j)) Q
noncomputable def truthP (v : V) (σ : Hp) (Q : Bool → Prop) : Prop := match v with
  | .bool b => Q b
  | .ref x => match σ x with
    | some (.lst xs) => xs.length ≤ lim ∧ Q (!xs.isEmpty)
    | _ => False
  | _ => False

noncomputable def idxP (a i : V) (σ : Hp) (Q : V → Prop) : Prop := match a, i with
  | .tup vs, .int i => 0 ≤ i ∧ vs.length ≤ lim ∧ ∃ v, vs[i.toNat]? = some v ∧ Q v
  | .bytes b, .int i => 0 ≤ i ∧ b.length ≤ lim ∧ ∃ n, b[i.toNat]? = some n ∧ Q (.int n)
  | .ref x, .int i => match σ x with
    | some (.lst vs) => vs.length ≤ lim ∧ ((0 ≤ i ∧ ∃ v, vs[i.toNat]? = some v ∧ Q v) ∨ (i = -1 ∧ ∃ v, vs.getLast? = some v ∧ Q v))
    | _ => False
  | _, _ => False
noncomputable def bnd (d : Nat) : V → Option Nat
  | .none => some d
  | .int i => if 0 ≤ i ∧ i < 2 ^ 60 then some i.toNat else none
  | _ => none
/-- what a call of def number f does -/
noncomputable abbrev Calls := Nat → List V → Hp → K1 → Prop
/-- the classes: __init__, the methods -/
structure Tab where
  init : Nat → Option Nat
  meth : Nat → Nat → Option Nat
  fld : Nat → Nat → Bool
  con : Nat → Option (List V)

noncomputable def slcP (T : Tab) (a lo hi : V) (σ : Hp) (Q : K1) : Prop := match a with
  | .bytes b => b.length ≤ lim ∧ ∃ l h, bnd 0 lo = some l ∧ bnd b.length hi = some h ∧ Q (.bytes ((b.take h).drop l)) σ
  | .ref x => match σ x with
    | some (.lst vs) => vs.length ≤ lim ∧ ∃ l h, bnd 0 lo = some l ∧ bnd vs.length hi = some h ∧ ∀ r, σ r = none → Q (.ref r) (upd σ r (.lst ((vs.take h).drop l)))
    | none => (match T.con x with
      | some vs => vs.length ≤ lim ∧ ∃ l h, bnd 0 lo = some l ∧ bnd vs.length hi = some h ∧ ∀ r, σ r = none → Q (.ref r) (upd σ r (.lst ((vs.take h).drop l)))
      | none => False)
    | _ => False
  | _ => False

noncomputable def sortI (l : List Int) : List Int := l.mergeSort (fun a b => decide (a ≤ b))

noncomputable def biP (b : Bi) (vs : List V) (σ : Hp) (Q : K1) : Prop := match b, vs with
  | .len, [.bytes b] => b.length ≤ lim ∧ Q (.int b.length) σ
  | .len, [.tup vs] => vs.length ≤ lim ∧ Q (.int vs.length) σ
  | .len, [.ref x] => (match σ x with
    | some (.lst xs) => xs.length ≤ lim ∧ Q (.int xs.length) σ
    | _ => False)
  | .bytes, [.int n] => 0 ≤ n ∧ n ≤ 1000 ∧ Q (.bytes (List.replicate n.toNat 0)) σ
  | .bytes, [.bytes b] => b.length ≤ lim ∧ Q (.bytes b) σ
  | .bytes, [.ref x] => (match σ x with
    | some (.lst xs) => xs.length ≤ lim ∧ ∃ l b, allInts xs = some l ∧ bytesOfInts l = some b ∧ Q (.bytes b) σ
    | some (.barr b) => b.length ≤ lim ∧ Q (.bytes b) σ
    | _ => False)
  | .barr, [] => ∀ r, σ r = none → Q (.ref r) (upd σ r (.barr []))
  | .range, [.int n] => n.natAbs < 2 ^ 60 ∧ Q (.range 0 n) σ
  | .range, [.int m, .int n] => m.natAbs < 2 ^ 60 ∧ n.natAbs < 2 ^ 60 ∧ Q (.range m n) σ
  | .list, [.bytes b] => b.length ≤ lim ∧ ∀ r, σ r = none → Q (.ref r) (upd σ r (.lst (b.map fun (n : Nat) => V.int (n : Int))))
  | .list, [.ref x] => (match σ x with
    | some (.lst xs) => xs.length ≤ lim ∧ ∀ r, σ r = none → Q (.ref r) (upd σ r (.lst xs))
    | _ => False)
  | .tuple, [.ref x] => (match σ x with
    | some (.lst xs) => xs.length ≤ lim ∧ Q (.tup xs) σ
    | _ => False)
  | .sorted, [.ref x] => (match σ x with
    | some (.lst xs) => xs.length < 64 ∧ ∃ l, allInts xs = some l ∧ ∀ r, σ r = none → Q (.ref r) (upd σ r (.lst ((sortI l).map .int)))
    | _ => False)
  | .min, [.int i, .int j] => Q (.int (min i j)) σ
  | _, _ => False

/-- what a method's name says: 0 list.append, 1 bytearray.append, 2 bytearray.extend, else a def's number and 3 -/
noncomputable def methK (T : Tab) (m : Nat) (σ : Hp) : V → Option Nat
  | .ref x => match σ x with
    | some (.inst c fs) => if (getF m fs).isNone then (T.meth c m).map (· + 3) else none
    | some (.lst _) => if m = 50 then some 0 else none
    | some (.barr _) => if m = 50 then some 1 else if m = 51 then some 2 else none
    | none => none
  | _ => none
noncomputable def methP (T : Tab) (C : Calls) (a : V) (m : Nat) (vs : List V) (σ : Hp) (Q : K1) : Prop := match a with
  | .ref x => match σ x with
    | some (.inst c fs) => (match T.meth c m with
      | some f => (getF m fs).isNone = true ∧ C f (.ref x :: vs) σ Q
      | none => False)
    | some (.lst xs) => (match vs with
      | [v] => m = 50 ∧ xs.length < lim ∧ Q .none (upd σ x (.lst (xs ++ [v])))
      | _ => False)
    | some (.barr b) => (match vs with
      | [.int n] => m = 50 ∧ 0 ≤ n ∧ n < 256 ∧ b.length < lim ∧ Q .none (upd σ x (.barr (b ++ [n.toNat])))
      | [.bytes c] => m = 51 ∧ b.length + c.length ≤ lim ∧ Q .none (upd σ x (.barr (b ++ c)))
      | _ => False)
    | none => False
  | _ => False
noncomputable def newP (T : Tab) (C : Calls) (c : Nat) (vs : List V) (σ : Hp) (Q : K1) : Prop := match T.init c with
  | some f => ∀ r, σ r = none → C f (.ref r :: vs) (upd σ r (.inst c [])) fun v σ' => v = .none ∧ Q (.ref r) σ'
  | none => False
noncomputable def attrP (T : Tab) (a : V) (f : Nat) (σ : Hp) (Q : V → Prop) : Prop := match a with
  | .ref x => match σ x with
    | some (.inst c fs) => T.fld c f = true ∧ ∃ v, getF f fs = some v ∧ Q v
    | _ => False
  | _ => False

/-- what a loop runs over -/
noncomputable def itemsOf (σ : Hp) : V → Option (List V)
  | .tup vs => some vs
  | .range lo hi => some ((List.range (hi - lo).toNat).map fun (k : Nat) => V.int (lo + (k : Int)))
  | .ref x => match σ x with
    | some (.lst vs) => some vs
    | _ => none
  | _ => none

/-- a comprehension's turns -/
noncomputable def compLoop (src : V) (all : List V) (test : V → Hp → (Bool → Hp → Prop) → Prop) (elt : V → Hp → K1 → Prop) : List V → List V → Hp → (List V → Hp → Prop) → Prop
  | [], acc, σ, Q => itemsOf σ src = some all ∧ Q acc σ
  | v :: vs, acc, σ, Q => itemsOf σ src = some all ∧ test v σ fun t σ₁ => if t = true
      then elt v σ₁ fun u σ₂ => acc.length < lim ∧ compLoop src all test elt vs (acc ++ [u]) σ₂ Q
      else compLoop src all test elt vs acc σ₁ Q

section
variable (T : Tab) (C : Calls)
mutual
noncomputable def wpE : E → Rho → Hp → K1 → Prop
  | .int i, _, σ, Q => Q (.int i) σ
  | .bytes b, _, σ, Q => Q (.bytes b) σ
  | .none, _, σ, Q => Q .none σ
  | .bool b, _, σ, Q => Q (.bool b) σ
  | .var x, ρ, σ, Q => ∃ v, ρ.get x = some v ∧ Q v σ
  | .bin op l r, ρ, σ, Q => wpE l ρ σ fun a σ => wpE r ρ σ fun b σ => binP op a b σ Q
  | .cmp op l r, ρ, σ, Q => wpE l ρ σ fun a σ => wpE r ρ σ fun b σ => cmpP op a b σ fun t => Q (.bool t) σ
  | .bop t es, ρ, σ, Q => wpO t es ρ σ Q
  | .not e, ρ, σ, Q => wpE e ρ σ fun v σ => truthP v σ fun t => Q (.bool (!t)) σ
  | .attr e f, ρ, σ, Q => wpE e ρ σ fun a σ => attrP T a f σ fun v => Q v σ
  | .idx e i, ρ, σ, Q => wpE e ρ σ fun a σ => wpE i ρ σ fun b σ => idxP a b σ fun v => Q v σ
  | .slc e lo hi, ρ, σ, Q => wpE e ρ σ fun a σ => wpE lo ρ σ fun l σ => wpE hi ρ σ fun h σ => slcP T a l h σ Q
  | .list es, ρ, σ, Q => wpL es ρ σ fun vs σ => vs.length ≤ lim ∧ ∀ r, σ r = Option.none → Q (.ref r) (upd σ r (.lst vs))
  | .tup es, ρ, σ, Q => wpL es ρ σ fun vs σ => vs.length ≤ lim ∧ Q (.tup vs) σ
  | .call f es, ρ, σ, Q => wpL es ρ σ fun vs σ => C f vs σ Q
  | .new c es, ρ, σ, Q => wpL es ρ σ fun vs σ => newP T C c vs σ Q
  | .meth e m es, ρ, σ, Q => wpE e ρ σ fun a σ₁ => ∃ k, methK T m σ₁ a = some k ∧ wpL es ρ σ₁ fun vs σ₂ => methK T m σ₂ a = some k ∧ methP T C a m vs σ₂ Q
  | .bi b es, ρ, σ, Q => wpL es ρ σ fun vs σ => biP b vs σ Q
  | .comp elt x iter ifs, ρ, σ, Q => wpE iter ρ σ fun s σ => ∃ all, itemsOf σ s = some all ∧ all.length ≤ lim ∧
      compLoop s all (fun v σ Q => wpA ifs (ρ.set x (some v)) σ Q) (fun v σ Q => wpE elt (ρ.set x (some v)) σ Q) all [] σ
        fun vs σ => ∀ r, σ r = Option.none → Q (.ref r) (upd σ r (.lst vs))
/-- and, or: the value -/
noncomputable def wpO : Bool → List E → Rho → Hp → K1 → Prop
  | _, [], _, _, _ => False
  | _, [e], ρ, σ, Q => wpE e ρ σ Q
  | t, e :: e2 :: es, ρ, σ, Q => wpE e ρ σ fun v σ => truthP v σ fun b => if b = t then wpO t (e2 :: es) ρ σ Q else Q v σ
noncomputable def wpL : List E → Rho → Hp → (List V → Hp → Prop) → Prop
  | [], _, σ, Q => Q [] σ
  | e :: es, ρ, σ, Q => wpE e ρ σ fun v σ => wpL es ρ σ fun vs σ => Q (v :: vs) σ
/-- all the tests hold -/
noncomputable def wpA : List E → Rho → Hp → (Bool → Hp → Prop) → Prop
  | [], _, σ, Q => Q true σ
  | e :: es, ρ, σ, Q => wpB e ρ σ fun b σ => if b = true then wpA es ρ σ Q else Q false σ
/-- a test -/
noncomputable def wpB : E → Rho → Hp → (Bool → Hp → Prop) → Prop
  | .not e, ρ, σ, Q => wpB e ρ σ fun b σ => Q (!b) σ
  | .bop t es, ρ, σ, Q => wpBs t es ρ σ Q
  | .cmp op l r, ρ, σ, Q => wpE l ρ σ fun a σ => wpE r ρ σ fun b σ => cmpP op a b σ fun t => Q t σ
  | .bool b, _, σ, Q => Q b σ
  | .var x, ρ, σ, Q => ∃ v, ρ.get x = some v ∧ truthP v σ fun t => Q t σ
  | .attr e f, ρ, σ, Q => wpE e ρ σ fun a σ => attrP T a f σ fun v => truthP v σ fun t => Q t σ
  | .call f es, ρ, σ, Q => wpL es ρ σ fun vs σ => C f vs σ fun v σ => truthP v σ fun t => Q t σ
  | .meth e m es, ρ, σ, Q => wpE e ρ σ fun a σ₁ => ∃ k, methK T m σ₁ a = some k ∧ wpL es ρ σ₁ fun vs σ₂ => methK T m σ₂ a = some k ∧ methP T C a m vs σ₂ fun v σ => truthP v σ fun t => Q t σ
  | _, _, _, _ => False
noncomputable def wpBs : Bool → List E → Rho → Hp → (Bool → Hp → Prop) → Prop
  | t, [], _, σ, Q => Q t σ
  | t, e :: es, ρ, σ, Q => wpB e ρ σ fun b σ => if b = t then wpBs t es ρ σ Q else Q b σ
end

inductive Fl where | next | ret (v : V)

noncomputable abbrev K2 := Fl → Rho → Hp → Prop

noncomputable def setAll : List Nat → List V → Rho → Option Rho
  | [], [], ρ => some ρ
  | x :: xs, v :: vs, ρ => setAll xs vs (ρ.set x (some v))
  | _, _, _ => none

noncomputable def forLoop (src : V) (all : List V) (turn : V → Rho → Hp → K2 → Prop) : List V → Rho → Hp → K2 → Prop
  | [], ρ, σ, Q => itemsOf σ src = some all ∧ Q .next ρ σ
  | v :: vs, ρ, σ, Q => itemsOf σ src = some all ∧ turn v ρ σ fun f ρ σ => match f with
      | .next => ∃ τ, Sub τ σ ∧ forLoop src all turn vs ρ τ Q
      | .ret r => Q (.ret r) ρ σ
noncomputable def whileLoop (test : Rho → Hp → (Bool → Hp → Prop) → Prop) (body : Rho → Hp → K2 → Prop) : Nat → Rho → Hp → K2 → Prop
  | 0, _, _, _ => False
  | n + 1, ρ, σ, Q => test ρ σ fun b σ => if b = true
      then body ρ σ fun f ρ σ => match f with
        | .next => ∃ τ, Sub τ σ ∧ whileLoop test body n ρ τ Q
        | .ret r => Q (.ret r) ρ σ
      else Q .next ρ σ

mutual
noncomputable def wpS : S → Rho → Hp → K2 → Prop
  | .asg x e, ρ, σ, Q => wpE T C e ρ σ fun v σ => Q .next (ρ.set x (some v)) σ
  | .asgT xs e, ρ, σ, Q => wpE T C e ρ σ fun v σ => match v with
      | .tup vs => ∃ ρ', setAll xs vs ρ = some ρ' ∧ Q .next ρ' σ
      | _ => False
  | .asgA o f e, ρ, σ, Q => wpE T C e ρ σ fun v σ => wpE T C o ρ σ fun a σ => match a with
      | .ref x => (match σ x with
        | some (.inst c fs) => T.fld c f = true ∧ fs.length ≤ 100 ∧ Q .next ρ (upd σ x (.inst c (setF f v fs)))
        | _ => False)
      | _ => False
  | .asgI o i e, ρ, σ, Q => wpE T C e ρ σ fun v σ => wpE T C o ρ σ fun a σ => wpE T C i ρ σ fun j σ => match a, j with
      | .ref x, .int k => (match σ x with
        | some (.lst vs) => vs.length ≤ lim ∧ 0 ≤ k ∧ k.toNat < vs.length ∧ Q .next ρ (upd σ x (.lst (vs.set k.toNat v)))
        | _ => False)
      | _, _ => False
  | .aug x op e, ρ, σ, Q => ∃ u, ρ.get x = some u ∧ wpE T C e ρ σ fun v σ => match u, v with
      | .int i, .int j => intOp op i j fun k => Q .next (ρ.set x (some (.int k))) σ
      | _, _ => False
  | .augA o f op e, ρ, σ, Q => wpE T C o ρ σ fun a σ => attrP T a f σ fun u => wpE T C e ρ σ fun v σ => match u, v, a with
      | .int i, .int j, .ref x => intOp op i j fun k => (match σ x with
        | some (.inst c fs) => T.fld c f = true ∧ fs.length ≤ 100 ∧ Q .next ρ (upd σ x (.inst c (setF f (.int k) fs)))
        | _ => False)
      | _, _, _ => False
  | .ex e, ρ, σ, Q => wpE T C e ρ σ fun _ σ => Q .next ρ σ
  | .ite c a b, ρ, σ, Q => wpB T C c ρ σ fun t σ => if t = true then wpSs a ρ σ Q else wpSs b ρ σ Q
  | .whl c b, ρ, σ, Q => ∃ n, whileLoop (fun ρ σ Q => wpB T C c ρ σ Q) (fun ρ σ Q => wpSs b ρ σ Q) n ρ σ Q
  | .for1 x it b, ρ, σ, Q => wpE T C it ρ σ fun s σ => ∃ all, itemsOf σ s = some all ∧ all.length ≤ lim ∧
      forLoop s all (fun v ρ σ Q => wpSs b (ρ.set x (some v)) σ Q) all ρ σ Q
  | .forT xs it b, ρ, σ, Q => wpE T C it ρ σ fun s σ => ∃ all, itemsOf σ s = some all ∧ all.length ≤ lim ∧
      forLoop s all (fun v ρ σ Q => match v with
        | .tup vs => ∃ ρ', setAll xs vs ρ = some ρ' ∧ wpSs b ρ' σ Q
        | _ => False) all ρ σ Q
  | .ret e, ρ, σ, Q => wpE T C e ρ σ fun v σ => Q (.ret v) ρ σ
  | .raise, _, _, _ => False
  | .tr b, ρ, σ, Q => wpSs b ρ σ Q
noncomputable def wpSs : List S → Rho → Hp → K2 → Prop
  | [], ρ, σ, Q => Q .next ρ σ
  | s :: ss, ρ, σ, Q => wpS s ρ σ fun f ρ σ => match f with
      | .next => wpSs ss ρ σ Q
      | .ret r => Q (.ret r) ρ σ
end
end

/-- the defs: how many arguments, how many slots, the body -/
structure Def where
  args : Nat
  size : Nat
  body : List S
  dfl : List V := []
/-- the arguments, with the values of those that are not given -/
noncomputable def Def.fill (d : Def) (vs : List V) : List V := vs ++ d.dfl.drop (d.dfl.length + vs.length - d.args)
noncomputable def callN (T : Tab) (P : Nat → Option Def) : Nat → Calls
  | 0, _, _, _, _ => False
  | n + 1, f, vs, σ, Q => match P f with
    | some d => vs.length ≤ d.args ∧ d.args ≤ vs.length + d.dfl.length ∧ wpSs T (callN T P n) d.body ((d.fill vs).map some ++ List.replicate (d.size - d.args) none) σ fun fl _ σ' =>
        ∃ τ, Sub τ σ' ∧ Q (match fl with | .ret v => v | .next => .none) τ
    | none => False
end Mine
end
section
set_option tactic.hygienic false
set_option backward.match.sparseCases false
namespace Mine
-- write_groups
noncomputable def b_113 : List S := [.ite (.bop false [.cmp .lt (.var 0) (.int 0), .cmp .gt (.var 0) (.var 1)]) [.raise] [], .asg 2 (.bi .barr []), .whl (.cmp .ge (.var 0) (.int 128)) [.ex (.meth (.var 2) 50 [.bin .or (.bin .and (.var 0) (.int 127)) (.int 128)]), .aug 0 .shr (.int 7)], .ex (.meth (.var 2) 50 [.var 0]), .ret (.bi .bytes [.var 2])]
-- read_groups
noncomputable def b_120 : List S := [.ite (.cmp .lt (.var 1) (.int 0)) [.raise] [], .asg 4 (.int 0), .asg 5 (.int 0), .for1 6 (.bi .range [.var 2]) [.ite (.cmp .ge (.var 1) (.bi .len [.var 0])) [.raise] [], .asg 7 (.idx (.var 0) (.var 1)), .aug 1 .add (.int 1), .aug 4 .or (.bin .shl (.bin .and (.var 7) (.int 127)) (.var 5)), .ite (.cmp .lt (.var 7) (.int 128)) [.ite (.cmp .gt (.var 4) (.var 3)) [.raise] [], .ret (.tup [.var 4, .var 1])] [], .aug 5 .add (.int 7)], .raise]
-- put_varint
noncomputable def b_127 : List S := [.ite (.bop true [.cmp .ge (.var 0) (.int 0), .cmp .lt (.var 0) (.int 128)]) [.ret (.bi .bytes [.list [.var 0]])] [], .ret (.call 113 [.var 0, .int 18446744073709551615])]
-- read_varint
noncomputable def b_134 : List S := [.ite (.bop true [.cmp .ge (.var 1) (.int 0), .cmp .lt (.var 1) (.bi .len [.var 0]), .cmp .lt (.idx (.var 0) (.var 1)) (.int 128)]) [.ret (.tup [.idx (.var 0) (.var 1), .bin .add (.var 1) (.int 1)])] [], .ret (.call 120 [.var 0, .var 1, .int 10, .int 18446744073709551615])]
-- put_varint32
noncomputable def b_141 : List S := [.ite (.bop true [.cmp .ge (.var 0) (.int 0), .cmp .lt (.var 0) (.int 128)]) [.ret (.bi .bytes [.list [.var 0]])] [], .ret (.call 113 [.var 0, .int 4294967295])]
-- read_varint32
noncomputable def b_148 : List S := [.ite (.bop true [.cmp .ge (.var 1) (.int 0), .cmp .lt (.var 1) (.bi .len [.var 0]), .cmp .lt (.idx (.var 0) (.var 1)) (.int 128)]) [.ret (.tup [.idx (.var 0) (.var 1), .bin .add (.var 1) (.int 1)])] [], .ret (.call 120 [.var 0, .var 1, .int 5, .int 4294967295])]
-- put_fixed32
noncomputable def b_162 : List S := [.ite (.bop false [.cmp .lt (.var 0) (.int 0), .cmp .gt (.var 0) (.int 4294967295)]) [.raise] [], .ret (.bi .bytes [.list [.bin .and (.var 0) (.int 255), .bin .and (.bin .shr (.var 0) (.int 8)) (.int 255), .bin .and (.bin .shr (.var 0) (.int 16)) (.int 255), .bin .shr (.var 0) (.int 24)]])]
-- read_fixed32
noncomputable def b_169 : List S := [.ite (.bop false [.cmp .lt (.var 1) (.int 0), .cmp .gt (.bin .add (.var 1) (.int 4)) (.bi .len [.var 0])]) [.raise] [], .ret (.bin .or (.bin .or (.bin .or (.idx (.var 0) (.var 1)) (.bin .shl (.idx (.var 0) (.bin .add (.var 1) (.int 1))) (.int 8))) (.bin .shl (.idx (.var 0) (.bin .add (.var 1) (.int 2))) (.int 16))) (.bin .shl (.idx (.var 0) (.bin .add (.var 1) (.int 3))) (.int 24)))]
-- read_lengthed
noncomputable def b_176 : List S := [.asgT [2, 1] (.call 148 [.var 0, .var 1]), .ite (.cmp .gt (.bin .add (.var 1) (.var 2)) (.bi .len [.var 0])) [.raise] [], .ret (.tup [.bi .bytes [.slc (.var 0) (.var 1) (.bin .add (.var 1) (.var 2))], .bin .add (.var 1) (.var 2)])]
-- Cursor.__init__
noncomputable def b_191 : List S := [.ite (.bop false [.cmp .lt (.var 2) (.int 0), .cmp .gt (.var 2) (.bi .len [.var 1])]) [.raise] [], .asgA (.var 0) 0 (.var 1), .asgA (.var 0) 1 (.var 2)]
-- Cursor.left
noncomputable def b_198 : List S := [.ret (.bin .sub (.bi .len [.attr (.var 0) 0]) (.attr (.var 0) 1))]
-- Cursor.varint
noncomputable def b_205 : List S := [.asg 1 (.attr (.var 0) 1), .ite (.bop true [.cmp .lt (.var 1) (.bi .len [.attr (.var 0) 0]), .cmp .lt (.idx (.attr (.var 0) 0) (.var 1)) (.int 128)]) [.asgA (.var 0) 1 (.bin .add (.var 1) (.int 1)), .ret (.idx (.attr (.var 0) 0) (.var 1))] [], .asgT [2, 1] (.call 134 [.attr (.var 0) 0, .var 1]), .asgA (.var 0) 1 (.var 1), .ret (.var 2)]
-- Cursor.fixed32
noncomputable def b_212 : List S := [.asg 1 (.call 169 [.attr (.var 0) 0, .attr (.var 0) 1]), .augA (.var 0) 1 .add (.int 4), .ret (.var 1)]
-- Cursor.lengthed
noncomputable def b_226 : List S := [.asgT [1, 2] (.call 176 [.attr (.var 0) 0, .attr (.var 0) 1]), .asgA (.var 0) 1 (.var 2), .ret (.var 1)]
-- Cursor.octet
noncomputable def b_233 : List S := [.ite (.cmp .ge (.attr (.var 0) 1) (.bi .len [.attr (.var 0) 0])) [.raise] [], .asg 1 (.idx (.attr (.var 0) 0) (.attr (.var 0) 1)), .augA (.var 0) 1 .add (.int 1), .ret (.var 1)]
-- Cursor.flag
noncomputable def b_240 : List S := [.ite (.cmp .ge (.attr (.var 0) 1) (.bi .len [.attr (.var 0) 0])) [.raise] [], .asg 1 (.idx (.attr (.var 0) 0) (.attr (.var 0) 1)), .ite (.cmp .gt (.var 1) (.int 1)) [.raise] [], .augA (.var 0) 1 .add (.int 1), .ret (.cmp .eq (.var 1) (.int 1))]
-- Cursor.done
noncomputable def b_254 : List S := [.ite (.cmp .lt (.attr (.var 0) 1) (.bi .len [.attr (.var 0) 0])) [.raise] []]
-- Sink.__init__
noncomputable def b_275 : List S := [.asgA (.var 0) 2 (.bi .barr [])]
-- Sink.varint
noncomputable def b_282 : List S := [.ite (.bop true [.cmp .ge (.var 1) (.int 0), .cmp .lt (.var 1) (.int 128)]) [.ex (.meth (.attr (.var 0) 2) 50 [.var 1])] [.ex (.meth (.attr (.var 0) 2) 51 [.call 127 [.var 1]])]]
-- Sink.fixed32
noncomputable def b_289 : List S := [.ex (.meth (.attr (.var 0) 2) 51 [.call 162 [.var 1]])]
-- Sink.lengthed
noncomputable def b_303 : List S := [.ex (.meth (.attr (.var 0) 2) 51 [.call 141 [.bi .len [.var 1]]]), .ex (.meth (.attr (.var 0) 2) 51 [.var 1])]
-- Sink.octet
noncomputable def b_310 : List S := [.ite (.bop false [.cmp .lt (.var 1) (.int 0), .cmp .gt (.var 1) (.int 255)]) [.raise] [], .ex (.meth (.attr (.var 0) 2) 50 [.var 1])]
-- Sink.flag
noncomputable def b_317 : List S := [.ite (.var 1) [.ex (.meth (.attr (.var 0) 2) 50 [.int 1])] [.ex (.meth (.attr (.var 0) 2) 50 [.int 0])]]
-- Sink.done
noncomputable def b_331 : List S := [.ret (.bi .bytes [.attr (.var 0) 2])]
-- FileMeta.__init__
noncomputable def b_352 : List S := [.asgA (.var 0) 3 (.var 1), .asgA (.var 0) 4 (.var 2), .asgA (.var 0) 5 (.var 3), .asgA (.var 0) 6 (.var 4)]
-- FileMeta.row
noncomputable def b_359 : List S := [.ret (.tup [.attr (.var 0) 3, .attr (.var 0) 4, .attr (.var 0) 5, .attr (.var 0) 6])]
-- VersionEdit.__init__
noncomputable def b_380 : List S := [.asgA (.var 0) 7 .none, .asgA (.var 0) 8 .none, .asgA (.var 0) 9 .none, .asgA (.var 0) 10 .none, .asgA (.var 0) 11 (.list []), .asgA (.var 0) 12 (.list []), .asgA (.var 0) 13 (.list []), .asgA (.var 0) 14 (.bool false)]
-- VersionEdit.row
noncomputable def b_387 : List S := [.asg 1 (.list []), .forT [2, 3] (.attr (.var 0) 13) [.ex (.meth (.var 1) 50 [.tup [.var 2, .meth (.var 3) 48 []]])], .ret (.tup [.attr (.var 0) 7, .attr (.var 0) 8, .attr (.var 0) 9, .attr (.var 0) 10, .bi .tuple [.attr (.var 0) 11], .bi .tuple [.attr (.var 0) 12], .bi .tuple [.var 1], .attr (.var 0) 14])]
-- VersionEdit.encode
noncomputable def b_394 : List S := [.asg 1 (.new 334 []), .ite (.attr (.var 0) 14) [.ex (.meth (.var 1) 42 [.int 10])] [], .ite (.cmp .isnt (.attr (.var 0) 7) .none) [.ex (.meth (.var 1) 42 [.int 1]), .ex (.meth (.var 1) 44 [.attr (.var 0) 7])] [], .ite (.cmp .isnt (.attr (.var 0) 8) .none) [.ex (.meth (.var 1) 42 [.int 2]), .ex (.meth (.var 1) 42 [.attr (.var 0) 8])] [], .ite (.cmp .isnt (.attr (.var 0) 9) .none) [.ex (.meth (.var 1) 42 [.int 3]), .ex (.meth (.var 1) 42 [.attr (.var 0) 9])] [], .ite (.cmp .isnt (.attr (.var 0) 10) .none) [.ex (.meth (.var 1) 42 [.int 4]), .ex (.meth (.var 1) 42 [.attr (.var 0) 10])] [], .forT [2, 3] (.attr (.var 0) 11) [.ex (.meth (.var 1) 42 [.int 5]), .ex (.meth (.var 1) 42 [.var 2]), .ex (.meth (.var 1) 44 [.var 3])], .forT [2, 4] (.attr (.var 0) 12) [.ex (.meth (.var 1) 42 [.int 6]), .ex (.meth (.var 1) 42 [.var 2]), .ex (.meth (.var 1) 42 [.var 4])], .forT [2, 5] (.attr (.var 0) 13) [.ex (.meth (.var 1) 42 [.int 7]), .ex (.meth (.var 1) 42 [.var 2]), .ex (.meth (.var 1) 42 [.attr (.var 5) 3]), .ex (.meth (.var 1) 42 [.attr (.var 5) 4]), .ex (.meth (.var 1) 44 [.attr (.var 5) 5]), .ex (.meth (.var 1) 44 [.attr (.var 5) 6])], .ret (.meth (.var 1) 47 [])]
-- read_level
noncomputable def b_408 : List S := [.asg 1 (.meth (.var 0) 42 []), .ite (.cmp .ge (.var 1) (.int 12)) [.raise] [], .ret (.var 1)]
-- read_seq
noncomputable def b_415 : List S := [.asg 1 (.meth (.var 0) 42 []), .ite (.cmp .gt (.var 1) (.int 72057594037927935)) [.raise] [], .ret (.var 1)]
-- read_ikey
noncomputable def b_422 : List S := [.asg 1 (.meth (.var 0) 44 []), .ite (.cmp .eq (.bi .len [.var 1]) (.int 0)) [.raise] [], .ret (.var 1)]
-- decode_edit
noncomputable def b_429 : List S := [.asg 1 (.new 397 []), .asg 2 (.new 257 [.var 0]), .whl (.cmp .gt (.meth (.var 2) 41 []) (.int 0)) [.asg 3 (.meth (.var 2) 42 []), .ite (.cmp .eq (.var 3) (.int 1)) [.asgA (.var 1) 7 (.meth (.var 2) 44 [])] [.ite (.cmp .eq (.var 3) (.int 2)) [.asgA (.var 1) 8 (.meth (.var 2) 42 [])] [.ite (.cmp .eq (.var 3) (.int 3)) [.asgA (.var 1) 9 (.meth (.var 2) 42 [])] [.ite (.cmp .eq (.var 3) (.int 4)) [.asgA (.var 1) 10 (.call 415 [.var 2])] [.ite (.cmp .eq (.var 3) (.int 5)) [.asg 4 (.call 408 [.var 2]), .ex (.meth (.attr (.var 1) 11) 50 [.tup [.var 4, .call 422 [.var 2]]])] [.ite (.cmp .eq (.var 3) (.int 6)) [.asg 4 (.call 408 [.var 2]), .ex (.meth (.attr (.var 1) 12) 50 [.tup [.var 4, .meth (.var 2) 42 []]])] [.ite (.cmp .eq (.var 3) (.int 7)) [.asg 4 (.call 408 [.var 2]), .asg 5 (.meth (.var 2) 42 []), .asg 6 (.meth (.var 2) 42 []), .asg 7 (.call 422 [.var 2]), .asg 8 (.call 422 [.var 2]), .ex (.meth (.attr (.var 1) 13) 50 [.tup [.var 4, .new 362 [.var 5, .var 6, .var 7, .var 8]]])] [.ite (.cmp .eq (.var 3) (.int 10)) [.asgA (.var 1) 14 (.bool true)] [.raise]]]]]]]]], .ret (.var 1)]
-- RunInfo.__init__
noncomputable def b_443 : List S := [.asgA (.var 0) 15 (.var 1), .asgA (.var 0) 4 (.var 2), .asgA (.var 0) 16 (.var 3), .asgA (.var 0) 5 (.var 4), .asgA (.var 0) 6 (.var 5)]
-- RunInfo.row
noncomputable def b_450 : List S := [.ret (.tup [.attr (.var 0) 15, .attr (.var 0) 4, .attr (.var 0) 16, .attr (.var 0) 5, .attr (.var 0) 6])]
-- Manifesto.__init__
noncomputable def b_478 : List S := [.asgA (.var 0) 17 (.var 1), .asgA (.var 0) 18 (.var 2), .asgA (.var 0) 19 (.var 3), .asgA (.var 0) 10 (.var 4), .asgA (.var 0) 20 (.var 5)]
-- Manifesto.row
noncomputable def b_485 : List S := [.asg 1 (.list []), .for1 2 (.attr (.var 0) 20) [.ex (.meth (.var 1) 50 [.meth (.var 2) 48 []])], .ret (.tup [.attr (.var 0) 17, .attr (.var 0) 18, .attr (.var 0) 19, .attr (.var 0) 10, .bi .tuple [.var 1]])]
-- Manifesto.encode
noncomputable def b_492 : List S := [.asg 1 (.new 334 []), .ex (.meth (.var 1) 42 [.attr (.var 0) 17]), .ex (.meth (.var 1) 42 [.attr (.var 0) 18]), .ex (.meth (.var 1) 42 [.attr (.var 0) 10]), .ex (.meth (.var 1) 44 [.attr (.var 0) 19]), .ex (.meth (.var 1) 42 [.bi .len [.attr (.var 0) 20]]), .for1 2 (.attr (.var 0) 20) [.ex (.meth (.var 1) 42 [.attr (.var 2) 15]), .ex (.meth (.var 1) 42 [.attr (.var 2) 4]), .ex (.meth (.var 1) 43 [.attr (.var 2) 16]), .ex (.meth (.var 1) 44 [.attr (.var 2) 5]), .ex (.meth (.var 1) 44 [.attr (.var 2) 6])], .ret (.meth (.var 1) 47 [])]
-- decode_manifesto
noncomputable def b_506 : List S := [.asg 1 (.new 257 [.var 0]), .asg 2 (.meth (.var 1) 42 []), .asg 3 (.meth (.var 1) 42 []), .asg 4 (.meth (.var 1) 42 []), .ite (.cmp .gt (.var 4) (.int 72057594037927935)) [.raise] [], .asg 5 (.meth (.var 1) 44 []), .asg 6 (.meth (.var 1) 42 []), .asg 7 (.list []), .whl (.cmp .lt (.bi .len [.var 7]) (.var 6)) [.asg 8 (.meth (.var 1) 42 []), .ite (.cmp .ge (.var 8) (.int 12)) [.raise] [], .asg 9 (.meth (.var 1) 42 []), .asg 10 (.meth (.var 1) 43 []), .asg 11 (.meth (.var 1) 44 []), .asg 12 (.meth (.var 1) 44 []), .ex (.meth (.var 7) 50 [.new 460 [.var 8, .var 9, .var 10, .var 11, .var 12]])], .ex (.meth (.var 1) 47 []), .ret (.new 495 [.var 2, .var 3, .var 5, .var 4, .var 7])]
-- Command.__init__
noncomputable def b_520 : List S := [.asgA (.var 0) 21 (.var 1), .asgA (.var 0) 22 (.var 2), .asgA (.var 0) 3 (.var 3), .asgA (.var 0) 23 (.var 4), .asgA (.var 0) 24 (.var 5), .asgA (.var 0) 25 (.var 6)]
-- Command.row
noncomputable def b_527 : List S := [.ret (.tup [.attr (.var 0) 21, .attr (.var 0) 22, .attr (.var 0) 3, .attr (.var 0) 23, .attr (.var 0) 24, .attr (.var 0) 25])]
-- Command.encode
noncomputable def b_534 : List S := [.ite (.bop false [.cmp .lt (.attr (.var 0) 21) (.int 0), .cmp .gt (.attr (.var 0) 21) (.int 6)]) [.raise] [], .asg 1 (.new 334 []), .tr [.ex (.meth (.var 1) 42 [.attr (.var 0) 21]), .ex (.meth (.var 1) 42 [.attr (.var 0) 22]), .ex (.meth (.var 1) 42 [.attr (.var 0) 3]), .ex (.meth (.var 1) 44 [.attr (.var 0) 23]), .ex (.meth (.var 1) 44 [.attr (.var 0) 24]), .ex (.call 548 [.var 1, .attr (.var 0) 25])], .ret (.meth (.var 1) 47 [])]
-- put_maybe
noncomputable def b_548 : List S := [.ex (.meth (.var 0) 46 [.cmp .isnt (.var 1) .none]), .ite (.cmp .isnt (.var 1) .none) [.ex (.meth (.var 0) 44 [.var 1])] []]
-- take_maybe
noncomputable def b_555 : List S := [.ite (.meth (.var 0) 46 []) [.ret (.meth (.var 0) 44 [])] [], .ret .none]
-- decode_command
noncomputable def b_562 : List S := [.tr [.asg 1 (.new 257 [.var 0]), .asg 2 (.meth (.var 1) 42 []), .asg 3 (.meth (.var 1) 42 []), .asg 4 (.meth (.var 1) 42 []), .asg 5 (.meth (.var 1) 44 []), .asg 6 (.meth (.var 1) 44 []), .asg 7 (.call 555 [.var 1]), .ex (.meth (.var 1) 47 [])], .ite (.cmp .gt (.var 2) (.int 6)) [.raise] [], .ret (.new 537 [.var 2, .var 3, .var 4, .var 5, .var 6, .var 7])]
-- make_reply
noncomputable def b_569 : List S := [.asg 2 (.new 334 []), .ex (.meth (.var 2) 45 [.var 0]), .ex (.call 548 [.var 2, .var 1]), .ret (.meth (.var 2) 47 [])]
-- read_reply
noncomputable def b_576 : List S := [.asg 1 (.new 257 [.var 0]), .asg 2 (.meth (.var 1) 45 []), .ite (.cmp .gt (.var 2) (.int 3)) [.raise] [], .asg 3 (.call 555 [.var 1]), .ex (.meth (.var 1) 47 []), .ret (.tup [.var 2, .var 3])]
-- encode_session
noncomputable def b_583 : List S := [.asg 3 (.new 334 []), .ex (.meth (.var 3) 42 [.var 0]), .ex (.meth (.var 3) 46 [.var 1]), .ex (.meth (.var 3) 44 [.var 2]), .ret (.meth (.var 3) 47 [])]
-- decode_session
noncomputable def b_590 : List S := [.asg 1 (.new 257 [.var 0]), .asg 2 (.meth (.var 1) 42 []), .asg 3 (.meth (.var 1) 46 []), .asg 4 (.meth (.var 1) 44 []), .ex (.meth (.var 1) 47 []), .ret (.tup [.var 2, .var 3, .var 4])]
-- rising
noncomputable def b_597 : List S := [.asg 1 (.list []), .for1 2 (.bi .sorted [.var 0]) [.ite (.bop false [.not (.var 1), .cmp .ne (.idx (.var 1) (.int (-1))) (.var 2)]) [.ex (.meth (.var 1) 50 [.var 2])] []], .ret (.var 1)]
-- take_count
noncomputable def b_604 : List S := [.asg 1 (.meth (.var 0) 42 []), .ite (.cmp .gt (.var 1) (.meth (.var 0) 41 [])) [.raise] [], .ret (.var 1)]
-- Entry.__init__
noncomputable def b_618 : List S := [.asgA (.var 0) 18 (.var 1), .asgA (.var 0) 17 (.var 2), .asgA (.var 0) 21 (.var 3), .asgA (.var 0) 0 (.var 4)]
-- Entry.row
noncomputable def b_625 : List S := [.ret (.tup [.attr (.var 0) 18, .attr (.var 0) 17, .attr (.var 0) 21, .attr (.var 0) 0])]
-- encode_entry
noncomputable def b_660 : List S := [.asg 1 (.new 334 []), .ex (.meth (.var 1) 42 [.attr (.var 0) 18]), .ex (.meth (.var 1) 42 [.attr (.var 0) 17]), .ex (.meth (.var 1) 42 [.attr (.var 0) 21]), .ex (.meth (.var 1) 44 [.attr (.var 0) 0]), .ret (.meth (.var 1) 47 [])]
-- decode_entry
noncomputable def b_667 : List S := [.asg 1 (.new 257 [.var 0]), .asg 2 (.meth (.var 1) 42 []), .asg 3 (.meth (.var 1) 42 []), .asg 4 (.meth (.var 1) 42 []), .ite (.bop true [.cmp .ne (.var 4) (.int 0), .cmp .ne (.var 4) (.int 2)]) [.raise] [], .asg 5 (.meth (.var 1) 44 []), .ex (.meth (.var 1) 47 []), .ret (.new 649 [.var 2, .var 3, .var 4, .var 5])]
-- ConfState.__init__
noncomputable def b_681 : List S := [.asgA (.var 0) 26 (.call 597 [.var 1]), .asgA (.var 0) 27 (.call 597 [.var 2]), .asgA (.var 0) 28 (.call 597 [.var 3]), .asgA (.var 0) 29 (.call 597 [.var 4]), .asgA (.var 0) 30 (.var 5)]
-- ConfState.row
noncomputable def b_688 : List S := [.ret (.tup [.bi .tuple [.attr (.var 0) 26], .bi .tuple [.attr (.var 0) 27], .bi .tuple [.attr (.var 0) 28], .bi .tuple [.attr (.var 0) 29], .attr (.var 0) 30])]
-- put_ids
noncomputable def b_709 : List S := [.ex (.meth (.var 0) 42 [.bi .len [.var 1]]), .for1 2 (.var 1) [.ex (.meth (.var 0) 42 [.var 2])]]
-- take_ids
noncomputable def b_716 : List S := [.asg 1 (.list []), .for1 2 (.bi .range [.call 604 [.var 0]]) [.asg 3 (.meth (.var 0) 42 []), .ite (.bop true [.var 1, .cmp .le (.var 3) (.idx (.var 1) (.int (-1)))]) [.raise] [], .ex (.meth (.var 1) 50 [.var 3])], .ret (.var 1)]
-- encode_conf
noncomputable def b_723 : List S := [.asg 1 (.new 334 []), .ex (.call 709 [.var 1, .attr (.var 0) 26]), .ex (.call 709 [.var 1, .attr (.var 0) 27]), .ex (.call 709 [.var 1, .attr (.var 0) 28]), .ex (.call 709 [.var 1, .attr (.var 0) 29]), .ex (.meth (.var 1) 46 [.attr (.var 0) 30]), .ret (.meth (.var 1) 47 [])]
-- decode_conf
noncomputable def b_730 : List S := [.asg 1 (.new 257 [.var 0]), .asg 2 (.call 716 [.var 1]), .asg 3 (.call 716 [.var 1]), .asg 4 (.call 716 [.var 1]), .asg 5 (.call 716 [.var 1]), .asg 6 (.meth (.var 1) 46 []), .ex (.meth (.var 1) 47 []), .ret (.new 698 [.var 2, .var 3, .var 4, .var 5, .var 6])]
-- Snapshot.__init__
noncomputable def b_744 : List S := [.asgA (.var 0) 17 (.var 1), .asgA (.var 0) 18 (.var 2), .asgA (.var 0) 31 (.var 3), .asgA (.var 0) 0 (.var 4)]
-- Snapshot.row
noncomputable def b_751 : List S := [.ret (.tup [.attr (.var 0) 17, .attr (.var 0) 18, .meth (.attr (.var 0) 31) 48 [], .attr (.var 0) 0])]
-- encode_snapshot
noncomputable def b_779 : List S := [.asg 1 (.new 334 []), .ex (.meth (.var 1) 42 [.attr (.var 0) 17]), .ex (.meth (.var 1) 42 [.attr (.var 0) 18]), .ex (.meth (.var 1) 44 [.call 723 [.attr (.var 0) 31]]), .ex (.meth (.var 1) 44 [.attr (.var 0) 0]), .ret (.meth (.var 1) 47 [])]
-- decode_snapshot
noncomputable def b_786 : List S := [.asg 1 (.new 257 [.var 0]), .asg 2 (.meth (.var 1) 42 []), .asg 3 (.meth (.var 1) 42 []), .asg 4 (.call 730 [.meth (.var 1) 44 []]), .asg 5 (.meth (.var 1) 44 []), .ex (.meth (.var 1) 47 []), .ret (.new 768 [.var 2, .var 3, .var 4, .var 5])]
-- Message.__init__
noncomputable def b_800 : List S := [.asgA (.var 0) 21 (.var 1), .asgA (.var 0) 32 (.var 2), .asgA (.var 0) 33 (.var 3), .asgA (.var 0) 18 (.var 4), .asgA (.var 0) 34 (.int 0), .asgA (.var 0) 17 (.int 0), .asgA (.var 0) 35 (.list []), .asgA (.var 0) 36 (.int 0), .asgA (.var 0) 37 .none, .asgA (.var 0) 38 (.bool false), .asgA (.var 0) 39 (.int 0), .asgA (.var 0) 40 (.bytes [])]
-- Message.row
noncomputable def b_805 : List S := [.asg 1 (.bi .tuple [.comp (.meth (.var 3) 48 []) 3 (.attr (.var 0) 35) []]), .asg 2 .none, .ite (.cmp .isnt (.attr (.var 0) 37) .none) [.asg 2 (.meth (.attr (.var 0) 37) 48 [])] [], .ret (.tup [.attr (.var 0) 21, .attr (.var 0) 32, .attr (.var 0) 33, .attr (.var 0) 18, .attr (.var 0) 34, .attr (.var 0) 17, .var 1, .attr (.var 0) 36, .var 2, .attr (.var 0) 38, .attr (.var 0) 39, .attr (.var 0) 40])]
-- encode_message
noncomputable def b_826 : List S := [.asg 1 (.new 334 []), .ex (.meth (.var 1) 42 [.attr (.var 0) 21]), .ex (.meth (.var 1) 42 [.attr (.var 0) 32]), .ex (.meth (.var 1) 42 [.attr (.var 0) 33]), .ex (.meth (.var 1) 42 [.attr (.var 0) 18]), .ex (.meth (.var 1) 42 [.attr (.var 0) 34]), .ex (.meth (.var 1) 42 [.attr (.var 0) 17]), .ex (.meth (.var 1) 42 [.attr (.var 0) 36]), .ex (.meth (.var 1) 42 [.attr (.var 0) 39]), .ex (.meth (.var 1) 46 [.attr (.var 0) 38]), .ex (.meth (.var 1) 42 [.bi .len [.attr (.var 0) 35]]), .for1 2 (.attr (.var 0) 35) [.ex (.meth (.var 1) 44 [.call 660 [.var 2]])], .ex (.meth (.var 1) 46 [.cmp .isnt (.attr (.var 0) 37) .none]), .ite (.cmp .isnt (.attr (.var 0) 37) .none) [.ex (.meth (.var 1) 44 [.call 779 [.attr (.var 0) 37]])] [], .ex (.meth (.var 1) 44 [.attr (.var 0) 40]), .ret (.meth (.var 1) 47 [])]
-- decode_message
noncomputable def b_833 : List S := [.asg 1 (.new 257 [.var 0]), .asg 2 (.meth (.var 1) 42 []), .ite (.cmp .gt (.var 2) (.int 20)) [.raise] [], .asg 3 (.meth (.var 1) 42 []), .asg 4 (.meth (.var 1) 42 []), .asg 5 (.new 815 [.var 2, .var 3, .var 4, .meth (.var 1) 42 []]), .asgA (.var 5) 34 (.meth (.var 1) 42 []), .asgA (.var 5) 17 (.meth (.var 1) 42 []), .asgA (.var 5) 36 (.meth (.var 1) 42 []), .asgA (.var 5) 39 (.meth (.var 1) 42 []), .asgA (.var 5) 38 (.meth (.var 1) 46 []), .for1 6 (.bi .range [.call 604 [.var 1]]) [.ex (.meth (.attr (.var 5) 35) 50 [.call 667 [.meth (.var 1) 44 []]])], .ite (.meth (.var 1) 46 []) [.asgA (.var 5) 37 (.call 786 [.meth (.var 1) 44 []])] [], .asgA (.var 5) 40 (.meth (.var 1) 44 []), .ex (.meth (.var 1) 47 []), .ret (.var 5)]
-- _law_draw
noncomputable def b_840 : List S := [.ret (.bin .add (.idx (.var 0) (.bin .mod (.var 1) (.bi .len [.var 0]))) (.bin .mul (.int 1009) (.bin .fdiv (.var 1) (.bi .len [.var 0]))))]
-- _law_great
noncomputable def b_847 : List S := [.ret (.idx (.tup [.int 1, .int 127, .int 128, .int 16384, .int 4294967296, .int 72057594037927935]) (.bin .mod (.var 0) (.int 6)))]
-- _law_octs
noncomputable def b_854 : List S := [.ret (.slc (.bin .mul (.bi .bytes [.list [.bin .mod (.var 0) (.int 256), .int 0, .int 255]]) (.int 44)) .none (.idx (.tup [.int 1, .int 2, .int 3, .int 127, .int 128, .int 130]) (.bin .mod (.bin .fdiv (.var 0) (.int 256)) (.int 6))))]
-- _law_said
noncomputable def b_861 : List S := [.ret (.idx (.tup [.none, .var 1, .var 2]) (.var 0))]
-- _law_var
noncomputable def b_868 : List S := [.ite (.cmp .lt (.var 0) (.int 128)) [.ret (.list [.var 0])] [], .ret (.bin .add (.list [.bin .add (.bin .mod (.var 0) (.int 128)) (.int 128)]) (.call 868 [.bin .fdiv (.var 0) (.int 128)]))]
-- _law_text
noncomputable def b_875 : List S := [.ret (.bin .add (.call 868 [.bi .len [.var 0]]) (.bi .list [.var 0]))]
-- _law_maybe
noncomputable def b_882 : List S := [.ite (.cmp .is (.var 0) .none) [.ret (.list [.int 0])] [], .ret (.bin .add (.list [.int 1]) (.call 875 [.var 0]))]
-- _law_edit
noncomputable def b_887 : List S := [.asg 3 (.comp (.call 861 [.idx (.var 0) (.var 17), .int 0, .call 847 [.bin .fdiv (.var 1) (.bin .pow (.int 6) (.var 17))]]) 17 (.bi .range [.int 4]) []), .asgI (.var 3) (.int 0) (.call 861 [.idx (.var 0) (.int 0), .bytes [], .call 854 [.var 1]]), .asg 4 (.idx (.tup [.list [], .list [.tup [.int 0, .bytes [0]]], .list [.tup [.int 11, .call 854 [.bin .fdiv (.var 1) (.int 3)]], .tup [.bin .mod (.var 1) (.int 12), .bytes [0, 0]]]]) (.idx (.var 0) (.int 4))), .asg 5 (.idx (.tup [.list [], .list [.tup [.int 0, .int 0]], .list [.tup [.int 11, .call 847 [.bin .fdiv (.var 1) (.int 5)]], .tup [.int 0, .int 0]]]) (.idx (.var 0) (.int 5))), .asg 6 (.tup [.int 0, .tup [.int 0, .int 0, .bytes [0], .bytes [0]]]), .asg 7 (.tup [.int 11, .tup [.call 847 [.bin .fdiv (.var 1) (.int 2)], .call 847 [.bin .fdiv (.var 1) (.int 3)], .call 854 [.bin .fdiv (.var 1) (.int 7)], .bytes [107]]]), .asg 8 (.idx (.tup [.list [], .list [.var 6], .list [.var 7, .var 6]]) (.idx (.var 0) (.int 6))), .asg 9 (.new 397 []), .asgA (.var 9) 7 (.idx (.var 3) (.int 0)), .asgA (.var 9) 8 (.idx (.var 3) (.int 1)), .asgA (.var 9) 9 (.idx (.var 3) (.int 2)), .asgA (.var 9) 10 (.idx (.var 3) (.int 3)), .asg 10 (.bin .mul (.list [.int 10]) (.idx (.var 0) (.int 7))), .asgA (.var 9) 14 (.cmp .eq (.idx (.var 0) (.int 7)) (.int 1)), .ite (.cmp .isnt (.idx (.var 3) (.int 0)) .none) [.asg 10 (.bin .add (.bin .add (.var 10) (.list [.int 1])) (.call 875 [.idx (.var 3) (.int 0)]))] [], .for1 2 (.bi .range [.int 1, .int 4]) [.ite (.cmp .isnt (.idx (.var 3) (.var 2)) .none) [.asg 10 (.bin .add (.bin .add (.var 10) (.list [.bin .add (.var 2) (.int 1)])) (.call 868 [.idx (.var 3) (.var 2)]))] []], .forT [11, 12] (.var 4) [.ex (.meth (.attr (.var 9) 11) 50 [.tup [.var 11, .var 12]]), .asg 10 (.bin .add (.bin .add (.var 10) (.list [.int 5, .var 11])) (.call 875 [.var 12]))], .forT [11, 13] (.var 5) [.ex (.meth (.attr (.var 9) 12) 50 [.tup [.var 11, .var 13]]), .asg 10 (.bin .add (.bin .add (.var 10) (.list [.int 6, .var 11])) (.call 868 [.var 13]))], .forT [11, 14] (.var 8) [.ex (.meth (.attr (.var 9) 13) 50 [.tup [.var 11, .new 362 [.idx (.var 14) (.int 0), .idx (.var 14) (.int 1), .idx (.var 14) (.int 2), .idx (.var 14) (.int 3)]]]), .asg 10 (.bin .add (.bin .add (.bin .add (.bin .add (.bin .add (.var 10) (.list [.int 7, .var 11])) (.call 868 [.idx (.var 14) (.int 0)])) (.call 868 [.idx (.var 14) (.int 1)])) (.call 875 [.idx (.var 14) (.int 2)])) (.call 875 [.idx (.var 14) (.int 3)]))], .asg 15 (.tup [.idx (.var 3) (.int 0), .idx (.var 3) (.int 1), .idx (.var 3) (.int 2), .idx (.var 3) (.int 3), .bi .tuple [.var 4], .bi .tuple [.var 5], .bi .tuple [.var 8], .cmp .eq (.idx (.var 0) (.int 7)) (.int 1)]), .asg 16 (.meth (.var 9) 49 []), .ite (.bop false [.cmp .ne (.meth (.var 9) 48 []) (.var 15), .cmp .ne (.bi .list [.var 16]) (.var 10)]) [.ret (.bool false)] [], .ret (.cmp .eq (.meth (.call 429 [.var 16]) 48 []) (.var 15))]
-- _law_told
noncomputable def b_892 : List S := [.asg 2 (.call 723 [.new 698 [.list [], .list [], .list [], .list [], .bool false]]), .ite (.cmp .ne (.var 2) (.bi .bytes [.int 5])) [.ret (.bool false)] [], .asg 3 (.idx (.tup [.bytes [], .var 2, .call 854 [.var 1]]) (.idx (.var 0) (.int 3))), .asg 4 (.tup [.int 11, .call 847 [.bin .fdiv (.var 1) (.int 2)], .bin .mod (.bin .mul (.var 1) (.int 4294967)) (.int 4294967296), .call 854 [.bin .fdiv (.var 1) (.int 3)], .bytes []]), .asg 5 (.idx (.tup [.list [], .list [.tup [.int 0, .int 0, .int 0, .bytes [], .bytes []]], .list [.var 4, .tup [.int 0, .int 0, .int 0, .bytes [], .bytes [107]]]]) (.idx (.var 0) (.int 4))), .asg 6 (.comp (.bin .mul (.idx (.var 0) (.var 13)) (.call 847 [.bin .fdiv (.var 1) (.bin .pow (.int 6) (.var 13))])) 13 (.bi .range [.int 3]) []), .asg 8 (.new 495 [.idx (.var 6) (.int 0), .idx (.var 6) (.int 1), .var 3, .idx (.var 6) (.int 2), .comp (.new 460 [.idx (.var 13) (.int 0), .idx (.var 13) (.int 1), .idx (.var 13) (.int 2), .idx (.var 13) (.int 3), .idx (.var 13) (.int 4)]) 13 (.var 5) []]), .asg 9 (.bin .add (.bin .add (.bin .add (.bin .add (.call 868 [.idx (.var 6) (.int 0)]) (.call 868 [.idx (.var 6) (.int 1)])) (.call 868 [.idx (.var 6) (.int 2)])) (.call 875 [.var 3])) (.list [.bi .len [.var 5]])), .for1 7 (.var 5) [.asg 9 (.bin .add (.bin .add (.bin .add (.var 9) (.list [.idx (.var 7) (.int 0)])) (.call 868 [.idx (.var 7) (.int 1)])) (.comp (.bin .mod (.bin .fdiv (.idx (.var 7) (.int 2)) (.bin .pow (.int 256) (.var 13))) (.int 256)) 13 (.bi .range [.int 4]) [])), .asg 9 (.bin .add (.bin .add (.var 9) (.call 875 [.idx (.var 7) (.int 3)])) (.call 875 [.idx (.var 7) (.int 4)]))], .asg 10 (.tup [.idx (.var 6) (.int 0), .idx (.var 6) (.int 1), .var 3, .idx (.var 6) (.int 2), .bi .tuple [.var 5]]), .asg 11 (.meth (.var 8) 49 []), .ite (.bop false [.cmp .ne (.meth (.var 8) 48 []) (.var 10), .cmp .ne (.bi .list [.var 11]) (.var 9)]) [.ret (.bool false)] [], .asg 12 (.call 506 [.var 11]), .ite (.cmp .ne (.meth (.var 12) 48 []) (.var 10)) [.ret (.bool false)] [], .ret (.bop false [.cmp .ne (.idx (.var 0) (.int 3)) (.int 1), .cmp .eq (.meth (.call 730 [.attr (.var 12) 19]) 48 []) (.tup [.tup [], .tup [], .tup [], .tup [], .bool false])])]
-- _law_order
noncomputable def b_899 : List S := [.asg 2 (.list [.bin .mod (.var 1) (.int 7), .bin .mul (.idx (.var 0) (.int 0)) (.call 847 [.var 1]), .bin .mul (.idx (.var 0) (.int 1)) (.call 847 [.bin .fdiv (.var 1) (.int 6)])]), .asg 3 (.bin .mul (.call 854 [.bin .fdiv (.var 1) (.int 2)]) (.idx (.var 0) (.int 2))), .asg 4 (.bin .mul (.call 854 [.bin .fdiv (.var 1) (.int 3)]) (.idx (.var 0) (.int 3))), .asg 5 (.call 861 [.idx (.var 0) (.int 4), .bytes [], .call 854 [.bin .fdiv (.var 1) (.int 5)]]), .asg 6 (.new 537 [.idx (.var 2) (.int 0), .idx (.var 2) (.int 1), .idx (.var 2) (.int 2), .var 3, .var 4, .var 5]), .asg 7 (.bin .add (.bin .add (.call 868 [.idx (.var 2) (.int 0)]) (.call 868 [.idx (.var 2) (.int 1)])) (.call 868 [.idx (.var 2) (.int 2)])), .asg 7 (.bin .add (.bin .add (.bin .add (.var 7) (.call 875 [.var 3])) (.call 875 [.var 4])) (.call 882 [.var 5])), .asg 8 (.tup [.idx (.var 2) (.int 0), .idx (.var 2) (.int 1), .idx (.var 2) (.int 2), .var 3, .var 4, .var 5]), .asg 9 (.meth (.var 6) 49 []), .ite (.bop false [.cmp .ne (.meth (.var 6) 48 []) (.var 8), .cmp .ne (.bi .list [.var 9]) (.var 7), .cmp .ne (.meth (.call 562 [.var 9]) 48 []) (.var 8)]) [.ret (.bool false)] [], .asg 10 (.call 861 [.idx (.var 0) (.int 5), .bytes [], .call 854 [.bin .fdiv (.var 1) (.int 7)]]), .asg 11 (.call 569 [.bin .mod (.var 1) (.int 4), .var 10]), .ite (.bop false [.cmp .ne (.bi .list [.var 11]) (.bin .add (.list [.bin .mod (.var 1) (.int 4)]) (.call 882 [.var 10])), .cmp .ne (.call 576 [.var 11]) (.tup [.bin .mod (.var 1) (.int 4), .var 10])]) [.ret (.bool false)] [], .asg 12 (.bin .mul (.idx (.var 0) (.int 6)) (.call 847 [.bin .fdiv (.var 1) (.int 5)])), .asg 13 (.bin .mul (.var 11) (.idx (.var 0) (.int 8))), .asg 9 (.call 583 [.var 12, .cmp .eq (.idx (.var 0) (.int 7)) (.int 1), .var 13]), .ite (.cmp .ne (.bi .list [.var 9]) (.bin .add (.bin .add (.call 868 [.var 12]) (.list [.idx (.var 0) (.int 7)])) (.call 875 [.var 13]))) [.ret (.bool false)] [], .ret (.cmp .eq (.call 590 [.var 9]) (.tup [.var 12, .cmp .eq (.idx (.var 0) (.int 7)) (.int 1), .var 13]))]
-- _law_word
noncomputable def b_904 : List S := [.asg 2 (.bin .add (.list [.bin .mul (.idx (.var 0) (.int 0)) (.bin .add (.int 1) (.bin .mod (.var 1) (.int 20)))]) (.comp (.bin .mul (.idx (.var 0) (.var 15)) (.call 847 [.bin .fdiv (.var 1) (.bin .pow (.int 6) (.var 15))])) 15 (.bi .range [.int 1, .int 8]) [])), .asg 3 (.tup [.call 847 [.bin .fdiv (.var 1) (.int 2)], .call 847 [.bin .fdiv (.var 1) (.int 3)], .int 2, .call 854 [.bin .fdiv (.var 1) (.int 5)]]), .asg 4 (.idx (.tup [.list [], .list [.tup [.int 0, .int 0, .int 0, .bytes []]], .list [.var 3, .tup [.int 0, .int 0, .int 2, .bytes []]]]) (.idx (.var 0) (.int 9))), .asg 5 (.bin .mul (.call 854 [.var 1]) (.idx (.var 0) (.int 11))), .asg 6 (.new 815 [.idx (.var 2) (.int 0), .idx (.var 2) (.int 1), .idx (.var 2) (.int 2), .idx (.var 2) (.int 3)]), .asgA (.var 6) 34 (.idx (.var 2) (.int 4)), .asgA (.var 6) 17 (.idx (.var 2) (.int 5)), .asgA (.var 6) 36 (.idx (.var 2) (.int 6)), .asgA (.var 6) 39 (.idx (.var 2) (.int 7)), .asgA (.var 6) 38 (.cmp .eq (.idx (.var 0) (.int 8)) (.int 1)), .asgA (.var 6) 40 (.var 5), .asg 7 (.list []), .for1 8 (.var 2) [.asg 7 (.bin .add (.var 7) (.call 868 [.var 8]))], .asg 7 (.bin .add (.var 7) (.list [.idx (.var 0) (.int 8), .bi .len [.var 4]])), .for1 9 (.var 4) [.ex (.meth (.attr (.var 6) 35) 50 [.new 649 [.idx (.var 9) (.int 0), .idx (.var 9) (.int 1), .idx (.var 9) (.int 2), .idx (.var 9) (.int 3)]]), .asg 7 (.bin .add (.var 7) (.call 875 [.bin .add (.bin .add (.bin .add (.call 868 [.idx (.var 9) (.int 0)]) (.call 868 [.idx (.var 9) (.int 1)])) (.list [.idx (.var 9) (.int 2)])) (.call 875 [.idx (.var 9) (.int 3)])]))], .asg 10 .none, .ite (.cmp .eq (.idx (.var 0) (.int 10)) (.int 0)) [.asg 7 (.bin .add (.var 7) (.list [.int 0]))] [.ite (.cmp .eq (.idx (.var 0) (.int 10)) (.int 1)) [.asg 10 (.tup [.int 0, .int 0, .tup [.tup [], .tup [], .tup [], .tup [], .bool false], .bytes []]), .asgA (.var 6) 37 (.new 768 [.int 0, .int 0, .new 698 [.list [], .list [], .list [], .list [], .bool false], .bytes []]), .asg 7 (.bin .add (.var 7) (.list [.int 1, .int 9, .int 0, .int 0, .int 5, .int 0, .int 0, .int 0, .int 0, .int 0, .int 0]))] [.asg 11 (.bin .add (.int 1) (.bin .mod (.var 1) (.int 5))), .asg 10 (.tup [.call 847 [.bin .fdiv (.var 1) (.int 7)], .int 0, .tup [.tup [.var 11], .tup [.int 9], .tup [.var 11, .int 8], .tup [.int 8], .bool true], .call 854 [.bin .fdiv (.var 1) (.int 4)]]), .asgA (.var 6) 37 (.new 768 [.idx (.var 10) (.int 0), .int 0, .new 698 [.list [.var 11], .list [.int 9], .list [.var 11, .int 8], .list [.int 8], .bool true], .idx (.var 10) (.int 3)]), .asg 12 (.list [.int 10, .int 1, .var 11, .int 1, .int 9, .int 2, .var 11, .int 8, .int 1, .int 8, .int 1]), .asg 7 (.bin .add (.bin .add (.var 7) (.list [.int 1])) (.call 875 [.bin .add (.bin .add (.bin .add (.call 868 [.idx (.var 10) (.int 0)]) (.list [.int 0])) (.var 12)) (.call 875 [.idx (.var 10) (.int 3)])]))]], .asg 7 (.bin .add (.var 7) (.call 875 [.var 5])), .asg 13 (.tup [.idx (.var 2) (.int 0), .idx (.var 2) (.int 1), .idx (.var 2) (.int 2), .idx (.var 2) (.int 3), .idx (.var 2) (.int 4), .idx (.var 2) (.int 5), .bi .tuple [.var 4], .idx (.var 2) (.int 6), .var 10, .cmp .eq (.idx (.var 0) (.int 8)) (.int 1), .idx (.var 2) (.int 7), .var 5]), .asg 14 (.call 826 [.var 6]), .ite (.bop false [.cmp .ne (.meth (.var 6) 48 []) (.var 13), .cmp .ne (.bi .list [.var 14]) (.var 7)]) [.ret (.bool false)] [], .ret (.cmp .eq (.meth (.call 833 [.var 14]) 48 []) (.var 13))]
-- _law_right
noncomputable def b_911 : List S := [.ite (.cmp .eq (.var 0) (.int 0)) [.ret (.call 887 [.var 1, .var 2])] [], .ite (.cmp .eq (.var 0) (.int 1)) [.ret (.call 892 [.var 1, .var 2])] [], .ite (.cmp .eq (.var 0) (.int 2)) [.ret (.call 899 [.var 1, .var 2])] [], .ret (.call 904 [.var 1, .var 2])]
-- _law_tried
noncomputable def b_916 : List S := [.asg 4 (.idx (.tup [.bin .add (.bin .mul (.tup [.int 3]) (.int 7)) (.tup [.int 2]), .tup [.int 2, .int 2, .int 2, .int 3, .int 3], .tup [.int 2, .int 2, .int 2, .int 2, .int 3, .int 3, .int 2, .int 2, .int 2], .bin .add (.bin .mul (.tup [.int 2]) (.int 9)) (.tup [.int 3, .int 3, .int 2])]) (.var 0)), .asg 5 (.idx (.tup [.list [.int 0, .int 1, .int 2, .int 3], .list [.int 2, .int 3, .int 4], .list [.int 4, .int 5, .int 8], .list [.int 9, .int 10, .int 11]]) (.var 0)), .asg 7 (.comp (.var 11) 11 (.bi .range [.bi .len [.var 4]]) [.cmp .notin (.var 11) (.var 5)]), .for1 8 (.bi .range [.bin .add (.int 1) (.var 3)]) [.ex (.meth (.var 5) 50 [.idx (.var 7) (.bin .mod (.bin .add (.var 2) (.var 8)) (.bi .len [.var 7]))])], .asg 9 (.comp (.bin .mod (.bin .fdiv (.var 1) (.bin .pow (.int 3) (.var 11))) (.idx (.var 4) (.var 11))) 11 (.bi .range [.bi .len [.var 4]]) []), .ite (.not (.call 911 [.var 0, .var 9, .var 2])) [.ret (.bool false)] [], .for1 6 (.var 5) [.for1 10 (.bi .range [.idx (.var 4) (.var 6)]) [.ite (.bop true [.cmp .ne (.var 10) (.idx (.var 9) (.var 6)), .not (.call 911 [.var 0, .bin .add (.bin .add (.slc (.var 9) .none (.var 6)) (.list [.var 10])) (.slc (.var 9) (.bin .add (.var 6) (.int 1)) .none), .var 2])]) [.ret (.bool false)] []]], .ret (.bool true)]
-- law
noncomputable def b_921 : List S := [.asg 1 (.comp (.bin .mod (.var 4) (.int 999983)) 4 (.slc (.var 0) .none (.int 20)) []), .ite (.cmp .eq (.bi .len [.var 1]) (.int 0)) [.asg 1 (.list [.int 0])] [], .asg 2 (.call 840 [.var 1, .int 0]), .asg 3 (.bi .min [.int 3, .bin .fdiv (.bi .len [.var 1]) (.int 4)]), .ite (.not (.call 916 [.int 0, .bin .add (.bin .fdiv (.var 2) (.int 3)) (.call 840 [.var 1, .int 1]), .call 840 [.var 1, .int 2], .var 3])) [.ret (.bool false)] [], .ret (.call 916 [.bin .add (.int 1) (.bin .mod (.var 2) (.int 3)), .bin .add (.bin .fdiv (.var 2) (.int 3)) (.call 840 [.var 1, .int 3]), .call 840 [.var 1, .int 4], .var 3])]
noncomputable def defs : List (Nat × Def) := [(113, ⟨2, 4, b_113, []⟩), (120, ⟨4, 9, b_120, []⟩), (127, ⟨1, 2, b_127, []⟩), (134, ⟨2, 3, b_134, []⟩), (141, ⟨1, 2, b_141, []⟩), (148, ⟨2, 3, b_148, []⟩), (162, ⟨1, 2, b_162, []⟩), (169, ⟨2, 3, b_169, []⟩), (176, ⟨2, 4, b_176, []⟩), (191, ⟨3, 4, b_191, [.int 0]⟩), (198, ⟨1, 2, b_198, []⟩), (205, ⟨1, 4, b_205, []⟩), (212, ⟨1, 3, b_212, []⟩), (226, ⟨1, 4, b_226, []⟩), (233, ⟨1, 3, b_233, []⟩), (240, ⟨1, 3, b_240, []⟩), (254, ⟨1, 2, b_254, []⟩), (275, ⟨1, 2, b_275, []⟩), (282, ⟨2, 3, b_282, []⟩), (289, ⟨2, 3, b_289, []⟩), (303, ⟨2, 3, b_303, []⟩), (310, ⟨2, 3, b_310, []⟩), (317, ⟨2, 3, b_317, []⟩), (331, ⟨1, 2, b_331, []⟩), (352, ⟨5, 6, b_352, []⟩), (359, ⟨1, 2, b_359, []⟩), (380, ⟨1, 2, b_380, []⟩), (387, ⟨1, 5, b_387, []⟩), (394, ⟨1, 7, b_394, []⟩), (408, ⟨1, 3, b_408, []⟩), (415, ⟨1, 3, b_415, []⟩), (422, ⟨1, 3, b_422, []⟩), (429, ⟨1, 10, b_429, []⟩), (443, ⟨6, 7, b_443, []⟩), (450, ⟨1, 2, b_450, []⟩), (478, ⟨6, 7, b_478, []⟩), (485, ⟨1, 4, b_485, []⟩), (492, ⟨1, 4, b_492, []⟩), (506, ⟨1, 14, b_506, []⟩), (520, ⟨7, 8, b_520, []⟩), (527, ⟨1, 2, b_527, []⟩), (534, ⟨1, 3, b_534, []⟩), (548, ⟨2, 3, b_548, []⟩), (555, ⟨1, 2, b_555, []⟩), (562, ⟨1, 9, b_562, []⟩), (569, ⟨2, 4, b_569, []⟩), (576, ⟨1, 5, b_576, []⟩), (583, ⟨3, 5, b_583, []⟩), (590, ⟨1, 6, b_590, []⟩), (597, ⟨1, 4, b_597, []⟩), (604, ⟨1, 3, b_604, []⟩), (618, ⟨5, 6, b_618, []⟩), (625, ⟨1, 2, b_625, []⟩), (660, ⟨1, 3, b_660, []⟩), (667, ⟨1, 7, b_667, []⟩), (681, ⟨6, 7, b_681, []⟩), (688, ⟨1, 2, b_688, []⟩), (709, ⟨2, 4, b_709, []⟩), (716, ⟨1, 5, b_716, []⟩), (723, ⟨1, 3, b_723, []⟩), (730, ⟨1, 8, b_730, []⟩), (744, ⟨5, 6, b_744, []⟩), (751, ⟨1, 2, b_751, []⟩), (779, ⟨1, 3, b_779, []⟩), (786, ⟨1, 7, b_786, []⟩), (800, ⟨5, 6, b_800, []⟩), (805, ⟨1, 4, b_805, []⟩), (826, ⟨1, 4, b_826, []⟩), (833, ⟨1, 8, b_833, []⟩), (840, ⟨2, 3, b_840, []⟩), (847, ⟨1, 2, b_847, []⟩), (854, ⟨1, 2, b_854, []⟩), (861, ⟨3, 4, b_861, []⟩), (868, ⟨1, 2, b_868, []⟩), (875, ⟨1, 2, b_875, []⟩), (882, ⟨1, 2, b_882, []⟩), (887, ⟨2, 18, b_887, []⟩), (892, ⟨2, 14, b_892, []⟩), (899, ⟨2, 15, b_899, []⟩), (904, ⟨2, 16, b_904, []⟩), (911, ⟨3, 4, b_911, []⟩), (916, ⟨4, 12, b_916, []⟩), (921, ⟨1, 5, b_921, []⟩)]
noncomputable def inits : List (Nat × Nat) := [(257, 191), (334, 275), (362, 352), (397, 380), (460, 443), (495, 478), (537, 520), (649, 618), (698, 681), (768, 744), (815, 800)]
noncomputable def meths : List ((Nat × Nat) × Nat) := [((257, 41), 198), ((257, 42), 205), ((257, 43), 212), ((257, 44), 226), ((257, 45), 233), ((257, 46), 240), ((257, 47), 254), ((334, 42), 282), ((334, 43), 289), ((334, 44), 303), ((334, 45), 310), ((334, 46), 317), ((334, 47), 331), ((362, 48), 359), ((397, 48), 387), ((397, 49), 394), ((460, 48), 450), ((495, 48), 485), ((495, 49), 492), ((537, 48), 527), ((537, 49), 534), ((649, 48), 625), ((698, 48), 688), ((768, 48), 751), ((815, 48), 805)]

noncomputable def flds : List (Nat × Nat) := [(257, 0), (257, 1), (334, 2), (362, 3), (362, 4), (362, 5), (362, 6), (397, 7), (397, 8), (397, 9), (397, 10), (397, 11), (397, 12), (397, 13), (397, 14), (460, 15), (460, 4), (460, 16), (460, 5), (460, 6), (495, 17), (495, 18), (495, 19), (495, 10), (495, 20), (537, 21), (537, 22), (537, 3), (537, 23), (537, 24), (537, 25), (649, 18), (649, 17), (649, 21), (649, 0), (698, 26), (698, 27), (698, 28), (698, 29), (698, 30), (768, 17), (768, 18), (768, 31), (768, 0), (815, 21), (815, 32), (815, 33), (815, 18), (815, 34), (815, 17), (815, 35), (815, 36), (815, 37), (815, 38), (815, 39), (815, 40)]
noncomputable def progP (f : Nat) : Option Def := defs.lookup f
noncomputable def progT (con : Nat → Option (List V)) : Tab := { init := fun c => inits.lookup c, meth := fun c m => meths.lookup (c, m), fld := fun c f => flds.contains (c, f), con }
end Mine
end
section
set_option tactic.hygienic false
set_option backward.match.sparseCases false
open PySem PySem.W PyProof.Rows PySem.Calls
open PySem.Sem (wp)
namespace Mine

noncomputable abbrev tupOf (vs : List Value) (n : Nat) : Obj := { cls := .type "tuple", data := .seq vs.toArray n }
noncomputable abbrev lstOf (vs : List Value) (n : Nat) : Obj := { cls := .type "list", data := .seq vs.toArray n }
noncomputable abbrev rngOf (lo hi : Int) (t u v : Tok) : Obj := { cls := .type "range", data := .fields #[.int lo t, .int hi u, .int 1 v] }
noncomputable abbrev barOf (b : Array UInt8) : Obj := { cls := .type "bytearray", data := .bytearray b }
noncomputable abbrev insOf (C dx : Addr) : Obj := { cls := .ref C, dict := some dx, data := .plain }
noncomputable abbrev dicOf (es : List DictEntry) (n : Nat) : Obj := { cls := .type "dict", data := .dict es.toArray n }
noncomputable def nums (b : Array UInt8) : List Nat := b.toList.map (·.toNat)

mutual
noncomputable def Rep (h : Heap) : V → Value → Prop
  | .none, v => v = .none
  | .bool b, v => v = .bool b
  | .int i, v => ∃ t, v = .int i t
  | .bytes l, v => ∃ b t, v = .bytes b t ∧ nums b = l
  | .ref a, v => v = .ref a
  | .range lo hi, v => ∃ a t u x, v = .ref a ∧ h.get? a = some (rngOf lo hi t u x) ∧ lo.natAbs < 2 ^ 60 ∧ hi.natAbs < 2 ^ 60
  | .tup Vs, v => ∃ a vs n, v = .ref a ∧ h.get? a = some (tupOf vs n) ∧ RepL h Vs vs
noncomputable def RepL (h : Heap) : List V → List Value → Prop
  | [], vs => vs = []
  | V :: Vs, vs => ∃ v r, vs = v :: r ∧ Rep h V v ∧ RepL h Vs r
end

/-- the dict of an own object -/
noncomputable def FieldsRep (h : Heap) (fs : List (Nat × V)) (es : List DictEntry) : Prop :=
  (∀ e ∈ es, ∃ f t, f < attrTab.length ∧ e.key = .str (attrName f) t ∧ getF f fs ≠ none) ∧ ∀ f V, f < attrTab.length → getF f fs = some V → ∃ v, (es.find? fun e => e.key.isStr (attrName f)).map (·.val) = some v ∧ Rep h V v
noncomputable def RepO (h : Heap) (a : Addr) : AObj → Prop
  | .lst Vs => ∃ vs n, h.get? a = some (lstOf vs n) ∧ RepL h Vs vs
  | .inst C fs => ∃ d es n, a = d + 1 ∧ h.get? a = some (insOf C d) ∧ h.get? d = some (dicOf es n) ∧ es.length ≤ fs.length ∧ FieldsRep h fs es
  | .barr l => ∃ b, h.get? a = some (barOf b) ∧ nums b = l
/-- what σ may write -/
noncomputable def Foot (σ : Hp) (b : Addr) : Prop := ∃ a o, σ a = some o ∧ (b = a ∨ ∃ C fs, o = .inst C fs ∧ a = b + 1)

structure Inv (hb : Heap) (σ : Hp) (s : Shared) : Prop where
  base : ∀ b o, hb.get? b = some o → s.heap.get? b = some o
  rep : ∀ a o, σ a = some o → RepO s.heap a o
  new : ∀ b, Foot σ b → hb.get? b = none
structure Ext (σ : Hp) (s : Shared) (σ' : Hp) (s' : Shared) : Prop where
  foot : ∀ b, Foot σ' b → Foot σ b ∨ s.heap.get? b = none
  keep : ∀ b o, s.heap.get? b = some o → ¬ Foot σ b → s'.heap.get? b = some o
  gens : s'.gens = s.gens
  os : s'.os = s.os
  ex : ∀ b o, s.heap.get? b = some o → ∃ o', s'.heap.get? b = some o'

/-- frozen things -/
noncomputable def fixedO (o : Obj) : Prop := (∃ vs n, o = tupOf vs n) ∨ ∃ lo hi t u v, o = rngOf lo hi t u v

theorem Inv.foot_kind {hb σ s} (I : Inv hb σ s) {b : Addr} (h : Foot σ b) : ∃ o, s.heap.get? b = some o ∧ ((∃ vs n, o = lstOf vs n) ∨ (∃ C d, o = insOf C d) ∨ (∃ es n, o = dicOf es n) ∨ ∃ x, o = barOf x) := by
  obtain ⟨a, o, ho, h⟩ := h
  have R := I.rep a o ho
  induction o using Mine.AObj.casesOn with
  | lst Vs =>
    rcases h with rfl | ⟨C, fs, h, _⟩
    · obtain ⟨vs, n, h, _⟩ := R; exact ⟨_, h, .inl ⟨_, _, rfl⟩⟩
    · cases h
  | inst C fs =>
    obtain ⟨d, es, n, rfl, h1, h2, _⟩ := R
    rcases h with rfl | ⟨C', fs', h, e⟩
    · exact ⟨_, h1, .inr (.inl ⟨_, _, rfl⟩)⟩
    · obtain rfl : d = b := Nat.succ.inj e
      exact ⟨_, h2, .inr (.inr (.inl ⟨_, _, rfl⟩))⟩
  | barr l =>
    rcases h with rfl | ⟨C, fs, h, _⟩
    · obtain ⟨x, h, _⟩ := R; exact ⟨_, h, .inr (.inr (.inr ⟨_, rfl⟩))⟩
    · cases h

theorem Inv.not_foot_fixed {hb σ s} (I : Inv hb σ s) {b : Addr} {o : Obj} (h : s.heap.get? b = some o) (hf : fixedO o) : ¬ Foot σ b := by
  intro hF
  obtain ⟨o', h', k⟩ := I.foot_kind hF
  rw [h] at h'; cases h'
  rcases k with ⟨vs, n, rfl⟩ | ⟨C, d, rfl⟩ | ⟨es, n, rfl⟩ | ⟨x, rfl⟩ <;> rcases hf with ⟨_, _, hf⟩ | ⟨_, _, _, _, _, hf⟩ <;> simp at hf
theorem Inv.not_foot_free {hb σ s} (I : Inv hb σ s) {b : Addr} (h : s.heap.get? b = none) : ¬ Foot σ b := by
  intro hF
  obtain ⟨o', h', k⟩ := I.foot_kind hF
  rw [h] at h'; cases h'
theorem Inv.fresh {hb σ s} (I : Inv hb σ s) {b : Addr} (h : s.heap.get? b = none) : σ b = none := by
  induction e : σ b using Option.casesOn with
  | none => rfl
  | some o => exact absurd ⟨b, o, e, .inl rfl⟩ (I.not_foot_free h)

theorem size_free (h : Heap) : h.get? h.objs.size = none := by
  induction e : h.get? h.objs.size using Option.casesOn with
  | none => rfl
  | some o => exact absurd (Heap.lt_size e) (Nat.lt_irrefl _)

mutual
theorem Rep.keep {h h' : Heap} (k : ∀ b o, h.get? b = some o → fixedO o → h'.get? b = some o) : ∀ {W : V} {v : Value}, Rep h W v → Rep h' W v
  | .none, _, r => by exact r
  | .bool _, _, r => by exact r
  | .int _, _, r => by exact r
  | .bytes _, _, r => by exact r
  | .ref _, _, r => by exact r
  | .range lo hi, _, r => by
    obtain ⟨a, t, u, y, e, g, x⟩ := r
    exact ⟨a, t, u, y, e, k _ _ g (.inr ⟨_, _, _, _, _, rfl⟩), x⟩
  | .tup Vs, _, r => by
    obtain ⟨a, vs, n, e, g, x⟩ := r
    exact ⟨a, vs, n, e, k _ _ g (.inl ⟨_, _, rfl⟩), RepL.keep k x⟩
theorem RepL.keep {h h' : Heap} (k : ∀ b o, h.get? b = some o → fixedO o → h'.get? b = some o) : ∀ {Ws : List V} {vs : List Value}, RepL h Ws vs → RepL h' Ws vs
  | [], _, r => by exact r
  | W :: Ws, _, r => by
    obtain ⟨v, r', e, x, y⟩ := r
    exact ⟨v, r', e, Rep.keep k x, RepL.keep k y⟩
end
theorem FieldsRep.keep {h h' : Heap} (k : ∀ b o, h.get? b = some o → fixedO o → h'.get? b = some o) {fs : List (Nat × V)} {es : List DictEntry} (r : FieldsRep h fs es) : FieldsRep h' fs es :=
  ⟨r.1, fun f W hf e => by obtain ⟨v, a, b⟩ := r.2 f W hf e; exact ⟨v, a, b.keep k⟩⟩
/-- what an object of σ says goes on where its own addresses are untouched -/
theorem RepO.keep {h h' : Heap} {a : Addr} {o : AObj} (k : ∀ b o, h.get? b = some o → fixedO o → h'.get? b = some o)
    (own : ∀ b o', (b = a ∨ ∃ C fs, o = .inst C fs ∧ a = b + 1) → h.get? b = some o' → h'.get? b = some o') (r : RepO h a o) : RepO h' a o := by
  induction o using Mine.AObj.casesOn with
  | lst Vs => obtain ⟨vs, n, g, x⟩ := r; exact ⟨vs, n, own _ _ (.inl rfl) g, x.keep k⟩
  | inst C fs => obtain ⟨d, es, n, e, g1, g2, l, x⟩ := r; exact ⟨d, es, n, e, own _ _ (.inl rfl) g1, own _ _ (.inr ⟨_, _, rfl, e⟩) g2, l, x.keep k⟩
  | barr l => obtain ⟨b, g, x⟩ := r; exact ⟨b, own _ _ (.inl rfl) g, x⟩

theorem Ext.fixed {hb σ s σ' s'} (X : Ext σ s σ' s') (I : Inv hb σ s) : ∀ b o, s.heap.get? b = some o → fixedO o → s'.heap.get? b = some o :=
  fun b o e f => X.keep b o e (I.not_foot_fixed e f)
theorem Ext.refl (σ : Hp) (s : Shared) : Ext σ s σ s := ⟨fun _ h => .inl h, fun _ _ e _ => e, rfl, rfl, fun _ o e => ⟨o, e⟩⟩
theorem Ext.trans {σ₀ s₀ σ₁ s₁ σ₂ s₂} (X : Ext σ₀ s₀ σ₁ s₁) (Y : Ext σ₁ s₁ σ₂ s₂) : Ext σ₀ s₀ σ₂ s₂ := by
  refine ⟨fun b h => ?_, fun b o e n => ?_, Y.gens.trans X.gens, Y.os.trans X.os, fun b o e => by
    obtain ⟨o', e'⟩ := X.ex b o e
    exact Y.ex b o' e'⟩
  · rcases Y.foot b h with h | h
    · exact X.foot b h
    · by_cases hF : Foot σ₀ b
      · exact .inl hF
      · refine .inr ?_
        induction e : s₀.heap.get? b using Option.casesOn with
        | none => rfl
        | some o => have := X.keep b o e hF; rw [h] at this; cases this
  · refine Y.keep b o (X.keep b o e n) fun h => ?_
    rcases X.foot b h with h | h
    · exact n h
    · rw [e] at h; cases h

/-- same heap -/
theorem Inv.heap {hb σ s s'} (I : Inv hb σ s) (h : s'.heap = s.heap) : Inv hb σ s' := ⟨fun b o e => by rw [h]; exact I.base b o e, fun a o e => by rw [h]; exact I.rep a o e, I.new⟩
theorem Ext.heap {σ s s'} (h : s'.heap = s.heap) (hg : s'.gens = s.gens) (ho : s'.os = s.os) : Ext σ s σ s' :=
  ⟨fun _ x => .inl x, fun b o e _ => by rw [h]; exact e, hg, ho, fun b o e => ⟨o, by rw [h]; exact e⟩⟩

theorem Sub.foot {σ τ : Hp} (h : Sub τ σ) {b : Addr} (f : Foot τ b) : Foot σ b := by
  obtain ⟨a, o, e, k⟩ := f; exact ⟨a, o, h _ _ e, k⟩
theorem Inv.sub {hb σ τ s} (I : Inv hb σ s) (h : Sub τ σ) : Inv hb τ s := ⟨I.base, fun a o e => I.rep a o (h _ _ e), fun b f => I.new b (h.foot f)⟩
/-- an object that nobody writes is laid -/
theorem push_keep (h : Heap) (o : Obj) : ∀ b o', h.get? b = some o' → (h.push o).get? b = some o' := fun _ _ e => Heap.get?_push_of_some _ e
theorem Inv.grow {hb σ s} (I : Inv hb σ s) {s' : Shared} (k : ∀ b o, s.heap.get? b = some o → s'.heap.get? b = some o) : Inv hb σ s' :=
  ⟨fun b o e => k _ _ (I.base b o e), fun a o e => (I.rep a o e).keep (fun b o e _ => k b o e) (fun b o _ e => k b o e), I.new⟩
theorem Ext.grow {σ s s'} (k : ∀ b o, s.heap.get? b = some o → s'.heap.get? b = some o) (hg : s'.gens = s.gens) (ho : s'.os = s.os) : Ext σ s σ s' :=
  ⟨fun _ x => .inl x, fun b o e _ => k b o e, hg, ho, fun b o e => ⟨o, k b o e⟩⟩

theorem upd_self (σ : Hp) (a : Nat) (o : AObj) : upd σ a o a = some o := by simp [upd]
theorem upd_other (σ : Hp) {a b : Nat} (o : AObj) (h : b ≠ a) : upd σ a o b = σ b := by simp [upd, h]
theorem foot_upd {σ : Hp} {a b : Nat} {o : AObj} (f : Foot (upd σ a o) b) : Foot σ b ∨ b = a ∨ ∃ C fs, o = .inst C fs ∧ a = b + 1 := by
  obtain ⟨c, o', e, k⟩ := f
  by_cases h : c = a
  · subst h
    rw [upd_self] at e
    cases e
    rcases k with rfl | k
    · exact .inr (.inl rfl)
    · exact .inr (.inr k)
  · rw [upd_other _ _ h] at e
    exact .inl ⟨c, o', e, k⟩

/-- a new list, a new bytearray -/
theorem Inv.alloc {hb σ s} (I : Inv hb σ s) {o : Obj} {ao : AObj} (hf : o.isFreed = false) (hr : ∀ h', (∀ b o, s.heap.get? b = some o → h'.get? b = some o) → h'.get? s.heap.objs.size = some o → RepO h' s.heap.objs.size ao)
    (hni : ∀ C fs, ao ≠ .inst C fs) :
    Inv hb (upd σ s.heap.objs.size ao) { s with heap := s.heap.push o } ∧ Ext σ s (upd σ s.heap.objs.size ao) { s with heap := s.heap.push o } := by
  have k := push_keep s.heap o
  refine ⟨⟨fun b o' e => k _ _ (I.base b o' e), fun a o' e => ?_, fun b f => ?_⟩, ⟨fun b f => ?_, fun b o' e _ => k _ _ e, rfl, rfl, fun b o e => ⟨o, k _ _ e⟩⟩⟩
  · by_cases h : a = s.heap.objs.size
    · subst h
      rw [upd_self] at e; cases e
      exact hr _ k (Heap.get?_push_size _ hf)
    · rw [upd_other _ _ h] at e
      exact (I.rep a o' e).keep (fun b o e _ => k b o e) (fun b o _ e => k b o e)
  · rcases foot_upd f with f | rfl | ⟨C, fs, e, _⟩
    · exact I.new b f
    · induction e : hb.get? s.heap.objs.size using Option.casesOn with
      | none => rfl
      | some o' => have := I.base _ _ e; rw [size_free] at this; cases this
    · exact absurd e (hni C fs)
  · rcases foot_upd f with f | rfl | ⟨C, fs, e, _⟩
    · exact .inl f
    · exact .inr (size_free _)
    · exact absurd e (hni C fs)

/-- one object of σ is written -/
theorem Inv.write {hb σ s} (I : Inv hb σ s) {a : Nat} {ao ao' : AObj} {h' : Heap} {x : Addr} (ha : σ a = some ao) (hx : x = a ∨ ∃ C fs, ao = .inst C fs ∧ a = x + 1)
    (hk : ∀ b, b ≠ x → h'.get? b = s.heap.get? b) (hex : ∃ o, h'.get? x = some o) (hr : (∀ b o, s.heap.get? b = some o → fixedO o → h'.get? b = some o) → RepO h' a ao')
    (hi : ∀ C fs, ao' = .inst C fs → ∃ C' fs', ao = .inst C' fs') (hni : ∀ C fs, ao = .inst C fs → x = a → False) {tk : Nat} :
    Inv hb (upd σ a ao') { s with heap := h', toks := tk } ∧ Ext σ s (upd σ a ao') { s with heap := h', toks := tk } := by
  have fx : Foot σ x := ⟨a, ao, ha, hx⟩
  have kf : ∀ b o, s.heap.get? b = some o → fixedO o → h'.get? b = some o := fun b o e f => by
    rw [hk b fun q => I.not_foot_fixed e f (q ▸ fx)]; exact e
  have ff : ∀ b, Foot (upd σ a ao') b → Foot σ b := fun b f => by
    rcases foot_upd f with f | rfl | ⟨C, fs, e, e'⟩
    · exact f
    · exact ⟨_, ao, ha, .inl rfl⟩
    · obtain ⟨C', fs', q⟩ := hi C fs e
      exact ⟨a, ao, ha, .inr ⟨_, _, q, e'⟩⟩
  refine ⟨⟨fun b o e => ?_, fun c o e => ?_, fun b f => I.new b (ff b f)⟩, ⟨fun b f => .inl (ff b f), fun b o e n => ?_, rfl, rfl, fun b o e => by
    by_cases hb : b = x
    · subst hb; exact hex
    · exact ⟨o, (hk b hb).trans e⟩⟩⟩
  · show h'.get? b = some o
    rw [hk b fun q => by rw [q, I.new x fx] at e; cases e]
    exact I.base b o e
  · by_cases hc : c = a
    · subst hc; rw [upd_self] at e; cases e; exact hr kf
    · rw [upd_other _ _ hc] at e
      refine (I.rep c o e).keep kf fun b o' q g => ?_
      show h'.get? b = some o'
      rw [hk b fun z => ?_]; exact g
      -- another object of σ has other addresses
      subst z
      have R₁ := I.rep c o e
      have R₂ := I.rep a ao ha
      rcases hx with rfl | ⟨C, fs, rfl, rfl⟩
      · rcases q with rfl | ⟨C, fs, rfl, rfl⟩
        · exact hc rfl
        · obtain ⟨d, es, n, e1, g1, g2, _⟩ := R₁
          obtain rfl : d = b := Nat.succ.inj e1.symm
          induction ao using Mine.AObj.casesOn with
          | lst Vs => obtain ⟨vs, n, z, _⟩ := R₂; rw [g2] at z; simp at z
          | inst C' fs' => exact hni _ _ rfl rfl
          | barr l => obtain ⟨y, z, _⟩ := R₂; rw [g2] at z; simp at z
      · obtain ⟨d, es, n, e1, g1, g2, _⟩ := R₂
        obtain rfl : d = b := Nat.succ.inj e1.symm
        rcases q with rfl | ⟨C', fs', rfl, e2⟩
        · induction o using Mine.AObj.casesOn with
          | lst Vs => obtain ⟨vs, n, z, _⟩ := R₁; rw [g2] at z; simp at z
          | inst C' fs' => obtain ⟨_, _, _, _, z, _⟩ := R₁; rw [g2] at z; simp at z
          | barr l => obtain ⟨y, z, _⟩ := R₁; rw [g2] at z; simp at z
        · exact hc e2
  · show h'.get? b = some o
    rw [hk b fun q => n (q ▸ fx)]; exact e

/-- the end of an expression -/
noncomputable def Post (hb : Heap) (σ : Hp) (s : Shared) (Q : K1) : Value → Shared → Prop := fun v s' => ∃ W σ', Q W σ' ∧ Rep s'.heap W v ∧ Inv hb σ' s' ∧ Ext σ s σ' s'
noncomputable def PostB (hb : Heap) (σ : Hp) (s : Shared) (Q : Bool → Hp → Prop) : Bool → Shared → Prop := fun b s' => ∃ σ', Q b σ' ∧ Inv hb σ' s' ∧ Ext σ s σ' s'
noncomputable def PostL (hb : Heap) (σ : Hp) (s : Shared) (Q : List V → Hp → Prop) : List Value → Shared → Prop := fun vs s' => ∃ Ws σ', Q Ws σ' ∧ RepL s'.heap Ws vs ∧ Inv hb σ' s' ∧ Ext σ s σ' s'

theorem Post.toks {hb σ s Q W v tk} (I : Inv hb σ s) (q : Q W σ) (r : Rep s.heap W v) : Post hb σ s Q v { s with toks := tk } := ⟨W, σ, q, r, I.heap rfl, .heap rfl rfl rfl⟩
theorem Post.same {hb σ s Q W v} (I : Inv hb σ s) (q : Q W σ) (r : Rep s.heap W v) : Post hb σ s Q v s := ⟨W, σ, q, r, I, .refl _ _⟩
theorem Post.after {hb σ s σ' s' Q v s''} (X : Ext σ s σ' s') (p : Post hb σ' s' Q v s'') : Post hb σ s Q v s'' := by
  obtain ⟨W, τ, a, b, c, d⟩ := p; exact ⟨W, τ, a, b, c, X.trans d⟩
theorem Post.list {hb σ s Q vs Ws n} (I : Inv hb σ s) (r : RepL s.heap Ws vs) (q : ∀ a, σ a = none → Q (.ref a) (upd σ a (.lst Ws))) {tk : Nat} :
    Post hb σ s Q (.ref s.heap.objs.size) { s with heap := s.heap.push (lstOf vs n), toks := tk } := by
  obtain ⟨I', X⟩ := I.alloc (o := lstOf vs n) (ao := .lst Ws) rfl (fun h' k g => ⟨vs, n, g, r.keep fun b o e _ => k b o e⟩) (fun _ _ e => nomatch e)
  exact ⟨_, _, q _ (I.fresh (size_free _)), by rfl, I'.heap rfl, X.trans (.heap rfl rfl rfl)⟩
theorem Post.tup {hb σ s Q vs Ws n} (I : Inv hb σ s) (r : RepL s.heap Ws vs) (q : Q (.tup Ws) σ) {tk : Nat} :
    Post hb σ s Q (.ref s.heap.objs.size) { s with heap := s.heap.push (tupOf vs n), toks := tk } := by
  have k := push_keep s.heap (tupOf vs n)
  refine ⟨_, _, q, ?_, (I.grow (s' := { s with heap := s.heap.push (tupOf vs n), toks := tk }) k), .grow k rfl rfl⟩
  exact ⟨_, vs, n, rfl, Heap.get?_push_size _ rfl, r.keep fun b o e _ => k b o e⟩

theorem RepL.length {h : Heap} : ∀ {Ws : List V} {vs : List Value}, RepL h Ws vs → vs.length = Ws.length
  | [], _, r => by subst r; rfl
  | W :: Ws, _, r => by obtain ⟨v, r', rfl, _, y⟩ := r; simp [RepL.length y]
theorem RepL.append {h : Heap} : ∀ {Ws : List V} {vs : List Value} {Xs : List V} {xs : List Value}, RepL h Ws vs → RepL h Xs xs → RepL h (Ws ++ Xs) (vs ++ xs)
  | [], _, _, _, r, x => by subst r; exact x
  | W :: Ws, _, _, _, r, x => by
    obtain ⟨v, r', rfl, a, y⟩ := r
    show RepL h (W :: (Ws ++ _)) _
    exact ⟨v, _, rfl, a, RepL.append y x⟩
theorem RepL.get {h : Heap} : ∀ {Ws : List V} {vs : List Value} {i : Nat} {W : V}, RepL h Ws vs → Ws[i]? = some W → ∃ v, vs[i]? = some v ∧ Rep h W v
  | [], _, _, _, _, e => by simp at e
  | W :: Ws, _, 0, _, r, e => by
    obtain ⟨v, r', rfl, a, y⟩ := r
    simp at e; subst e; exact ⟨v, rfl, a⟩
  | W :: Ws, _, i + 1, _, r, e => by
    obtain ⟨v, r', rfl, a, y⟩ := r
    simp at e
    obtain ⟨v', e', r⟩ := RepL.get y e
    exact ⟨v', by simpa using e', r⟩
theorem RepL.take {h : Heap} : ∀ {Ws : List V} {vs : List Value} (n : Nat), RepL h Ws vs → RepL h (Ws.take n) (vs.take n)
  | _, _, 0, _ => by simp [RepL]
  | [], _, _ + 1, r => by subst r; simp [RepL]
  | W :: Ws, _, n + 1, r => by
    obtain ⟨v, r', rfl, a, y⟩ := r
    simp only [List.take_succ_cons]; skip
    exact ⟨v, _, rfl, a, y.take n⟩
theorem RepL.drop {h : Heap} : ∀ {Ws : List V} {vs : List Value} (n : Nat), RepL h Ws vs → RepL h (Ws.drop n) (vs.drop n)
  | _, _, 0, r => r
  | [], _, _ + 1, r => by subst r; simp [RepL]
  | W :: Ws, _, n + 1, r => by
    obtain ⟨v, r', rfl, a, y⟩ := r
    simp only [List.drop_succ_cons]
    exact y.drop n
theorem RepL.set {h : Heap} : ∀ {Ws : List V} {vs : List Value} (i : Nat) {W : V} {v : Value}, RepL h Ws vs → Rep h W v → RepL h (Ws.set i W) (vs.set i v)
  | [], _, _, _, _, r, _ => by subst r; simp [RepL]
  | W :: Ws, _, 0, _, _, r, x => by
    obtain ⟨v, r', rfl, a, y⟩ := r
    simp only [List.set_cons_zero]; exact ⟨_, _, rfl, x, y⟩
  | W :: Ws, _, i + 1, _, _, r, x => by
    obtain ⟨v, r', rfl, a, y⟩ := r
    simp only [List.set_cons_succ]; exact ⟨_, _, rfl, a, y.set i x⟩
theorem RepL.repL {h : Heap} {Ws : List V} {vs : List Value} (r : RepL h Ws vs) : ∀ n, RepL h (repL n Ws) (repL n vs)
  | 0 => by simp [Mine.repL, RepL]
  | n + 1 => by
    have := RepL.repL r n
    unfold Mine.repL at this ⊢
    simp only [List.replicate_succ, List.flatten_cons]
    exact r.append this
theorem RepL.ints {h : Heap} : ∀ {Ws : List V} {vs : List Value} {l : List Int}, RepL h Ws vs → allInts Ws = some l → IntsAre vs l
  | [], _, _, r, e => by subst r; cases e; exact .nil
  | W :: Ws, _, _, r, e => by
    obtain ⟨v, r', rfl, a, y⟩ := r
    induction W using Mine.V.casesOn with
    | int i =>
      obtain ⟨t, rfl⟩ := a
      obtain ⟨l', e', rfl⟩ := Option.map_eq_some_iff.mp e
      exact .cons _ _ (y.ints e')
    | _ => cases e
theorem repL_of_map {h : Heap} (l : List Nat) (vs : List Value) (e : ∀ (i n : Nat), l[i]? = some n → ∃ t : Tok, vs[i]? = some (Value.int (n : Int) t)) (hl : vs.length = l.length) : RepL h (l.map fun (n : Nat) => V.int (n : Int)) vs := by
  induction l generalizing vs with
  | nil => simp at hl; subst hl; simp [RepL]
  | cons n l ih =>
    induction vs using List.casesOn with
    | nil => simp at hl
    | cons v vs =>
      simp only [List.map_cons]; skip
      refine ⟨v, vs, rfl, ?_, ih vs (fun i m e' => by have := e (i + 1) m (by simpa using e'); simpa using this) (by simpa using hl)⟩
      obtain ⟨t, q⟩ := e 0 n rfl
      simp at q; subst q
      exact ⟨t, rfl⟩
theorem Inv.atL {hb : Heap} {σ : Hp} {s : Shared} {P : List V → Prop} {x : Nat} (I : Inv hb σ s) (q : match σ x with | some (.lst xs) => P xs | _ => False) : ∃ xs us n, s.heap.get? x = some (lstOf us n) ∧ RepL s.heap xs us ∧ us.length = xs.length ∧ P xs := by
  rcases e : σ x with _ | o
  · rw [e] at q; exact q.elim
  · rw [e] at q
    rcases o with xs | _ | _
    · obtain ⟨us, n, g, r⟩ := I.rep _ _ e; exact ⟨xs, us, n, g, r, r.length, q⟩
    · exact q.elim
    · exact q.elim
theorem Inv.atL2 {hb : Heap} {σ : Hp} {s : Shared} {P : List V → List V → Prop} {x y : Nat} (I : Inv hb σ s) (q : match σ x, σ y with | some (.lst xs), some (.lst ys) => P xs ys | _, _ => False) :
    ∃ xs us n ys vs m, s.heap.get? x = some (lstOf us n) ∧ RepL s.heap xs us ∧ s.heap.get? y = some (lstOf vs m) ∧ RepL s.heap ys vs ∧ P xs ys := by
  refine Classical.byContradiction fun hn => ?_
  rcases e : σ x with _ | o
  · rw [e] at q; exact q
  · rw [e] at q
    rcases o with xs | _ | _
    · rcases e' : σ y with _ | o
      · rw [e'] at q; exact q
      · rw [e'] at q
        rcases o with ys | _ | _
        · obtain ⟨us, n, g, r⟩ := I.rep _ _ e
          obtain ⟨vs, m, g', r'⟩ := I.rep _ _ e'
          exact hn ⟨xs, us, n, ys, vs, m, g, r, g', r', q⟩
        · exact q
        · exact q
    · exact q
    · exact q
theorem lim63 {n : Nat} (h : n ≤ lim) : (n : Int) < 2 ^ 63 := Int.ofNat_lt.mpr (Nat.lt_of_le_of_lt h (by decide : lim < 2 ^ 63))
theorem lim40 {n : Nat} (h : n ≤ lim) : n ≤ 1099511627776 := Nat.le_trans h (by decide)
theorem limLine {n : Nat} (h : n ≤ lim) : n ≤ sizeLine := by rw [sizeLine_eq]; exact Nat.le_trans h (by decide)
/-- a place within a list that is not too long -/
theorem place63 {i : Int} {n : Nat} (h0 : 0 ≤ i) (h : i.toNat < n) (hl : n ≤ lim) : i < 2 ^ 63 := Int.lt_trans ((Int.toNat_lt h0).mp h) (lim63 hl)
end Mine
end
section
set_option backward.match.sparseCases false
open PySem PySem.W PyProof.Rows PySem.Calls
open PySem.Sem (wp)
set_option maxRecDepth 100000
namespace Mine

section
variable {prog : Program} {w : World} {A : Around} {hb : Heap} {σ : Hp} {s : Shared}

noncomputable def opOf : BOp → Operator
  | .add => .Add | .sub => .Sub | .mul => .Mult | .fdiv => .FloorDiv | .mod => .Mod | .pow => .Pow | .shl => .LShift | .shr => .RShift | .and => .BitAnd | .or => .BitOr

theorem fdiv_pos {i j : Int} (h : 0 < j) : i.fdiv j = i / j := Int.fdiv_eq_ediv_of_nonneg _ (by lia)
theorem fmod_pos {i j : Int} (h : 0 < j) : i.fmod j = i % j := Int.fmod_eq_emod_of_nonneg _ (by lia)
theorem bitAnd_pos {i j : Int} (h : 0 ≤ i) (h' : 0 ≤ j) : Builtin.bitAnd i j = Int.ofNat (i.toNat &&& j.toNat) := by
  unfold Builtin.bitAnd
  simp [h, h']
theorem bitNot_bitNot (i : Int) : Builtin.bitNot (Builtin.bitNot i) = i := by unfold Builtin.bitNot; lia
theorem bitOr_pos {i j : Int} (h : 0 ≤ i) (h' : 0 ≤ j) : Builtin.bitOr i j = Int.ofNat (i.toNat ||| j.toNat) := by
  unfold Builtin.bitOr Builtin.bitAnd
  have h1 : ¬ 0 ≤ Builtin.bitNot i := by unfold Builtin.bitNot; lia
  have h2 : ¬ 0 ≤ Builtin.bitNot j := by unfold Builtin.bitNot; lia
  simp only [h1, h2, decide_false, bitNot_bitNot]
  rfl
theorem mulOk {i j : Int} (h : i.natAbs < 2 ^ 64) : IntMulOk i j := IntMulOk.of_left (intBits_le h)

theorem noPylong {i j : Int} (h : j < 1073741824) (hj : 0 < j) : Builtin.divisionGoesByPylong i j = false := PyProof.noPylong_small (by lia)

theorem int_sound {op : BOp} {i j : Int} {t u : Tok} {Q : Int → Prop} {R : Value → Shared → Prop} (h : intOp op i j Q) (hR : ∀ k tk tk', Q k → R (.int k tk) { s with toks := tk' }) :
    wpG (model prog w) A (binaryOp (opOf op) (.int i t) (.int j u)) R s := by
  refine wpG_of_any ?_
  cases op with
  | add => exact add_int (hR _ _ _ h)
  | sub => exact sub_int (hR _ _ _ h)
  | mul => exact PyProof.Rows.mul_int (hm := mulOk h.1) (hR _ _ _ h.2.2)
  | fdiv => exact floordiv_int (by have := h.1; lia) (by rw [fdiv_pos h.1]; exact hR _ _ _ h.2.2) (.inl (noPylong h.2.1 h.1))
  | mod => exact mod_int' (by have := h.1; lia) (by rw [fmod_pos h.1]; exact hR _ _ _ h.2)
  | pow => exact pow_int_small h.1 (by have := h.2.1; lia) h.2.2.1 (hR _ _ _ h.2.2.2)
  | shl => exact lshift_int_small h.1 (by have := h.2.1; lia) h.2.2.1 (hR _ _ _ h.2.2.2)
  | shr => exact rshift_int h.1 (by rw [fdiv_pos (by exact Int.pow_pos (by decide))]; exact hR _ _ _ h.2)
  | and => exact and_int (by rw [bitAnd_pos h.1 h.2.1]; exact hR _ _ _ h.2.2)
  | or => exact or_int (by rw [bitOr_pos h.1 h.2.1]; exact hR _ _ _ h.2.2)
theorem iint_sound {op : BOp} {i j : Int} {t u : Tok} {Q : Int → Prop} {R : Value → Shared → Prop} (h : intOp op i j Q) (hR : ∀ k tk tk', Q k → R (.int k tk) { s with toks := tk' }) :
    wpG (model prog w) A (inplaceOp (opOf op) (.int i t) (.int j u)) R s := by
  refine wpG_of_any ?_
  cases op with
  | add => exact iadd_int (hR _ _ _ h)
  | sub => exact isub_int (hR _ _ _ h)
  | mul => exact PyProof.Rows.imul_int (hm := mulOk h.1) (hR _ _ _ h.2.2)
  | fdiv => exact ifloordiv_int (by have := h.1; lia) (by rw [fdiv_pos h.1]; exact hR _ _ _ h.2.2) (.inl (noPylong h.2.1 h.1))
  | mod => exact imod_int (by have := h.1; lia) (by rw [fmod_pos h.1]; exact hR _ _ _ h.2)
  | pow => exact ipow_int_small h.1 (by have := h.2.1; lia) h.2.2.1 (hR _ _ _ h.2.2.2)
  | shl => exact ilshift_int_small h.1 (by have := h.2.1; lia) h.2.2.1 (hR _ _ _ h.2.2.2)
  | shr => exact irshift_int h.1 (by rw [fdiv_pos (by exact Int.pow_pos (by decide))]; exact hR _ _ _ h.2)
  | and => exact iand_int (by rw [bitAnd_pos h.1 h.2.1]; exact hR _ _ _ h.2.2)
  | or => exact ior_int (by rw [bitOr_pos h.1 h.2.1]; exact hR _ _ _ h.2.2)

theorem tuple_mulW (l : Addr) (items : Array Value) (n : Nat) (k : Int) (t : Tok) (dd : Option Addr) (sl : Array (Option Value)) (hB : ¬ (items.isEmpty || k == 1) = true)
    (hA : ¬ (decide (k < -2 ^ 63) || decide (k ≥ 2 ^ 63)) = true) (hC : ¬ (decide (k ≤ 0) || items.isEmpty) = true) (hD : ¬ (items.size * k > (2 ^ 63 - 1) / 8)) (hE : ¬ Builtin.Tuple.tupleTooMany (items.size * k) = true)
    (hF : (List.foldl (fun x1 x2 => x1 ++ x2) #[] (List.replicate k.toNat items)).size ≤ sizeLine) :
    Meets (Builtin.«tuple.__mul__» ⟨[.ref l, .int k t], []⟩) (fun _ R s => s.heap.get? l = some { cls := .type "tuple", dict := dd, data := .seq items n, slots := sl } ∧
      R (.ok (.ret (Value.ref s.heap.objs.size))) { s with heap := s.heap.push { cls := Value.type "tuple", data := Data.seq ((List.replicate k.toNat items).foldl (fun x1 x2 => x1 ++ x2) #[]) } }) :=
  .of_wp fun prog w A R s h => by
    obtain ⟨hp, g, d, tk, os⟩ := s
    obtain ⟨hl, h⟩ := h
    have f1 := AutoSeq1.idx_int
    wp_walk
    rw [if_neg hA]
    wp_walk using wpAny_loadPart' hl
    rw [if_neg hD]
    wp_walk
    exact ⟨_, rfl, h⟩
theorem int_rmul_tuple (a : Int) (t : Tok) (l : Addr) (items : Array Value) (n : Nat) :
    Meets (Builtin.«int.__rmul__» ⟨[.int a t, .ref l], []⟩) (fun _ R s => s.heap.get? l = some { cls := .type "tuple", dict := none, data := .seq items n, slots := #[] } ∧ R (.ok (.ret Value.notImplemented)) s) :=
  .of_wp fun prog w A R s h => by obtain ⟨hp, g, d, tk, os⟩ := s; obtain ⟨hl, h⟩ := h; wp_walk; exact ⟨_, rfl, h⟩
theorem look_tuple_rmul : typeLookup (.type "tuple") "__rmul__" = pure (some (.builtin "tuple.__rmul__")) := by rw [typeLookup_type, builtinLookup_eq_fast]; kernel_rfl
theorem noFill_tuple_mul : fillsNumberSlot (.type "tuple") "mul" = pure false :=
  PySem.fillsNumberSlot_seq (id := "tuple.__mul__") (r := some (.builtin "tuple.__rmul__")) PySem.F.slot_tuple_mul.lookup (by decide +kernel) look_tuple_rmul (by decide +kernel)
theorem repeat_tuple : seqRepeat? (.type "tuple") = pure (some (.builtin "tuple.__mul__")) := by
  unfold seqRepeat?
  rw [PySem.seqSlot_of (T := "tuple") (name := "__mul__") (id := "tuple.__mul__") PySem.F.slot_tuple_mul.lookup (by decide +kernel), PySem.seqSlot_of (T := "tuple") (name := "__rmul__") (id := "tuple.__rmul__") look_tuple_rmul (by decide +kernel)]
  rfl
theorem fold_rep {α : Type} (b : List α) : ∀ (n : Nat) (acc : List α), (List.replicate n b.toArray).foldl (fun x1 x2 => x1 ++ x2) acc.toArray = (acc ++ repL n b).toArray
  | 0, acc => by simp [repL]
  | n + 1, acc => by
    rw [List.replicate_succ, List.foldl_cons, List.append_toArray, fold_rep b n (acc ++ b)]
    simp [repL, List.replicate_succ]
theorem fold_rep0 {α : Type} (b : List α) (n : Nat) : (List.replicate n b.toArray).foldl (fun x1 x2 => x1 ++ x2) #[] = (repL n b).toArray := by
  have := fold_rep b n []
  simpa using this
theorem repL_length {α : Type} (n : Nat) (b : List α) : (repL n b).length = n * b.length := by simp [repL]

theorem mul_tuple_sound {a : Addr} {vs : List Value} {n : Nat} {k : Int} {t : Tok} {R : Value → Shared → Prop} (h : s.heap.get? a = some (tupOf vs n)) (hne : vs ≠ []) (h2 : 2 ≤ k) (hk : k ≤ 1000) (hz : vs.length * k.toNat ≤ lim)
    (hR : R (.ref s.heap.objs.size) { s with heap := s.heap.push (tupOf (repL k.toNat vs) 0) }) : wpG (model prog w) A (binaryOp .Mult (.ref a) (.int k t)) R s := by
  have hz' : (vs.length : Int) * k ≤ 1000000 := by
    have e : ((vs.length * k.toNat : Nat) : Int) = (vs.length : Int) * k := by rw [Int.natCast_mul, Int.toNat_of_nonneg (by lia)]
    unfold lim at hz; lia
  have hemp : vs.toArray.isEmpty = false := by simp [hne]
  refine wpG_of_any (wpAny_binaryOp_repeat_ref (T := "tuple") (U := "int") (by decide) ⟨_, h, rfl⟩ (fun s' => typeIs_int s' k t) noFill_tuple_mul PySem.F.fills_int_mul PySem.F.slot_int_rmul repeat_tuple PySem.F.slot_int_index.lookup
    (call_meets PySem.F.slot_int_rmul (typeIs_int s k t) PySem.F.entry_int_rmul (PySem.F.args_int_rmul_2 _ _) (int_rmul_tuple k t a vs.toArray n)
      ⟨h, rfl, ⟨_, h, rfl⟩, call_meets PySem.F.slot_tuple_mul ⟨_, h, rfl⟩ PySem.F.entry_tuple_mul (PySem.F.args_tuple_mul_2 _ _) (tuple_mulW a vs.toArray n k t none #[] ?_ ?_ ?_ ?_ ?_ ?_) ⟨h, ?_⟩⟩))
  · rw [hemp]; simp; lia
  · simp; lia
  · rw [hemp]; simp; lia
  · simp only [List.size_toArray]; lia
  · unfold Builtin.Tuple.tupleTooMany; rw [sizeLine_eq]; simp only [List.size_toArray, decide_eq_true_eq]; lia
  · rw [fold_rep0, List.size_toArray, repL_length, sizeLine_eq, Nat.mul_comm]; unfold lim at hz; lia
  · rw [fold_rep0]; exact hR
theorem mul_list_sound {a : Addr} {vs : List Value} {n : Nat} {k : Int} {t : Tok} {R : Value → Shared → Prop} (h : s.heap.get? a = some (lstOf vs n)) (h0 : 0 ≤ k) (hk : k ≤ 1000) (hz : vs.length * k.toNat ≤ lim)
    (hR : R (.ref s.heap.objs.size) { s with heap := s.heap.push (lstOf (repL k.toNat vs) 0) }) : wpG (model prog w) A (binaryOp .Mult (.ref a) (.int k t)) R s := by
  unfold lim at hz
  have e : (List.foldl (fun x1 x2 => x1 ++ x2) #[] (List.replicate (if vs.toArray.isEmpty = true then 0 else k.toNat) vs.toArray)) = (repL k.toNat vs).toArray := by
    rw [fold_rep0]
    by_cases hv : vs = []
    · subst hv; simp [repL]
    · rw [if_neg (by simp [hv])]
  refine wpG_of_any (wpAny_binaryOp_repeat_ref (T := "list") (U := "int") (by decide) ⟨_, h, rfl⟩ (fun s' => typeIs_int s' k t) noFill_list_mul PySem.F.fills_int_mul PySem.F.slot_int_rmul repeat_list PySem.F.slot_int_index.lookup
    (call_meets PySem.F.slot_int_rmul (typeIs_int s k t) PySem.F.entry_int_rmul (PySem.F.args_int_rmul_2 _ _) (int___rmul___int_list k t a vs.toArray n)
      ⟨h, rfl, ⟨_, h, rfl⟩, call_meets PySem.F.slot_list_mul ⟨_, h, rfl⟩ PySem.F.entry_list_mul (PySem.F.args_list_mul_2 _ _)
        (AutoListH.list___mul___list_int_3 a vs.toArray n k t (by simp [Builtin.List.listFitsIndex]; lia) (by rw [List.size_toArray]; lia) (by simp [Builtin.List.listTooLong, sizeLine]; lia)) ⟨h, ?_⟩⟩))
  rw [e]; exact hR
theorem add_list_sound {a b : Addr} {vs ws : List Value} {n m : Nat} {R : Value → Shared → Prop} (h : s.heap.get? a = some (lstOf vs n)) (h' : s.heap.get? b = some (lstOf ws m)) (hz : vs.length + ws.length ≤ lim)
    (hR : R (.ref s.heap.objs.size) { s with heap := s.heap.push (lstOf (vs ++ ws) 0) }) : wpG (model prog w) A (binaryOp .Add (.ref a) (.ref b)) R s := by
  unfold lim at hz
  have e : vs.toArray ++ ws.toArray = (vs ++ ws).toArray := by simp
  refine wpG_of_any (concat_meets ⟨_, h, rfl⟩ ⟨_, h', rfl⟩ noFill_list_add seq_list_add PySem.F.slot_list_add PySem.F.entry_list_add (PySem.F.args_list_add_2 _ _)
    (list_addW a b vs.toArray ws.toArray n m none none #[] #[] (by rw [List.size_toArray, List.size_toArray, sizeLine_eq]; lia)) ⟨h, h', ?_⟩)
  rw [e]; exact hR
theorem add_tuple_sound {a b : Addr} {vs ws : List Value} {n m : Nat} {R : Value → Shared → Prop} (h : s.heap.get? a = some (tupOf vs n)) (h' : s.heap.get? b = some (tupOf ws m)) (hz : vs.length + ws.length ≤ lim)
    (h0 : vs = [] → R (.ref b) s) (h1 : ws = [] → R (.ref a) s)
    (hR : R (.ref s.heap.objs.size) { s with heap := s.heap.push (tupOf (vs ++ ws) 0) }) : wpG (model prog w) A (binaryOp .Add (.ref a) (.ref b)) R s := by
  unfold lim at hz
  have e : vs.toArray ++ ws.toArray = (vs ++ ws).toArray := by simp
  refine wpG_of_any ?_
  by_cases hv : vs = []
  · exact concat_meets ⟨_, h, rfl⟩ ⟨_, h', rfl⟩ noFill_tuple_add seq_tuple_add PySem.F.slot_tuple_add PySem.F.entry_tuple_add (PySem.F.args_tuple_add_2 _ _)
      (tuple_addW0 a b vs.toArray ws.toArray n m none none #[] #[] (by simp [hv])) ⟨h, h', h0 hv⟩
  · by_cases hw : ws = []
    · exact concat_meets ⟨_, h, rfl⟩ ⟨_, h', rfl⟩ noFill_tuple_add seq_tuple_add PySem.F.slot_tuple_add PySem.F.entry_tuple_add (PySem.F.args_tuple_add_2 _ _)
        (tuple_addW1 a b vs.toArray ws.toArray n m none none #[] #[] (by simpa using hv) (by simp [hw])) ⟨h, h', h1 hw⟩
    · refine concat_meets ⟨_, h, rfl⟩ ⟨_, h', rfl⟩ noFill_tuple_add seq_tuple_add PySem.F.slot_tuple_add PySem.F.entry_tuple_add (PySem.F.args_tuple_add_2 _ _)
        (tuple_addW2 a b vs.toArray ws.toArray n m none none #[] #[] (by simpa using hv) (by simpa using hw) (by rw [List.size_toArray, List.size_toArray, sizeLine_eq]; lia)) ⟨h, h', ?_⟩
      rw [e]; exact hR

theorem nums_repL (b : List UInt8) : ∀ n, nums (repL n b).toArray = repL n (nums b.toArray)
  | 0 => by simp [repL, nums]
  | n + 1 => by
    have := nums_repL b n
    unfold nums repL at *
    simp only [List.replicate_succ, List.flatten_cons, List.map_append] at *
    rw [this]
theorem mul_bytes_sound {b : Array UInt8} {k : Int} {t u : Tok} {R : Value → Shared → Prop} (hne : nums b ≠ []) (h0 : 0 ≤ k) (hk : k ≤ 1000) (hz : (nums b).length * k.toNat ≤ lim)
    (hR : ∀ c t' tk, nums c = repL k.toNat (nums b) → R (.bytes c t') { s with toks := tk }) : wpG (model prog w) A (binaryOp .Mult (.bytes b t) (.int k u)) R s := by
  obtain ⟨b⟩ := b
  have hl : (nums ⟨b⟩).length = b.length := by simp [nums]
  have hb : b ≠ [] := by rintro rfl; exact hne rfl
  rw [hl] at hz
  unfold lim at hz
  have e3 : b.toArray.size = b.length := by simp
  have hpos : 0 < b.length := List.length_pos_iff.mpr hb
  have hf : Builtin.Bytes.fitsIndex k = true := by simp only [Builtin.Bytes.fitsIndex, Bool.and_eq_true, decide_eq_true_eq]; lia
  refine wpG_of_any ?_
  by_cases h1 : k = 1
  · subst h1
    refine wpAny_binaryOp_repeat (T := "bytes") (U := "int") (by decide) (fun s' => typeIs_bytes s' _ t) (fun s' => typeIs_int s' 1 u) BMul.noFill PySem.F.fills_int_mul PySem.F.slot_int_rmul BMul.repeats PySem.F.slot_int_index.lookup
      (call_gives PySem.F.slot_int_rmul (typeIs_int s 1 u) PySem.F.entry_int_rmul (PySem.F.args_int_rmul_2 _ _) (BMul.int_declines 1 u _ t)
        ⟨rfl, call_gives BMul.slot_mul (typeIs_bytes s _ t) BMul.entry_mul (BMul.args_mul _ _) (BMul.gives_mul1 (by rw [e3]; simp at hz; lia)) ?_⟩)
    exact hR b.toArray t s.toks (by simp [repL])
  · have h63 : ¬ b.toArray.size * k.toNat ≥ 2 ^ 63 := by rw [e3]; lia
    have hne' : (b.toArray.size * k.toNat == b.toArray.size) = false := by
      rw [e3]
      refine beq_false_of_ne fun e => ?_
      have : k.toNat = 1 := Nat.eq_of_mul_eq_mul_left hpos (by rw [e, Nat.mul_one])
      lia
    have hl : Builtin.Bytes.tooLong (b.toArray.size * k.toNat) = false := by rw [e3]; exact KBy.tooLong_not (by lia)
    refine wpAny_binaryOp_repeat (T := "bytes") (U := "int") (by decide) (fun s' => typeIs_bytes s' _ t) (fun s' => typeIs_int s' k u) BMul.noFill PySem.F.fills_int_mul PySem.F.slot_int_rmul BMul.repeats PySem.F.slot_int_index.lookup
      (call_gives PySem.F.slot_int_rmul (typeIs_int s k u) PySem.F.entry_int_rmul (PySem.F.args_int_rmul_2 _ _) (BMul.int_declines k u _ t)
        ⟨rfl, call_gives BMul.slot_mul (typeIs_bytes s _ t) BMul.entry_mul (BMul.args_mul _ _) (BMul.gives_mul hf h63 hne' hl) ?_⟩)
    rw [BMul.repeated_list hb]
    refine ⟨?_, hR _ _ _ (nums_repL b k.toNat)⟩
    rw [sizeLine_eq]
    have e4 : ((List.replicate k.toNat b).flatten.toArray).size = k.toNat * b.length := by simp
    rw [e4, Nat.mul_comm]
    lia

theorem bin_sound {op : BOp} {a b : V} {v u : Value} {Q : K1} (I : Inv hb σ s) (ra : Rep s.heap a v) (rb : Rep s.heap b u) (h : binP op a b σ Q) :
    wpG (model prog w) A (binaryOp (opOf op) v u) (Post hb σ s Q) s := by
  induction a using V.casesOn with
  | int i =>
    induction b using V.casesOn with
    | int j =>
      obtain ⟨t, rfl⟩ := ra
      obtain ⟨t', rfl⟩ := rb
      exact int_sound h fun k tk tk' q => Post.toks I q ⟨_, rfl⟩
    | _ => exact False.elim h
  | tup xs =>
    induction b using V.casesOn with
    | tup ys =>
      obtain ⟨rfl, hz, q⟩ := h
      obtain ⟨a, vs, n, rfl, g1, r1⟩ := id ra
      obtain ⟨b, ws, m, rfl, g2, r2⟩ := id rb
      refine add_tuple_sound g1 g2 (by rw [r1.length, r2.length]; exact hz) (fun e => ?_) (fun e => ?_) (Post.tup (tk := s.toks) I (r1.append r2) q)
      · obtain rfl : xs = [] := List.eq_nil_of_length_eq_zero (by rw [← r1.length, e]; rfl)
        exact Post.same I q rb
      · obtain rfl : ys = [] := List.eq_nil_of_length_eq_zero (by rw [← r2.length, e]; rfl)
        exact Post.same I q (by rw [List.append_nil]; exact ra)
    | int n =>
      obtain ⟨rfl, hne, h2, hk, hz, q⟩ := h
      obtain ⟨a, vs, m, rfl, g1, r1⟩ := id ra
      obtain ⟨t, rfl⟩ := rb
      exact mul_tuple_sound g1 (fun e => hne (List.eq_nil_of_length_eq_zero (by rw [← r1.length, e]; rfl))) h2 hk (by rw [r1.length]; exact hz) (Post.tup (tk := s.toks) I (r1.repL _) q)
    | _ => exact False.elim h
  | bytes xs =>
    induction b using V.casesOn with
    | int n =>
      obtain ⟨rfl, hne, h0, hk, hz, q⟩ := h
      obtain ⟨b, t, rfl, rfl⟩ := ra
      obtain ⟨t', rfl⟩ := rb
      exact mul_bytes_sound hne h0 hk hz fun c t' tk e => Post.toks I q ⟨c, t', rfl, e⟩
    | _ => exact False.elim h
  | ref x =>
    obtain rfl : v = .ref x := ra
    induction b using V.casesOn with
    | int n =>
      obtain ⟨t', rfl⟩ := rb
      obtain ⟨xs, vs, m, g1, r1, hl, rfl, h0, hk, hz, q⟩ := I.atL h
      exact mul_list_sound g1 h0 hk (by rw [hl]; exact hz) (Post.list (tk := s.toks) I (r1.repL _) q)
    | ref y =>
      obtain rfl : u = .ref y := rb
      obtain ⟨xs, vs, m, ys, ws, m', g1, r1, g2, r2, rfl, hz, q⟩ := I.atL2 h
      exact add_list_sound g1 g2 (by rw [r1.length, r2.length]; exact hz) (Post.list (tk := s.toks) I (r1.append r2) q)
    | _ => exact False.elim h
  | _ => exact False.elim h
end
end Mine
end
section
set_option backward.match.sparseCases false
open PySem PySem.W PyProof.Rows PySem.Calls
open PySem.Sem (wp)
set_option maxRecDepth 100000
namespace Mine

theorem nums_inj {b c : Array UInt8} (h : nums b = nums c) : b = c := by
  obtain ⟨b⟩ := b
  obtain ⟨c⟩ := c
  unfold nums at h
  simp only at h
  congr
  induction b generalizing c with
  | nil => cases c with
    | nil => rfl
    | cons x c => cases h
  | cons x b ih => cases c with
    | nil => cases h
    | cons y c =>
      simp only [List.map_cons, List.cons.injEq] at h
      rw [UInt8.toNat_inj.mp h.1, ih c h.2]

theorem eqAt_bytes {A : Around} {s : Shared} (b c : Array UInt8) (t u : Tok) (h : b = c) : SeqAt.EqAt A s (.bytes b t) (.bytes c u) true := fun prog w E Q hq => by
  subst h
  refine wpAny_holding ?_
  refine wpAny_ite_split (fun _ => wpAny_bind (wpAny_rule (wpAny_pure hq))) (fun _ => ?_)
  refine wpAny_bind ?_
  show wpAny _ _ (compareOp .Eq (.bytes b t) (.bytes b u)) _ _ _
  exact PySem.W.eq_bytes (wpAny_truthy_bool (by simpa using hq))
theorem isTuple_of {h : Heap} {a : Addr} {vs : List Value} {n : Nat} (g : h.get? a = some (tupOf vs n)) : h.IsTuple a vs.toArray := ⟨_, g, rfl, n, rfl⟩
theorem isTup_of {h : Heap} {a : Addr} {vs : List Value} {n : Nat} (g : h.get? a = some (tupOf vs n)) : IsTup h a vs.toArray := ⟨_, g, rfl, n, rfl⟩
theorem isList_of {h : Heap} {a : Addr} {vs : List Value} {n : Nat} (g : h.get? a = some (lstOf vs n)) : h.IsList a vs.toArray := ⟨_, g, rfl, n, rfl⟩

theorem RepL.at {h : Heap} {Ws : List V} {vs : List Value} (r : RepL h Ws vs) (j : Nat) (hj : j < vs.length) : ∃ W, Ws[j]? = some W ∧ Rep h W vs[j] := by
  have hl := r.length
  obtain ⟨v, e, R⟩ := r.get (i := j) (W := Ws[j]'(by lia)) (List.getElem?_eq_getElem (by lia))
  rw [List.getElem?_eq_getElem hj] at e
  exact ⟨_, List.getElem?_eq_getElem (by lia), by rw [Option.some.inj e]; exact R⟩
theorem all_tt {α : Type} (l : List α) : (l.all fun _ => true) = true := List.all_eq_true.mpr fun _ _ => rfl

theorem pureV_mono : ∀ (n : Nat) (W : V), pureV n W = true → pureV (n + 1) W = true
  | n, .none, h => by rfl
  | n, .bool _, h => by rfl
  | n, .int _, h => by rfl
  | n, .bytes _, h => by rfl
  | n, .ref _, h => by unfold pureV at h; cases h
  | n, .range _ _, h => by unfold pureV at h; cases h
  | 0, .tup _, h => by cases h
  | n + 1, .tup Ws, h => by
    exact List.all_eq_true.mpr fun W hW => pureV_mono n W (List.all_eq_true.mp h W hW)

theorem eqAt_pure {s : Shared} : ∀ (n : Nat) (W : V) (v u : Value) (A : Around), pureV n W = true → Rep s.heap W v → Rep s.heap W u → A.units + n < cLine → SeqAt.EqAt A s v u true
  | n, .none, v, u, A, hp, r, r', hu => by subst r r'; exact SeqAt.EqAt.same _
  | n, .bool b, v, u, A, hp, r, r', hu => by subst r r'; exact SeqAt.EqAt.same _
  | n, .int i, v, u, A, hp, r, r', hu => by
    obtain ⟨t, rfl⟩ := r; obtain ⟨t', rfl⟩ := r'
    have := SeqAt.EqAt.int_int (A := A) (s := s) i t i t'
    rwa [beq_self_eq_true] at this
  | n, .bytes l, v, u, A, hp, r, r', hu => by
    obtain ⟨b, t, rfl, e⟩ := r; obtain ⟨c, t', rfl, e'⟩ := r'
    exact eqAt_bytes _ _ _ _ (nums_inj (e.trans e'.symm))
  | n, .ref a, v, u, A, hp, r, r', hu => by unfold pureV at hp; cases hp
  | n, .range _ _, v, u, A, hp, r, r', hu => by unfold pureV at hp; cases hp
  | 0, .tup Ws, v, u, A, hp, r, r', hu => by cases hp
  | n + 1, .tup Ws, v, u, A, hp, r, r', hu => by
    obtain ⟨a, vs, k, rfl, g, x⟩ := r
    obtain ⟨b, ws, k', rfl, g', x'⟩ := r'
    by_cases hab : a = b
    · subst hab; exact SeqAt.EqAt.same _
    · skip
      refine SeqAt.EqAt.of_refs hab ?_
      have := SeqAt.RcAt.tuples (A := A) (s := s) (e := fun _ => true) (isTuple_of g) (isTuple_of g') (by lia) fun j h1 h2 => by
        rw [List.size_toArray] at h1 h2
        obtain ⟨W, e1, R1⟩ := x.at j h1
        obtain ⟨W', e2, R2⟩ := x'.at j h2
        rw [e1] at e2; cases e2
        have hW : W ∈ Ws := List.mem_of_getElem? e1
        exact eqAt_pure n W _ _ A.in1 (List.all_eq_true.mp hp W hW) (by simpa using R1) (by simpa using R2) (by show A.units + 1 + n < cLine; lia)
      have el : vs.length = ws.length := by rw [x.length, x'.length]
      simpa [el, all_tt] using this

section
variable {prog : Program} {w : World} {A : Around} {hb : Heap} {σ : Hp} {s : Shared}

theorem eqL_at {Ws : List V} {vs ws : List Value} (hp : Ws.all (pureV 8) = true) (x : RepL s.heap Ws vs) (x' : RepL s.heap Ws ws) (hu : A.units + 10 < cLine) :
    ∀ j (h1 : j < vs.toArray.size) (h2 : j < ws.toArray.size), SeqAt.EqAt A.in1 s vs.toArray[j] ws.toArray[j] ((fun _ => true) j) := fun j h1 h2 => by
  rw [List.size_toArray] at h1 h2
  obtain ⟨W, e1, R1⟩ := x.at j h1
  obtain ⟨W', e2, R2⟩ := x'.at j h2
  rw [e1] at e2; cases e2
  exact eqAt_pure 8 W _ _ A.in1 (List.all_eq_true.mp hp W (List.mem_of_getElem? e1)) (by simpa using R1) (by simpa using R2) (by show A.units + 1 + 8 < cLine; lia)

/-- == and != -/
theorem eq_sound {a b : V} {v u : Value} {Q : Bool → Prop} (I : Inv hb σ s) (ra : Rep s.heap a v) (rb : Rep s.heap b u) (h : eqP a b σ Q) (hu : A.units + 10 < cLine) :
    ∃ t, Q t ∧ ∀ R : Value → Shared → Prop, (R (.bool t) s → wpG (model prog w) A (compareOp .Eq v u) R s) ∧ (R (.bool (!t)) s → wpG (model prog w) A (compareOp .NotEq v u) R s) := by
  unfold eqP at h
  split at h
  · rename_i i j
    obtain ⟨t, rfl⟩ := ra; obtain ⟨t', rfl⟩ := rb
    refine ⟨_, h, fun R => ⟨fun q => wpG_of_any (PyProof.Rows.eq_int ?_), fun q => wpG_of_any (PyProof.Rows.ne_int ?_)⟩⟩
    · rwa [show (i == j) = decide (i = j) from rfl]
    · rwa [show (i != j) = !decide (i = j) from rfl]
  · rename_i x y
    subst ra rb
    split at h
    · rename_i xs ys e1 e2
      obtain ⟨rfl, hp, q⟩ := h
      obtain ⟨vs, n, g1, r1⟩ := I.rep _ _ e1
      obtain ⟨ws, m, g2, r2⟩ := I.rep _ _ e2
      have el : vs.length = ws.length := by rw [r1.length, r2.length]
      refine ⟨true, q, fun R => ⟨fun q => wpG_of_any ?_, fun q => wpG_of_any ?_⟩⟩
      · exact SeqAt.RcAt.lists (isList_of g1) (isList_of g2) (by simp [el]) (by lia) (eqL_at hp r1 r2 hu) prog w _ _ (by simpa [all_tt] using q)
      · exact SeqAt.RcNeAt.lists (isList_of g1) (isList_of g2) (by simp [el]) (by lia) (eqL_at hp r1 r2 hu) prog w _ _ (by simpa [all_tt] using q)
    · exact h.elim
  · obtain ⟨rfl, hp, q⟩ := h
    refine ⟨true, q, fun R => ?_⟩
    cases a with
    | none => subst ra rb; exact ⟨fun q => wpG_of_any (SeqAt.RcAt.none_none prog w _ _ q), fun q => wpG_of_any (SeqAt.RcNeAt.none_none prog w _ _ q)⟩
    | bool b =>
      subst ra rb
      exact ⟨fun q => wpG_of_any (SeqAt.RcAt.bool_bool b b prog w _ _ (by simpa using q)), fun q => wpG_of_any (SeqAt.RcNeAt.bool_bool b b prog w _ _ (by simpa using q))⟩
    | int i =>
      obtain ⟨t, rfl⟩ := ra; obtain ⟨t', rfl⟩ := rb
      exact ⟨fun q => wpG_of_any (PyProof.Rows.eq_int (by simpa using q)), fun q => wpG_of_any (PyProof.Rows.ne_int (by simpa using q))⟩
    | bytes l =>
      obtain ⟨b, t, rfl, e⟩ := ra; obtain ⟨c, t', rfl, e'⟩ := rb
      have := nums_inj (e.trans e'.symm)
      subst this
      exact ⟨fun q => wpG_of_any (PySem.W.eq_bytes (by simpa using q)), fun q => wpG_of_any (PySem.W.ne_bytes (by simpa using q))⟩
    | tup Ws =>
      obtain ⟨a, vs, k, rfl, g, x⟩ := ra
      obtain ⟨b, ws, k', rfl, g', x'⟩ := rb
      have hp' : Ws.all (pureV 8) = true := by
        refine List.all_eq_true.mpr fun W hW => ?_
        exact pureV_mono 7 W (List.all_eq_true.mp hp W hW)
      have el : vs.length = ws.length := by rw [x.length, x'.length]
      exact ⟨fun q => wpG_of_any (SeqAt.RcAt.tuples (isTuple_of g) (isTuple_of g') (by lia) (eqL_at hp' x x' hu) prog w _ _ (by simpa [el, all_tt] using q)),
        fun q => wpG_of_any (SeqAt.RcNeAt.tuples (isTuple_of g) (isTuple_of g') (by lia) (eqL_at hp' x x' hu) prog w _ _ (by simpa [el, all_tt] using q))⟩
    | ref a => cases hp
    | range _ _ => cases hp
end
end Mine
end
section
set_option backward.match.sparseCases false
open PySem PySem.W PyProof.Rows PySem.Calls
open PySem.Sem (wp)
set_option maxRecDepth 100000
namespace Mine
section
variable {prog : Program} {w : World} {A : Around} {hb : Heap} {σ : Hp} {s : Shared}

noncomputable def copOp : COp → CmpOp
  | .lt => .Lt | .le => .LtE | .gt => .Gt | .ge => .GtE | .eq => .Eq | .ne => .NotEq | .notin => .NotIn | .is => .Is | .isnt => .IsNot

theorem any_ints {k : Int} : ∀ {vs : List Value} {l : List Int}, IntsAre vs l → vs.any (fun v => match v with | .int i _ => i == k | _ => false) = l.contains k
  | _, _, .nil => rfl
  | _, _, .cons n t r => by
    have e : (n == k) = (k == n) := by rw [Bool.eq_iff_iff, beq_iff_eq, beq_iff_eq]; exact eq_comm
    simp only [List.any_cons, List.contains_cons, any_ints r, e]
theorem ltP_inv {f : Int → Int → Bool} {a b : V} {Q : Bool → Prop} (h : ltP a b f Q) : ∃ i j, a = .int i ∧ b = .int j ∧ Q (f i j) := by
  refine Classical.byContradiction fun hn => ?_
  induction a using V.casesOn with
  | int i =>
    induction b using V.casesOn with
    | int j => exact hn ⟨i, j, rfl, rfl, h⟩
    | _ => exact h
  | _ => exact h
theorem notin_inv {a b : V} {Q : Bool → Prop} (h : cmpP .notin a b σ Q) : ∃ i y ys l, a = .int i ∧ b = .ref y ∧ σ y = some (.lst ys) ∧ allInts ys = some l ∧ Q (!l.contains i) := by
  refine Classical.byContradiction fun hn => ?_
  induction a using V.casesOn with
  | int i =>
    induction b using V.casesOn with
    | ref y =>
      replace h : (match σ y with
        | some (.lst ys) => match allInts ys with
          | some l => Q (!l.contains i)
          | none => False
        | _ => False) := h
      rcases e : σ y with _ | o
      · rw [e] at h; exact h
      · rw [e] at h
        rcases o with ys | _ | _
        · replace h : (match allInts ys with
            | some l => Q (!l.contains i)
            | none => False) := h
          rcases el : allInts ys with _ | l
          · rw [el] at h; exact h
          · rw [el] at h; exact hn ⟨i, y, ys, l, rfl, rfl, e, el, h⟩
        · exact h
        · exact h
    | _ => exact h
  | _ => exact h
theorem Rep.isn {h : Heap} {a : V} {v : Value} (ra : Rep h a v) : plainIs v .none = true ∧ (v == .none) = a.isNil := by
  induction a using V.casesOn with
  | none => obtain rfl : v = .none := ra; exact ⟨rfl, rfl⟩
  | bool b => obtain rfl : v = .bool b := ra; exact ⟨rfl, rfl⟩
  | int i => obtain ⟨t, rfl⟩ := ra; exact ⟨rfl, rfl⟩
  | bytes l => obtain ⟨b, t, rfl, _⟩ := ra; exact ⟨rfl, rfl⟩
  | tup Ws => obtain ⟨a, vs, n, rfl, _⟩ := ra; exact ⟨rfl, rfl⟩
  | ref a => obtain rfl : v = .ref a := ra; exact ⟨rfl, rfl⟩
  | range _ _ => obtain ⟨a, t, u, y, rfl, _⟩ := ra; exact ⟨rfl, rfl⟩
theorem cmp_sound {op : COp} {a b : V} {v u : Value} {Q : Bool → Prop} {R : Value → Shared → Prop} (I : Inv hb σ s) (ra : Rep s.heap a v) (rb : Rep s.heap b u) (h : cmpP op a b σ Q) (hu : A.units + 10 < cLine)
    (hR : ∀ t, Q t → R (.bool t) s) : wpG (model prog w) A (compareOp (copOp op) v u) R s := by
  induction op using COp.casesOn with
  | lt => obtain ⟨i, j, rfl, rfl, q⟩ := ltP_inv h; obtain ⟨t, rfl⟩ := ra; obtain ⟨t', rfl⟩ := rb; exact wpG_of_any (PyProof.Rows.lt_int (hR _ q))
  | le => obtain ⟨i, j, rfl, rfl, q⟩ := ltP_inv h; obtain ⟨t, rfl⟩ := ra; obtain ⟨t', rfl⟩ := rb; exact wpG_of_any (PySem.P.le_int (hR _ q))
  | gt => obtain ⟨i, j, rfl, rfl, q⟩ := ltP_inv h; obtain ⟨t, rfl⟩ := ra; obtain ⟨t', rfl⟩ := rb; exact wpG_of_any (PySem.P.gt_int (hR _ q))
  | ge => obtain ⟨i, j, rfl, rfl, q⟩ := ltP_inv h; obtain ⟨t, rfl⟩ := ra; obtain ⟨t', rfl⟩ := rb; exact wpG_of_any (PySem.P.ge_int (hR _ q))
  | eq => obtain ⟨t, q, k⟩ := eq_sound (prog := prog) (w := w) I ra rb h hu; exact (k R).1 (hR _ q)
  | ne => obtain ⟨t, q, k⟩ := eq_sound (prog := prog) (w := w) (Q := fun t => Q (!t)) I ra rb h hu; exact (k R).2 (hR _ q)
  | is =>
    obtain ⟨rfl, q⟩ := h
    obtain rfl : u = .none := rb
    exact wpG_of_any (wpAny_is_plain ra.isn.1 (by rw [ra.isn.2]; exact hR _ q))
  | isnt =>
    obtain ⟨rfl, q⟩ := h
    obtain rfl : u = .none := rb
    exact wpG_of_any (wpAny_isNot_plain ra.isn.1 (by rw [ra.isn.2]; exact hR _ q))
  | notin =>
    obtain ⟨i, y, ys, l, rfl, rfl, e, el, h⟩ := notin_inv h
    obtain ⟨vs, n, g, r⟩ := I.rep _ _ e
    have hi := r.ints el
    obtain ⟨t, rfl⟩ := ra
    obtain rfl : u = .ref y := rb
    refine wpG_of_any (SeqAt.notIn_listAt (fun v => match v with | .int j _ => j == i | _ => false) (isList_of g) (fun y hy => ?_) ?_)
    · obtain ⟨j, t', rfl⟩ := hi.all _ (List.mem_toArray.mp hy)
      exact SeqAt.EqAt.int_int j t' i t
    · rw [List.any_toArray, any_ints hi]; exact hR _ h

theorem truth_inv {a : V} {Q : Bool → Prop} (h : truthP a σ Q) : (∃ b, a = .bool b ∧ Q b) ∨ ∃ x, a = .ref x ∧ (match σ x with
    | some (.lst xs) => xs.length ≤ lim ∧ Q (!xs.isEmpty)
    | _ => False) := by
  refine Classical.byContradiction fun hn => ?_
  induction a using V.casesOn with
  | bool b => exact hn (.inl ⟨b, rfl, h⟩)
  | ref x => exact hn (.inr ⟨x, rfl, h⟩)
  | _ => exact h
theorem emptyLen {α β : Type} {vs : List α} {xs : List β} (h : vs.length = xs.length) : vs.toArray.isEmpty = xs.isEmpty := by
  rcases vs with _ | _ <;> rcases xs with _ | _
  · rfl
  · cases h
  · cases h
  · rfl
theorem truth_sound {a : V} {v : Value} {Q : Bool → Prop} {R : Bool → Shared → Prop} (I : Inv hb σ s) (ra : Rep s.heap a v) (h : truthP a σ Q)
    (hR : ∀ t tk, Q t → R t { s with toks := tk }) : wpG (model prog w) A (truthy v) R s := by
  rcases truth_inv h with ⟨b, rfl, h⟩ | ⟨x, rfl, h⟩
  · obtain rfl : v = .bool b := ra
    exact wpG_of_any (wpAny_truthy_bool (hR _ s.toks h))
  · obtain rfl : v = .ref x := ra
    obtain ⟨xs, vs, n, g, r, e, hl, q⟩ := I.atL h
    rw [← e] at hl
    refine wpG_of_any (wpAny_truthy_list (isList_of g) (lim63 hl) ?_)
    rw [emptyLen e]; exact hR _ _ q

/-- what a subscript does once both are there -/
theorem tail_sound {value slice : PySem.Expr} {o i : Value} {T id : String} {R : Value → Shared → Prop} (hT : s.TypeIs o T) (hl : typeLookup (.type T) "__getitem__" = pure (some (.builtin id)))
    (h : wpG (model prog w) A (getItem o i) R s) (hs : ∃ ops, subscripted slice false o i = operate ops (getItem o i)) : wpG (model prog w) A (subscriptTail value slice o i) R s := by
  obtain ⟨ops, hs⟩ := hs
  unfold subscriptTail
  refine wpG_bind ?_
  rw [getitemInPython_of_ne hT.not_modules]
  refine wpG_bind (wpG_of_any (wpAny_specialOf hT hl ?_))
  refine wpG_bind (wpG_pure (wpG_bind (wpG_pure ?_)))
  refine wpG_pure ?_
  rw [hs]
  exact wpG_bind (wpG_operate (wpG_mono h fun v s' r => wpG_bind (wpG_of_any (wpAny_letTemporaryGo (wpG_pure r)))))

theorem subscripted_plain {slice : PySem.Expr} {o i : Value} : ∃ ops, subscripted slice false o i = operate ops (getItem o i) := by
  induction slice using PySem.Expr.casesOn with
  | Slice _ _ st _ => rcases st with _ | _ <;> exact ⟨_, rfl⟩
  | _ => exact ⟨_, rfl⟩
theorem idx_inv {a b : V} {Q : V → Prop} (h : idxP a b σ Q) : ∃ i, b = .int i ∧ ((∃ vs, a = .tup vs ∧ 0 ≤ i ∧ vs.length ≤ lim ∧ ∃ v, vs[i.toNat]? = some v ∧ Q v) ∨ (∃ l, a = .bytes l ∧ 0 ≤ i ∧ l.length ≤ lim ∧ ∃ n, l[i.toNat]? = some n ∧ Q (.int n)) ∨
    ∃ x, a = .ref x ∧ (match σ x with
    | some (.lst vs) => vs.length ≤ lim ∧ ((0 ≤ i ∧ ∃ v, vs[i.toNat]? = some v ∧ Q v) ∨ (i = -1 ∧ ∃ v, vs.getLast? = some v ∧ Q v))
    | _ => False)) := by
  refine Classical.byContradiction fun hn => ?_
  induction a using V.casesOn with
  | tup vs =>
    induction b using V.casesOn with
    | int i => exact hn ⟨i, rfl, .inl ⟨vs, rfl, h⟩⟩
    | _ => exact h
  | bytes l =>
    induction b using V.casesOn with
    | int i => exact hn ⟨i, rfl, .inr (.inl ⟨l, rfl, h⟩)⟩
    | _ => exact h
  | ref x =>
    induction b using V.casesOn with
    | int i => exact hn ⟨i, rfl, .inr (.inr ⟨x, rfl, h⟩)⟩
    | _ => exact h
  | _ => exact h
theorem minusOne (n : Nat) : ((-1 : Int) + n).toNat = n - 1 := by
  rcases n with _ | k
  · rfl
  · show ((-1 : Int) + ((k : Int) + 1)).toNat = k
    rw [Int.add_comm, Int.add_neg_cancel_right]; rfl
theorem idx_sound {value slice : PySem.Expr} {a b : V} {v u : Value} {Q : V → Prop} {R : Value → Shared → Prop} (I : Inv hb σ s) (ra : Rep s.heap a v) (rb : Rep s.heap b u) (h : idxP a b σ Q)
    (_hsl : ∀ a b c, slice ≠ .Slice a b none c) (hR : ∀ r W tk, Q W → Rep s.heap W r → R r { s with toks := tk }) : wpG (model prog w) A (subscriptTail value slice v u) R s := by
  obtain ⟨i, rfl, k⟩ := idx_inv h
  clear h
  obtain ⟨t, rfl⟩ := rb
  rcases k with ⟨vs, rfl, h0, hl, W, e, q⟩ | ⟨l, rfl, h0, hl, n, e, q⟩ | ⟨x, rfl, h⟩
  · obtain ⟨a, ws, n, rfl, g, r⟩ := ra
    obtain ⟨x, ex, rx⟩ := r.get e
    have hlt : i.toNat < ws.length := (List.getElem?_eq_some_iff.mp ex).1
    rw [← r.length] at hl
    refine tail_sound ⟨_, g, rfl⟩ PySem.F.slot_tuple_getitem.lookup (wpG_of_any (PyProof.Rows.getItem_tuple (isTup_of g) (Int.le_trans (by decide) h0) (place63 h0 hlt hl) (j := i.toNat) ?_ (x := x) ?_ (hR _ _ s.toks q rx))) subscripted_plain
    · unfold seqIndex?
      simp only
      rw [if_neg (Int.not_lt.mpr h0), List.size_toArray, if_pos (Bool.and_eq_true_iff.mpr ⟨decide_eq_true h0, decide_eq_true ((Int.toNat_lt h0).mp hlt)⟩)]
    · rw [List.getElem?_toArray]; exact ex
  · obtain ⟨⟨b⟩, t, rfl, en⟩ := ra
    have en : b.map (·.toNat) = l := en
    have hlen : l.length = b.length := by rw [← en, List.length_map]
    have hlt : i.toNat < b.length := hlen ▸ (List.getElem?_eq_some_iff.mp e).1
    rw [hlen] at hl
    refine tail_sound (typeIs_bytes s _ t) FB.slot_bytes_getitem.lookup (wpG_of_any (PySem.W.getItem_bytes (l := b) (lim40 hl) h0 ((Int.toNat_lt h0).mp hlt) (hR _ _ (s.toks + 1) q ⟨s.toks, ?_⟩))) subscripted_plain
    rw [← en, List.getElem?_map, List.getElem?_eq_getElem hlt] at e
    rw [List.getD_eq_getElem?_getD, List.getElem?_eq_getElem hlt, Option.getD_some, ← Option.some.inj e]
  · obtain rfl : v = .ref x := ra
    obtain ⟨vs, ws, n, g, r, hlen, hl, h⟩ := I.atL h
    rw [← hlen] at hl
    rcases h with ⟨h0, W, e, q⟩ | ⟨rfl, W, e, q⟩
    · obtain ⟨y, ey, ry⟩ := r.get e
      exact tail_sound (isList_of g).typeIs slot_list_getitem.lookup (wpG_of_any (wpAny_getItem_list (isList_of g) h0 (place63 h0 (List.getElem?_eq_some_iff.mp ey).1 hl) (by rw [List.getElem?_toArray]; exact ey) (hR _ _ s.toks q ry))) subscripted_plain
    · rw [List.getLast?_eq_getElem?] at e
      obtain ⟨y, ey, ry⟩ := r.get e
      rw [← hlen] at ey
      have hlt : ws.length - 1 < ws.length := (List.getElem?_eq_some_iff.mp ey).1
      refine tail_sound (isList_of g).typeIs slot_list_getitem.lookup (wpG_of_any (wpAny_getItem_list_neg (isList_of g) (by decide) (by rw [List.size_toArray]; lia) (by lia) ?_ (hR _ _ s.toks q ry))) subscripted_plain
      rw [List.size_toArray, minusOne, List.getElem?_toArray]; exact ey

theorem pick_eq {α : Type} (l : List α) (a b : Nat) : (l.drop (min a l.length)).take (min b l.length - min a l.length) = (l.take b).drop a := by
  rw [List.drop_take]
  rcases Nat.le_total a l.length with ha | ha
  · rw [Nat.min_eq_left ha]
    rcases Nat.le_total b l.length with hb | hb
    · rw [Nat.min_eq_left hb]
    · rw [Nat.min_eq_right hb, List.take_of_length_le (by simp), List.take_of_length_le (by simp; lia)]
  · rw [Nat.min_eq_right ha]
    simp [List.drop_eq_nil_of_le ha]
theorem noneSome {α : Type} {P : Prop} {x : α} (h : (none : Option α) = some x) : P := by cases h
theorem bnd_inv {a : V} {d n : Nat} (e : bnd d a = some n) : (a = .none ∧ n = d) ∨ a = .int n := by
  refine Classical.byContradiction fun hn => ?_
  induction a using V.casesOn with
  | none => exact hn (.inl ⟨rfl, (Option.some.inj e).symm⟩)
  | int i =>
    replace e : (if 0 ≤ i ∧ i < 2 ^ 60 then some i.toNat else none) = some n := e
    by_cases hi : 0 ≤ i ∧ i < 2 ^ 60
    · rw [if_pos hi] at e
      obtain rfl := Option.some.inj e
      exact hn (.inr (by rw [Int.toNat_of_nonneg hi.1]))
    · rw [if_neg hi] at e; exact noneSome e
  | _ => exact noneSome e
theorem lo_part {a : V} {v : Value} {n : Nat} {h : Heap} (r : Rep h a v) (e : bnd 0 a = some n) : ∃ o, IsPart v o ∧ ∀ m, o.elim 0 (clipAt m) = min n m := by
  rcases bnd_inv e with ⟨rfl, rfl⟩ | rfl
  · obtain rfl : v = .none := r; exact ⟨none, .none, fun m => (Nat.zero_min m).symm⟩
  · obtain ⟨t, rfl⟩ := r; exact ⟨some n, .int n t, fun m => clipAt_nat m n⟩
theorem hi_part {d : Nat} {a : V} {v : Value} {n : Nat} {h : Heap} (r : Rep h a v) (e : bnd d a = some n) : ∃ o, IsPart v o ∧ o.elim d (clipAt d) = min n d := by
  rcases bnd_inv e with ⟨rfl, rfl⟩ | rfl
  · obtain rfl : v = .none := r; exact ⟨none, .none, (Nat.min_self _).symm⟩
  · obtain ⟨t, rfl⟩ := r; exact ⟨some n, .int n t, clipAt_nat d n⟩

theorem slc_sound {T : Tab} {value slice : PySem.Expr} {a lo hi : V} {v vl vh : Value} {Q : K1} (I : Inv hb σ s) (ra : Rep s.heap a v) (rl : Rep s.heap lo vl) (rh : Rep s.heap hi vh) (h : slcP T a lo hi σ Q) (CN : ∀ x vs, T.con x = some vs → ∃ us : List Value, s.heap.IsList x us.toArray ∧ RepL s.heap vs us)
    (hsl : ∃ a b c, slice = .Slice a b none c) :
    wpG (model prog w) A (subscriptTail value slice v (.ref s.heap.objs.size)) (Post hb σ s Q) { s with heap := s.heap.push { cls := .type "slice", data := .fields #[vl, vh, .none] } } := by
  have k := push_keep s.heap { cls := .type "slice", data := .fields #[vl, vh, .none] }
  have I' : Inv hb σ { s with heap := s.heap.push { cls := .type "slice", data := .fields #[vl, vh, .none] } } := I.grow k
  have X : Ext σ s σ { s with heap := s.heap.push { cls := .type "slice", data := .fields #[vl, vh, .none] } } := .grow k rfl rfl
  obtain ⟨sa, sb, sc, rfl⟩ := hsl
  have hops : ∀ o i, ∃ ops, subscripted (.Slice sa sb none sc) false o i = operate ops (getItem o i) := fun o i => ⟨_, rfl⟩
  unfold slcP at h
  split at h
  · rename_i l
    obtain ⟨hz, m, n, e1, e2, q⟩ := h
    obtain ⟨b, t, rfl, en⟩ := ra
    have hlen : l.length = b.size := by rw [← en]; simp [nums]
    obtain ⟨ol, pl, cl⟩ := lo_part rl e1
    obtain ⟨oh, ph, ch⟩ := hi_part rh e2
    refine tail_sound (typeIs_bytes _ _ _) FB.slot_bytes_getitem.lookup (wpG_of_any (getItem_meets (typeIs_bytes _ _ _) (by decide) FB.slot_bytes_getitem FB.entry_bytes_getitem (FB.args_bytes_getitem_2 _ _) (PySem.W.KBc.meets_slice2 b t _ pl ph)
      ⟨Heap.IsSliceOf.new _ _ _ _, Nat.le_trans (PySem.W.KBc.size_picked_le b ol oh) (by rw [← hlen, sizeLine_eq]; unfold lim at hz; lia), fun t' tk => Post.after X (Post.toks I' q ?_)⟩)) (hops _ _)
    refine ⟨_, t', rfl, ?_⟩
    rw [PySem.W.KBc.picked_eq]
    unfold nums
    rw [hlen] at ch
    simp only [List.map_take, List.map_drop]
    rw [show b.toList.map (·.toNat) = l from en, cl, ch, ← hlen]
    exact pick_eq l m n
  · rename_i x
    obtain rfl : v = .ref x := ra
    have key : ∀ (vs : List V) (ws : List Value), s.heap.IsList x ws.toArray → RepL s.heap vs ws → (vs.length ≤ lim ∧ ∃ l h, bnd 0 lo = some l ∧ bnd vs.length hi = some h ∧ ∀ r, σ r = none → Q (.ref r) (upd σ r (.lst ((vs.take h).drop l)))) →
        wpG (model prog w) A (subscriptTail value (.Slice sa sb none sc) (.ref x) (.ref s.heap.objs.size)) (Post hb σ s Q) { s with heap := s.heap.push { cls := .type "slice", data := .fields #[vl, vh, .none] } } := by
      intro vs ws g r h
      obtain ⟨hz, m, n, e1, e2, q⟩ := h
      obtain ⟨ol, pl, cl⟩ := lo_part rl e1
      obtain ⟨oh, ph, ch⟩ := hi_part rh e2
      refine tail_sound (g.push _).typeIs slot_list_getitem.lookup (wpG_of_any (wpAny_getItem_list_slice (g.push _) (Heap.IsSliceOf.new ..) pl ph .none (by simp) ?_ (by rw [List.size_toArray, r.length, sizeLine_eq]; unfold lim at hz; lia))) (hops _ _)
      rw [slicePick_plain]
      have hl' : ws.toArray.size = vs.length := by rw [List.size_toArray, r.length]
      rw [hl', cl, ch, ← r.length]
      simp only [pick_eq]
      exact Post.after X (Post.list I' ((r.keep fun b o e _ => k b o e).take n |>.drop m) (tk := s.toks) (n := 0) q)
    split at h
    · rename_i vs ev
      obtain ⟨ws, c, g, r⟩ := I.rep _ _ ev
      exact key vs ws (isList_of g) r h
    · split at h
      · rename_i vs ev
        obtain ⟨ws, g, r⟩ := CN _ _ ev
        exact key vs ws g r h
      · exact h.elim
    · exact h.elim
  · exact h.elim
end
end Mine
end
section
set_option tactic.hygienic false
set_option backward.match.sparseCases false
open PySem PySem.W PyProof.Rows PySem.Calls
open PySem.Sem (wp)
set_option maxRecDepth 100000
namespace Mine
section
variable {prog : Program} {w : World} {A : Around} {hb : Heap} {σ : Hp} {s : Shared}
theorem wpG_of_eq {α : Type} {M : Model} {t : Sem α} {a : α} {Q : α → Shared → Prop} (e : t = pure a) (h : Q a s) : wpG M A t Q s := by rw [e]; exact wpG_pure h
theorem callTypeG {T newId initId : String} {args : List Value} {Q : Value → Shared → Prop} (ft : TypeCalled T newId initId) (hct : checkTypeCall T ⟨args, []⟩ = pure ())
    (hnew : codeG (model prog w) A.in1 (.call (.builtin newId) ⟨.type T :: args, []⟩) (fun f s₁ => match f with
      | .ret obj => s₁.TypeIs obj T ∧ codeG (model prog w) A.in1 (.call (.builtin initId) ⟨obj :: args, []⟩) (fun f s₂ => match f with | .ret r => r = .none ∧ Q obj s₂ | _ => False) s₁
      | _ => False) s) : wpG (model prog w) A (call (.type T) args) Q s := by
  obtain ⟨c, tl, hmro⟩ := ft.mro
  have hmade := ft.made
  have hsub := ft.sub
  refine wpG_call (codeG_of_tree rfl ?_)
  show wpG _ _ (callAny (.type T) _) _ _
  refine wpG_pure ⟨Code.quiet_builtin _ (by decide +kernel), codeG_builtin PySem.F.entry_type_call (by decide +kernel) ?_⟩
  rw [Around.under_plain (weight_type_call_type T args []) rfl]
  have h1 := ft.notType
  have h2 := ft.canCreate
  unfold Builtin.«type.__call__»
  dsimp only
  rw [if_neg (by rw [h1]; exact Bool.false_ne_true)]
  refine wpG_bind (wpG_pure ?_)
  rw [h2]
  show wpG _ _ (checkTypeCall T ⟨args, []⟩ >>= _) _ _
  refine wpG_bind (wpG_of_eq hct ?_)
  refine wpG_bind (wpG_of_eq hmro ?_)
  refine wpG_bind (wpG_of_eq hmade ?_)
  refine wpG_bind (wpG_pure ?_)
  refine wpG_bind (wpG_holding (wpG_call (codeG_mono hnew fun fl s₁ x => ?_)))
  induction fl using PySem.Flow.casesOn with
  | ret obj =>
    obtain ⟨hT, hi⟩ := x
    refine wpG_bind (m := isInstance obj (.type T)) (wpG_bind (wpG_of_any (wpAny_typeOf hT (wpG_of_eq hsub ?_))))
    refine wpG_bind (wpG_holding (wpG_bind (wpG_of_any (wpAny_specialOf hT ft.init.lookup ?_))))
    refine wpG_holding (wpG_bind (wpG_of_eq (ft.init.bind obj) ?_))
    refine wpG_bind (wpG_call (codeG_mono hi fun fl s₂ y => ?_))
    induction fl using PySem.Flow.casesOn with
    | ret r =>
      obtain ⟨rfl, q⟩ := y
      exact wpG_pure (wpG_pure q)
    | _ => exact y.elim
  | _ => exact x.elim
end
end Mine
end
section
set_option tactic.hygienic false
set_option backward.match.sparseCases false
open PySem PySem.W PyProof.Rows PySem.Calls
open PySem.Sem (wp)
set_option maxRecDepth 100000
namespace Mine
section
variable {prog : Program} {w : World} {A : Around} {hb : Heap} {σ : Hp} {s : Shared}
theorem entry_ba_append : entryFor table "bytearray.append" = some Builtin.«bytearray.append» := by first | exact entryFor_of_tree (by kernel_rfl) | exact entryFor_of_fast (by kernel_rfl)
theorem entry_ba_extend : entryFor table "bytearray.extend" = some Builtin.«bytearray.extend» := by first | exact entryFor_of_tree (by kernel_rfl) | exact entryFor_of_fast (by kernel_rfl)
theorem entry_ba_init : entryFor table "bytearray.__init__" = some Builtin.«bytearray.__init__» := by first | exact entryFor_of_tree (by kernel_rfl) | exact entryFor_of_fast (by kernel_rfl)
theorem entry_ba_new : entryFor table "bytearray.__new__" = some Builtin.«list.__new__» := by rw [table_eq_tree]; kernel_rfl
theorem mro_ba : mroOf (.type "bytearray") = pure [.type "bytearray", .type "object"] := by rw [mroOf_type]; kernel_rfl
theorem lookup_ba_new : typeLookup (.type "bytearray") "__new__" = pure (some (.builtin "bytearray.__new__")) := by rw [typeLookup_type, builtinLookup_eq_fast]; kernel_rfl
theorem slot_ba_init : Slot "bytearray" "__init__" "bytearray.__init__" :=
  .of (owner := "bytearray") (n := "__init__") (by rw [typeLookup_type, builtinLookup_eq_fast]; kernel_rfl) (by decide +kernel) (by decide +kernel) (by decide +kernel)
    (by first | exact .inl (by decide +kernel) | exact .inr (by decide +kernel)) (by rw [isSubtype_type]; kernel_rfl)
theorem slot_ba_append : Slot "bytearray" "append" "bytearray.append" :=
  .of (owner := "bytearray") (n := "append") (by rw [typeLookup_type, builtinLookup_eq_fast]; kernel_rfl) (by decide +kernel) (by decide +kernel) (by decide +kernel)
    (by first | exact .inl (by decide +kernel) | exact .inr (by decide +kernel)) (by rw [isSubtype_type]; kernel_rfl)
theorem slot_ba_extend : Slot "bytearray" "extend" "bytearray.extend" :=
  .of (owner := "bytearray") (n := "extend") (by rw [typeLookup_type, builtinLookup_eq_fast]; kernel_rfl) (by decide +kernel) (by decide +kernel) (by decide +kernel)
    (by first | exact .inl (by decide +kernel) | exact .inr (by decide +kernel)) (by rw [isSubtype_type]; kernel_rfl)
theorem called_ba : TypeCalled "bytearray" "bytearray.__new__" "bytearray.__init__" :=
  ⟨by decide +kernel, by decide +kernel, ⟨_, _, mro_ba⟩, madeBy_type mro_ba lookup_ba_new (by decide +kernel), by decide +kernel, by rw [isSubtype_type]; kernel_rfl, slot_ba_init⟩
theorem typeCall_ba : checkTypeCall "bytearray" ⟨[], []⟩ = pure () := by kernel_rfl
theorem newCall_ba : checkBuiltinCall "bytearray.__new__" ⟨[.type "bytearray"], []⟩ = pure () := by kernel_rfl
theorem plain_ba_new : plainId "bytearray.__new__" = true := by decide +kernel
theorem sub_ba : isSubtype (.type "bytearray") (.type "bytearray") = pure true := by rw [isSubtype_type]; kernel_rfl
set_option maxRecDepth 1000000 in
set_option maxHeartbeats 4000000 in
theorem owner_ba_new : ("bytearray.__new__".splitOn ".__new__").headD "" = "bytearray" := by simp +decide [String.splitOn, String.splitOnAux]
theorem args_ba_append (a b : Value) : argsOk "bytearray.append" ⟨[a, b], []⟩ := by kernel_rfl
theorem args_ba_extend (a b : Value) : argsOk "bytearray.extend" ⟨[a, b], []⟩ := by kernel_rfl
theorem args_ba_init (a : Value) : argsOk "bytearray.__init__" ⟨[a], []⟩ := by kernel_rfl
end
end Mine
end
section
set_option tactic.hygienic false
set_option backward.match.sparseCases false
open PySem PySem.W PyProof.Rows PySem.Calls
open PySem.Sem (wp)
set_option maxRecDepth 100000
namespace Mine
section
variable {prog : Program} {w : World} {A : Around} {hb : Heap} {σ : Hp} {s : Shared} {E : Value → Shared → Prop}
theorem code_ba_new {Q₁ : Value → Shared → Prop}
    (h : Q₁ (.ref s.heap.objs.size) { s with heap := s.heap.push { cls := .type "bytearray", data := .bytearray #[] } }) :
    codeAny (model prog w) A (.call (.builtin "bytearray.__new__") ⟨[.type "bytearray"], []⟩) (wants Q₁ E) s := by
  refine codeAny_of_tree ?_
  show wpAny _ A.in1 (do checkBuiltinCall "bytearray.__new__" ⟨[.type "bytearray"], []⟩; again (.builtin "bytearray.__new__" ⟨[.type "bytearray"], []⟩)) _ _ s
  refine wpAny_bind (wpAny_of_eq newCall_ba (wpAny_pure ⟨plainId_quiet plain_ba_new _, codeAny_builtin_stack entry_ba_new rfl fun p st => ?_⟩))
  rw [Around.under_plainId plain_ba_new _]
  have hsub := sub_ba
  have hown := owner_ba_new
  obtain ⟨hp, g, d, tk, os⟩ := s
  simp only [hown]
  wp_walk
  exact h
theorem checkG {T n id : String} {self : Value} {rest : List Value} {Q : Unit → Shared → Prop} (sl : Slot T n id) (hT : s.TypeIs self T) (ha : argsOk id ⟨self :: rest, []⟩) (q : Q () s) :
    wpG (model prog w) A (checkBuiltinCall id ⟨self :: rest, []⟩) Q s := wpG_of_any (sl.check _ _ _ _ _ _ _ _ hT ha q)
theorem plain_ba_init : plainId "bytearray.__init__" = true := by decide +kernel
theorem plain_ba_append : plainId "bytearray.append" = true := by decide +kernel
theorem plain_ba_extend : plainId "bytearray.extend" = true := by decide +kernel
theorem bad_ba_init : badIds.contains "bytearray.__init__" = false := by decide +kernel
theorem bad_ba_append : badIds.contains "bytearray.append" = false := by decide +kernel
theorem bad_ba_extend : badIds.contains "bytearray.extend" = false := by decide +kernel
theorem slotG {T n id : String} {b : Builtin} {self : Value} {rest : List Value} {R : Flow → Shared → Prop} (sl : Slot T n id) (hp : plainId id = true) (hb : badIds.contains id = false) (he : entryFor table id = some b)
    (hT : s.TypeIs self T) (ha : argsOk id ⟨self :: rest, []⟩) (h : wpG (model prog w) A.in1 (b ⟨self :: rest, []⟩) (FinG (model prog w) A R) s) : codeG (model prog w) A (.call (.builtin id) ⟨self :: rest, []⟩) R s := by
  refine codeG_call_builtin (plainId_quiet hp _) he hb (checkG sl hT ha ?_)
  rw [Around.under_plainId hp _]
  exact h
theorem ba_release : typeLookup (.type "bytearray") "__release_buffer__" = pure (some (.builtin "bytearray.__release_buffer__")) := by rw [typeLookup_type, builtinLookup_eq_fast]; kernel_rfl
theorem ends_release : (!("bytearray.__release_buffer__".endsWith ("." ++ "__release_buffer__"))) = false := by decide +kernel
theorem drop_release : "bytearray.__release_buffer__".dropRight ("__release_buffer__".length + 1) = "bytearray" := by decide +kernel
theorem ownRelease_ba {a : Addr} {Q : Bool → Shared → Prop} (hT : s.TypeIs (.ref a) "bytearray") (h : Q false s) : wpG (model prog w) A (Builtin.Bytes.ownRelease (.ref a)) Q s := by
  refine wpG_of_any ?_
  refine wpAny_bind (wpAny_bind (wpAny_specialOf hT ba_release ?_))
  dsimp only
  rw [ends_release, if_neg Bool.false_ne_true, drop_release]
  exact wpAny_bind (wpAny_typeOf hT (wpAny_of_eq sub_ba (wpAny_pure h)))
theorem exports_ba {a : Addr} {b : Array UInt8} {Q : Bool → Shared → Prop} (hg : s.heap.get? a = some (barOf b)) (h : Q false s) :
    wpG (model prog w) A (Builtin.Bytes.exported (.ref a) <||> (do return (← Builtin.Bytes.exportsOf (.ref a)) > 0)) Q s := by
  refine wpG_bind (m := Builtin.Bytes.exported (.ref a)) (exported_false ?_)
  refine wpG_of_any ?_
  refine wpAny_bind (m := Builtin.Bytes.exportsOf (.ref a)) ?_
  exact wpAny_bind (wpAny_load hg (wpAny_pure (wpAny_pure h)))
theorem resize_ba {a : Addr} {b : Array UInt8} {Q : Unit → Shared → Prop} (hg : s.heap.get? a = some (barOf b)) (h : Q () s) : wpG (model prog w) A (Builtin.Bytes.checkResize (.ref a)) Q s := by
  refine wpG_bind (m := (Builtin.Bytes.exported (.ref a) <||> (do return (← Builtin.Bytes.exportsOf (.ref a)) > 0))) (exports_ba hg ?_)
  exact wpG_pure h
theorem write_ba {a : Addr} {b : Array UInt8} {f : Array UInt8 → Array UInt8} {Q : Unit → Shared → Prop} (hg : s.heap.get? a = some (barOf b)) (hz : (f b).size ≤ 2000000)
    (h : Q () { s with heap := s.heap.update a (Obj.mapBytearray f) }) : wpG (model prog w) A (Builtin.Bytes.write (.ref a) f) Q s := by
  refine wpG_of_any ?_
  show wpAny _ _ (updateBytearray a f) _ _ _
  refine wpAny_bind (wpAny_load hg ?_)
  refine wpAny_bind (wpAny_update hg ?_)
  refine wpAny_lookBehind (o := Obj.mapBytearray f (barOf b)) (Heap.get?_update_self _ hg rfl) ?_ h
  show Data.pastItsLine (.bytearray (f b) 0) = none
  unfold Data.pastItsLine
  simp only
  rw [if_neg (by rw [sizeLine_eq]; lia)]
theorem ba_init {a : Addr} {R : Flow → Shared → Prop} (hg : s.heap.get? a = some (barOf #[]))
    (h : R (.ret .none) { s with heap := s.heap.update a (Obj.mapBytearray fun _ => #[]) }) : codeG (model prog w) A (.call (.builtin "bytearray.__init__") ⟨[.ref a], []⟩) R s := by
  have hT : s.TypeIs (.ref a) "bytearray" := ⟨_, hg, rfl⟩
  refine slotG slot_ba_init plain_ba_init bad_ba_init entry_ba_init hT (args_ba_init _) ?_
  refine wpG_bind (m := Builtin.Bytes.ownRelease (.ref a)) (ownRelease_ba hT ?_)
  refine wpG_bind (m := Builtin.Bytes.bindOptional "bytearray.__init__" "bytearray" ["source", "encoding", "errors"] [] []) (wpG_of_eq (a := [none, none, none]) (by rfl) ?_)
  refine wpG_bind (m := Builtin.Bytes.checkCodecArg _ _ _ none) (wpG_of_eq (a := ()) rfl ?_)
  refine wpG_bind (m := Builtin.Bytes.checkCodecArg _ _ _ none) (wpG_of_eq (a := ()) rfl ?_)
  refine wpG_bind (m := (Builtin.Bytes.exported (.ref a) <||> (do return (← Builtin.Bytes.exportsOf (.ref a)) > 0))) (exports_ba hg ?_)
  refine wpG_bind (m := Builtin.Bytes.write (.ref a) fun _ => #[]) (write_ba hg (by simp) ?_)
  exact wpG_pure h
theorem new_ba {Q : Value → Shared → Prop} (h : Q (.ref s.heap.objs.size) { s with heap := (s.heap.push (barOf #[])).update s.heap.objs.size (Obj.mapBytearray fun _ => #[]) }) :
    wpG (model prog w) A (call (.type "bytearray") []) Q s := by
  refine callTypeG called_ba typeCall_ba (codeG_mono (codeG_of_any (codeAny_mono (code_ba_new (E := fun _ _ => False) (Q₁ := fun v s' => v = .ref s.heap.objs.size ∧ s' = { s with heap := s.heap.push (barOf #[]) }) ⟨rfl, rfl⟩) fun r s' x => ?_)) fun f s' x => x)
  induction r using Except.casesOn with
  | error e => exact x
  | ok fl => cases fl with
    | ret v =>
      obtain ⟨rfl, rfl⟩ := x
      have hg : (s.heap.push (barOf #[])).get? s.heap.objs.size = some (barOf #[]) := Heap.get?_push_size _ rfl
      exact ⟨⟨_, hg, rfl⟩, ba_init hg ⟨rfl, h⟩⟩
    | _ => exact x

theorem byteValue_int {n : Int} {t : Tok} {Q : UInt8 → Shared → Prop} (h0 : 0 ≤ n) (h1 : n < 256) (h : Q n.toNat.toUInt8 s) : wpG (model prog w) A (Builtin.Bytes.byteValue (.int n t)) Q s := by
  refine wpG_of_any ?_
  have f1 := AutoSeq1.idx_int
  have hA : ¬ (decide (n < 0) || decide (n ≥ 256)) = true := by simp; lia
  obtain ⟨hp, g, d, tk, os⟩ := s
  wp_walk
  exact h
theorem append_ba {a : Addr} {b : Array UInt8} {n : Int} {t : Tok} {Q : Value → Shared → Prop} (hg : s.heap.get? a = some (barOf b)) (h0 : 0 ≤ n) (h1 : n < 256) (hz : b.size ≤ 1000000)
    (h : Q .none { s with heap := s.heap.update a (Obj.mapBytearray (·.push n.toNat.toUInt8)) }) : wpG (model prog w) A (call (.builtin "bytearray.append") [.ref a, .int n t]) Q s := by
  have hT : s.TypeIs (.ref a) "bytearray" := ⟨_, hg, rfl⟩
  refine wpG_call (slotG slot_ba_append plain_ba_append bad_ba_append entry_ba_append hT (args_ba_append _ _) ?_)
  refine wpG_bind (m := selfAndOne "bytearray.append" ⟨[.ref a, .int n t], []⟩) (wpG_of_eq (a := (.ref a, .int n t)) rfl ?_)
  refine wpG_bind (m := Builtin.Bytes.byteValue (.int n t)) (byteValue_int h0 h1 ?_)
  refine wpG_bind (m := Builtin.Bytes.checkResize (.ref a)) (resize_ba hg ?_)
  refine wpG_bind (m := Builtin.Bytes.write (.ref a) _) (write_ba hg (by simp; lia) ?_)
  exact wpG_pure h
theorem buf_bytes : typeLookup (.type "bytes") "__buffer__" = pure (some (.builtin "bytes.__buffer__")) := by rw [typeLookup_type, builtinLookup_eq_fast]; kernel_rfl
theorem norel_bytes : typeLookup (.type "bytes") "__release_buffer__" = pure none := by rw [typeLookup_type, builtinLookup_eq_fast]; kernel_rfl
theorem ends_buf : (!("bytes.__buffer__".endsWith ("." ++ "__buffer__"))) = false := by decide +kernel
theorem drop_buf : "bytes.__buffer__".dropRight ("__buffer__".length + 1) = "bytes" := by decide +kernel
theorem sub_bytes : isSubtype (.type "bytes") (.type "bytes") = pure true := by rw [isSubtype_type]; kernel_rfl
theorem slotOwn_bytes {b : Array UInt8} {t : Tok} {E : Value → Shared → Prop} {Q : Bool → Shared → Prop} (h : Q true s) : wpAny (model prog w) A (Builtin.Bytes.slotIsOwn (.bytes b t) "__buffer__") Q E s := by
  refine wpAny_bind (wpAny_specialOf (typeIs_bytes s b t) buf_bytes ?_)
  dsimp only
  rw [ends_buf, if_neg Bool.false_ne_true, drop_buf]
  exact wpAny_bind (wpAny_typeOf (typeIs_bytes s b t) (wpAny_of_eq sub_bytes h))
theorem buffer_bytes {id : String} {b : Array UInt8} {t : Tok} {E : Value → Shared → Prop} {full : Bool} {Q : Option (Array UInt8) → Shared → Prop} (h : Q (some b) s) : wpAny (model prog w) A (Builtin.Bytes.buffer? id (.bytes b t) full) Q E s := by
  refine wpAny_bind (wpAny_specialOf (typeIs_bytes s b t) buf_bytes ?_)
  refine wpAny_bind (slotOwn_bytes ?_)
  refine wpAny_bind (wpAny_specialOf (typeIs_bytes s b t) buf_bytes ?_)
  refine wpAny_bind (m := Builtin.Bytes.ownRelease (.bytes b t)) ?_
  refine wpAny_bind (wpAny_bind (wpAny_specialOf (typeIs_bytes s b t) norel_bytes ?_))
  exact wpAny_pure (wpAny_pure (wpAny_bind (m := Builtin.Bytes.payload (.bytes b t)) (wpAny_of_eq (a := b) rfl (wpAny_pure h))))
theorem extend_ba {a : Addr} {b c : Array UInt8} {t : Tok} {Q : Value → Shared → Prop} (hg : s.heap.get? a = some (barOf b)) (hz : b.size + c.size ≤ 1000000)
    (h : Q .none { s with heap := s.heap.update a (Obj.mapBytearray (· ++ c)) }) : wpG (model prog w) A (call (.builtin "bytearray.extend") [.ref a, .bytes c t]) Q s := by
  have hT : s.TypeIs (.ref a) "bytearray" := ⟨_, hg, rfl⟩
  refine wpG_call (slotG slot_ba_extend plain_ba_extend bad_ba_extend entry_ba_extend hT (args_ba_extend _ _) ?_)
  refine wpG_bind (m := selfAndOne "bytearray.extend" ⟨[.ref a, .bytes c t], []⟩) (wpG_of_eq (a := (.ref a, .bytes c t)) rfl ?_)
  refine wpG_bind (m := specialOf (.bytes c t) "__buffer__") (wpG_of_any (wpAny_specialOf (typeIs_bytes s c t) buf_bytes ?_))
  refine wpG_bind (m := rule _) (wpG_rule ?_)
  refine wpG_bind (m := Builtin.Bytes.payload (.ref a)) (wpG_of_any ?_)
  refine wpAny_bind (m := Builtin.Bytes.payload? (.ref a)) (wpAny_bind (wpAny_load hg (wpAny_pure (wpAny_pure ?_))))
  refine wpG_bind (m := Builtin.Bytes.takeBufferQuiet? "bytearray.extend" (.bytes c t) 0) (wpG_of_any ?_)
  refine wpAny_bind (wpAny_attempt ?_)
  refine wpAny_bind (wpAny_specialOf (typeIs_bytes s c t) buf_bytes ?_)
  refine wpAny_bind (slotOwn_bytes ?_)
  refine wpAny_bind (wpAny_specialOf (typeIs_bytes s c t) buf_bytes ?_)
  refine wpAny_bind (buffer_bytes (wpAny_pure ?_))
  refine wpAny_pure ?_
  have fin : wpG (model prog w) A.in1 (Builtin.Bytes.write (.ref a) (· ++ c) >>= fun _ => ret .none) (FinG (model prog w) A fun f s' => match f with | .ret v => Q v s' | _ => False) s :=
    wpG_bind (write_ba hg (by simp; lia) (wpG_pure h))
  show wpG _ _ ((have jp := fun _ => Builtin.Bytes.write (.ref a) (· ++ c) >>= fun _ => ret .none; if (!c.isEmpty) = true then Builtin.Bytes.checkResize (.ref a) >>= jp else jp ()) : Sem PySem.Fin) _ _
  induction hc : c.isEmpty using Bool.casesOn with
  | true => exact fin
  | false => exact wpG_bind (m := Builtin.Bytes.checkResize (.ref a)) (resize_ba hg fin)
end
end Mine
end
section
set_option tactic.hygienic false
set_option backward.match.sparseCases false
open PySem PySem.W PyProof.Rows PySem.Calls
open PySem.Sem (wp)
set_option maxRecDepth 100000
namespace Mine
section
variable {prog : Program} {w : World} {A : Around} {hb : Heap} {σ : Hp} {s : Shared} {E : Value → Shared → Prop}
theorem bytesOf {x : Value} {Q : Value → Shared → Prop}
    (hnew : codeAny (model prog w) A.in1 (.call (.builtin "bytes.__new__") ⟨[.type "bytes", x], []⟩) (wants (fun v s' => s'.TypeIs v "bytes" ∧ Q v s') E) s) : wpAny (model prog w) A (call (.type "bytes") [x]) Q E s := by
  refine callType_codes (Q₁ := fun obj s₁ => s₁.TypeIs obj "bytes" ∧ Q obj s₁) F.bm_called (F.bm_typeCall _) F.entry_object_init hnew fun obj s₁ h₁ => ?_
  exact ⟨h₁.1, F.args_object_init_2 obj _, object_init_meets F.bm_called.init.lookup F.bm_called.made (by decide) prog w A.in1 _ s₁ ⟨h₁.1, rfl, h₁.2⟩⟩
theorem bytesDunder : typeLookup (.type "bytes") "__bytes__" = pure (some (.builtin "bytes.__bytes__")) := by rw [typeLookup_type, builtinLookup_eq_fast]; kernel_rfl
theorem int_noBytes : typeLookup (.type "int") "__bytes__" = pure none := by rw [typeLookup_type, builtinLookup_eq_fast]; kernel_rfl
theorem int_index : typeLookup (.type "int") "__index__" = pure (some (.builtin "int.__index__")) := by rw [typeLookup_type, builtinLookup_eq_fast]; kernel_rfl
theorem ba_noBytes : typeLookup (.type "bytearray") "__bytes__" = pure none := by rw [typeLookup_type, builtinLookup_eq_fast]; kernel_rfl
theorem ba_noIndex : typeLookup (.type "bytearray") "__index__" = pure none := by rw [typeLookup_type, builtinLookup_eq_fast]; kernel_rfl
theorem ba_buf : typeLookup (.type "bytearray") "__buffer__" = pure (some (.builtin "bytearray.__buffer__")) := by rw [typeLookup_type, builtinLookup_eq_fast]; kernel_rfl
theorem ends_babuf : (!("bytearray.__buffer__".endsWith ("." ++ "__buffer__"))) = false := by decide +kernel
theorem drop_babuf : "bytearray.__buffer__".dropRight ("__buffer__".length + 1) = "bytearray" := by decide +kernel
theorem code_bytes_bytes {b : Array UInt8} {t : Tok} {Q : Value → Shared → Prop} (h : Q (.bytes b t) s) :
    codeAny (model prog w) A (.call (.builtin "bytes.__new__") ⟨[.type "bytes", .bytes b t], []⟩) (wants Q E) s := by
  refine codeAny_of_tree ?_
  show wpAny _ A.in1 (do checkBuiltinCall "bytes.__new__" ⟨[.type "bytes", .bytes b t], []⟩; again (.builtin "bytes.__new__" ⟨[.type "bytes", .bytes b t], []⟩)) _ _ s
  refine wpAny_bind (wpAny_of_eq (F.bm_newCall _) (wpAny_pure ⟨plainId_quiet F.bm_plain _, codeAny_builtin F.bm_entry ?_⟩))
  rw [Around.under_plainId F.bm_plain _]
  refine wpAny_bind (wpAny_of_eq (a := true) rfl ?_)
  refine bm_if_false rfl ?_
  refine wpAny_bind (wpAny_of_eq F.bm_sub ?_)
  refine bm_if_false rfl ?_
  refine wpAny_bind (wpAny_of_eq (F.bm_bind _) ?_)
  refine wpAny_bind (wpAny_of_eq (a := ()) rfl ?_)
  refine wpAny_bind (wpAny_of_eq (a := ()) rfl ?_)
  refine bm_if_false rfl ?_
  refine wpAny_bind (wpAny_specialOf (typeIs_bytes s b t) bytesDunder ?_)
  refine wpAny_bind (wpAny_rule ?_)
  refine wpAny_bind (wpAny_typeOf (typeIs_bytes s b t) ?_)
  refine bm_if_true (by decide) ?_
  first
    | exact wpAny_pure h
    | exact wpAny_bind (wpAny_pure (wpAny_pure h))
theorem code_bytes_int {n : Int} {t : Tok} {Q : Value → Shared → Prop} (h0 : 0 ≤ n) (h1 : n ≤ 1000) (h : ∀ tk, Q (.bytes (Array.replicate n.toNat 0) tk) { s with toks := s.toks + 1 }) :
    codeAny (model prog w) A (.call (.builtin "bytes.__new__") ⟨[.type "bytes", .int n t], []⟩) (wants Q E) s := by
  refine codeAny_of_tree ?_
  show wpAny _ A.in1 (do checkBuiltinCall "bytes.__new__" ⟨[.type "bytes", .int n t], []⟩; again (.builtin "bytes.__new__" ⟨[.type "bytes", .int n t], []⟩)) _ _ s
  refine wpAny_bind (wpAny_of_eq (F.bm_newCall _) (wpAny_pure ⟨plainId_quiet F.bm_plain _, codeAny_builtin F.bm_entry ?_⟩))
  rw [Around.under_plainId F.bm_plain _]
  refine wpAny_bind (wpAny_of_eq (a := true) rfl ?_)
  refine bm_if_false rfl ?_
  refine wpAny_bind (wpAny_of_eq F.bm_sub ?_)
  refine bm_if_false rfl ?_
  refine wpAny_bind (wpAny_of_eq (F.bm_bind _) ?_)
  refine wpAny_bind (wpAny_of_eq (a := ()) rfl ?_)
  refine wpAny_bind (wpAny_of_eq (a := ()) rfl ?_)
  refine bm_if_false rfl ?_
  refine wpAny_bind (wpAny_specialOf (T := "int") rfl int_noBytes ?_)
  refine wpAny_bind (wpAny_of_eq (a := false) rfl ?_)
  refine bm_if_false rfl ?_
  refine wpAny_bind (wpAny_specialOf (T := "int") rfl int_index ?_)
  refine bm_if_false rfl ?_
  refine wpAny_bind (wpAny_attempt (wpAny_of_eq (rfl : asIndex (.int n t) = pure n) ?_))
  have e1 : (!Builtin.Bytes.fitsIndex n) = false := by
    simp only [Builtin.Bytes.fitsIndex, Bool.not_eq_false', Bool.and_eq_true, decide_eq_true_eq]; lia
  refine bm_if_false e1 ?_
  rw [if_neg (by lia), if_neg (by lia)]
  have e2 : Builtin.Bytes.tooLong n.toNat = false := by
    unfold Builtin.Bytes.tooLong
    simp only [decide_eq_false_iff_not, sizeLine_eq]; lia
  refine bm_if_false e2 ?_
  refine wpAny_bind (wpAny_rule ?_)
  refine wpAny_bind (wpAny_mkBytes ?_ (by rw [sizeLine_eq]; simp; lia))
  show wpAny _ _ (if (Value.type "bytes" == Value.type "bytes") = true then _ else _) _ _ _
  refine bm_if_true (by decide) ?_
  first
    | exact wpAny_pure (h _)
    | exact wpAny_bind (wpAny_pure (wpAny_pure (h _)))
theorem code_bytes_ba {a : Addr} {b : Array UInt8} {Q : Value → Shared → Prop} (hg : s.heap.get? a = some (barOf b)) (hz : b.size ≤ 1000000) (h : ∀ tk, Q (.bytes b tk) { s with toks := s.toks + 1 }) :
    codeAny (model prog w) A (.call (.builtin "bytes.__new__") ⟨[.type "bytes", .ref a], []⟩) (wants Q E) s := by
  refine codeAny_of_tree ?_
  show wpAny _ A.in1 (do checkBuiltinCall "bytes.__new__" ⟨[.type "bytes", .ref a], []⟩; again (.builtin "bytes.__new__" ⟨[.type "bytes", .ref a], []⟩)) _ _ s
  refine wpAny_bind (wpAny_of_eq (F.bm_newCall _) (wpAny_pure ⟨plainId_quiet F.bm_plain _, codeAny_builtin F.bm_entry ?_⟩))
  rw [Around.under_plainId F.bm_plain _]
  have hT : s.TypeIs (.ref a) "bytearray" := ⟨_, hg, rfl⟩
  refine wpAny_bind (wpAny_of_eq (a := true) rfl ?_)
  refine bm_if_false rfl ?_
  refine wpAny_bind (wpAny_of_eq F.bm_sub ?_)
  refine bm_if_false rfl ?_
  refine wpAny_bind (wpAny_of_eq (F.bm_bind _) ?_)
  refine wpAny_bind (wpAny_of_eq (a := ()) rfl ?_)
  refine wpAny_bind (wpAny_of_eq (a := ()) rfl ?_)
  refine bm_if_false rfl ?_
  refine wpAny_bind (wpAny_specialOf hT ba_noBytes ?_)
  refine wpAny_bind (wpAny_bind ?_)
  show wpAny _ _ (load a >>= _) _ _ _
  refine wpAny_bind (wpAny_load hg ?_)
  refine wpAny_pure (wpAny_pure ?_)
  refine bm_if_false rfl ?_
  refine wpAny_bind (wpAny_specialOf hT ba_noIndex ?_)
  refine bm_if_true rfl ?_
  first
    | show wpAny _ _ (Builtin.Bytes.buffer? "bytes.__new__" (.ref a) true >>= _) _ _ _
    | (refine wpAny_bind ?_; show wpAny _ _ (Builtin.Bytes.buffer? "bytes.__new__" (.ref a) true >>= _) _ _ _)
  refine wpAny_bind ?_
  refine wpAny_bind (wpAny_specialOf hT ba_buf ?_)
  dsimp only
  refine wpAny_bind ?_
  refine wpAny_bind (wpAny_specialOf hT ba_buf ?_)
  dsimp only
  rw [ends_babuf, if_neg Bool.false_ne_true, drop_babuf]
  refine wpAny_bind (wpAny_typeOf hT (wpAny_of_eq sub_ba ?_))
  refine wpAny_bind (wpAny_specialOf hT ba_buf ?_)
  refine wpAny_bind (m := Builtin.Bytes.ownRelease (.ref a)) ?_
  refine wpAny_bind (wpAny_bind (wpAny_specialOf hT ba_release ?_))
  dsimp only
  rw [ends_release, if_neg Bool.false_ne_true, drop_release]
  refine wpAny_bind (wpAny_typeOf hT (wpAny_of_eq sub_ba (wpAny_pure ?_)))
  refine bm_if_false rfl ?_
  refine wpAny_bind (m := Builtin.Bytes.payload (.ref a)) (wpAny_bind (m := Builtin.Bytes.payload? (.ref a)) (wpAny_bind (wpAny_load hg (wpAny_pure (wpAny_pure (wpAny_pure ?_))))))
  refine wpAny_bind (wpAny_rule ?_)
  refine wpAny_bind (wpAny_mkBytes ?_ (by rw [sizeLine_eq]; lia))
  show wpAny _ _ (if (Value.type "bytes" == Value.type "bytes") = true then _ else _) _ _ _
  refine bm_if_true (by decide) ?_
  first
    | exact wpAny_pure (h _)
    | exact wpAny_bind (wpAny_pure (wpAny_pure (h _)))
end
end Mine
end
section
set_option tactic.hygienic false
set_option backward.match.sparseCases false
open PySem PySem.W PyProof.Rows PySem.Calls
open PySem.Sem (wp)
set_option maxRecDepth 100000
namespace Mine
section
variable {prog : Program} {w : World} {A : Around} {hb : Heap} {σ : Hp} {s : Shared} {E : Value → Shared → Prop}
noncomputable abbrev ByteAt (b : Array UInt8) : Nat → Value → Prop := fun i v => ∃ c u, b[i]? = some c ∧ v = .int (c.toNat : Int) u
theorem bytes_len_bytes : typeLookup (.type "bytes") "__len__" = pure (some (.builtin "bytes.__len__")) := by rw [typeLookup_type, builtinLookup_eq_fast]; kernel_rfl
theorem split_bytes_len : splitId "bytes.__len__" = some ("bytes", "__len__") := by decide +kernel
theorem extend_bytes {R : Result → Shared → Prop} (hh : A.handled = none) (x : Array UInt8) (t : Tok) (S : Addr) (res : Value) (c₀ : Nat) (hS : s.heap.get? S = some { cls := .type "list", data := .seq #[] c₀ })
    (hR : ∀ h' tk acc' c', (∀ b o, b ≠ S → s.heap.get? b = some o → h'.get? b = some o) → h'.get? S = some { cls := .type "list", dict := none, data := .seq acc' c', slots := #[] } →
      ItemsOf (ByteAt x) acc' x.size → R (.ok (.ret res)) { s with heap := h', toks := tk }) (hn : x.size ≤ sizeLine) :
    wpAny (model prog w) A.in1 (Builtin.List.listExtendWith (.ref S) (.bytes x t) res)
      (fun fin s' => match fin with | .done f => R (.ok f) s' | .again c' => c'.quiet = true ∧ codeAny (model prog w) A c' R s') (fun e s' => R (.error e) s') s := by
  have hSI : S ≠ s.heap.objs.size := Nat.ne_of_lt (Heap.lt_size hS)
  have hSf : S ∉ [s.heap.objs.size] := fun hm => hSI (List.mem_singleton.mp hm)
  have hT : ∀ s : Shared, s.TypeIs (.bytes x t) "bytes" := fun s => typeIs_bytes s x t
  refine wpAny_bind (wpAny_typeOf (hT _) ?_)
  have h1 : Builtin.List.listSameRef (.ref S) (.bytes x t) = false := rfl
  have h2 : (Value.type "bytes" == Value.type "list") = false := by decide
  have h3 : (Value.type "bytes" == Value.type "tuple") = false := by decide
  simp only [h1, h2, h3, Bool.or_false, Bool.false_eq_true, if_false]
  refine wpAny_bind (KBw.pyIter_bytes ?_)
  refine wpAny_bind (wpAny_holding ?_)
  refine wpAny_bind (wpAny_specialOf (hT _) bytes_len_bytes ?_)
  dsimp only
  rw [split_bytes_len]
  dsimp only
  refine wpAny_bind (wpAny_isInstance (b := true) (hT _) sub_bytes ?_)
  refine bm_if_false rfl ?_
  refine bm_if_true (by decide +kernel) ?_
  refine wpAny_bind (wpAny_typeOf (hT _) ?_)
  refine wpAny_pure ?_
  rw [if_neg (by decide)]
  have W := KBw.walks (prog := prog) (w := w) (A := A.in1) hh s.heap.objs.size x t
  refine wpAny_pure ⟨plainId_quiet F.plain_extend_loop _, codeAny_extend_loopS W.toS hn _ hSf _ x.size 0 _ _ _ rfl (Nat.zero_le _) ⟨_, Heap.get?_push_size _ rfl, rfl, rfl⟩ (Heap.get?_push_of_some _ hS) (ItemsOf.nil _) fun s' acc' c' hm hS' hacc => ?_⟩
  rw [Moved.eq_with hm]
  refine hR s'.heap s'.toks acc' c' (fun b ob hb e => hm.heap b ob (fun hmem => ?_) (Heap.get?_push_of_some _ e)) hS' hacc
  rcases List.mem_cons.mp hmem with e' | hmem
  · exact hb e'
  · exact absurd (Heap.lt_size e) (by rw [List.mem_singleton.mp hmem]; exact Nat.lt_irrefl _)
theorem list_init_bytes {R : Result → Shared → Prop} (hh : A.handled = none) (x : Array UInt8) (t : Tok) (S : Addr) (hS : s.heap.get? S = some { cls := .type "list", data := .seq #[] })
    (hR : ∀ h' tk acc' c', (∀ b o, b ≠ S → s.heap.get? b = some o → h'.get? b = some o) → h'.get? S = some { cls := .type "list", dict := none, data := .seq acc' c', slots := #[] } →
      ItemsOf (ByteAt x) acc' x.size → R (.ok (.ret .none)) { s with heap := h', toks := tk }) (hn : x.size ≤ sizeLine) :
    wpAny (model prog w) A.in1 (Builtin.«list.__init__» ⟨[.ref S, .bytes x t], []⟩)
      (fun fin s' => match fin with | .done f => R (.ok f) s' | .again c' => c'.quiet = true ∧ codeAny (model prog w) A c' R s') (fun e s' => R (.error e) s') s := by
  show wpAny _ _ (do let old ← Builtin.List.listItems (.ref S); Builtin.List.listUpdate (.ref S) (fun _ => #[]); letGo old.toList.reverse; Builtin.List.listExtendWith (.ref S) (.bytes x t) .none) _ _ s
  refine wpAny_bind ?_
  refine wpAny_bind (wpAny_seqItems hS rfl (wpAny_pure ?_))
  show wpAny _ _ (updateSeq S (fun _ => #[]) >>= fun _ => letGo (#[] : Array Value).toList.reverse >>= fun _ => Builtin.List.listExtendWith (.ref S) (.bytes x t) .none) _ _ s
  refine wpAny_bind (wpAny_updateSeq hS rfl ?_)
  have hS₂ := Heap.get?_update_self (Obj.mapSeq (fun _ => (#[] : Array Value))) hS rfl
  have oth : ∀ b o, b ≠ S → s.heap.get? b = some o → (s.heap.update S (Obj.mapSeq (fun _ => (#[] : Array Value)))).get? b = some o :=
    fun b o hb e => (Heap.get?_update_other _ _ (Ne.symm hb)).trans e
  refine wpAny_bind (wpAny_letGo ?_)
  refine extend_bytes (hn := hn) hh x t S .none _ hS₂ fun h' tk acc' c' hk hS' hacc => ?_
  exact hR h' tk acc' c' (fun b o hb e => hk b o hb (oth b o hb e)) hS' hacc
theorem list_of_bytes {Q : Value → Shared → Prop} (hh : A.handled = none) (x : Array UInt8) (t : Tok)
    (hQ : ∀ h' tk acc' c', (∀ b o, s.heap.get? b = some o → h'.get? b = some o) →
      h'.get? s.heap.objs.size = some { cls := .type "list", dict := none, data := .seq acc' c', slots := #[] } → ItemsOf (ByteAt x) acc' x.size → Q (.ref s.heap.objs.size) { s with heap := h', toks := tk }) (hn : x.size ≤ sizeLine) :
    wpAny (model prog w) A (call (.type "list") [.bytes x t]) Q E s := by
  refine callType_codes (Q₁ := fun obj s₁ => obj = .ref s.heap.objs.size ∧ s₁ = { s with heap := s.heap.push { cls := .type "list", data := .seq #[] } }) F.called_list (F.typeCall_list_1 _) F.entry_list_init
    (code_list_new _ ⟨rfl, rfl⟩) fun obj s₁ h₁ => ?_
  obtain ⟨rfl, rfl⟩ := h₁
  have hS : (s.heap.push { cls := .type "list", data := .seq #[] }).get? s.heap.objs.size = some { cls := .type "list", data := .seq #[] } := Heap.get?_push_size _ rfl
  refine ⟨⟨_, hS, rfl⟩, F.args_list_init_2 _ _, list_init_bytes (A := A.in1) (hn := hn) hh x t _ hS fun h' tk acc' c' hk hS' hacc => ?_⟩
  exact ⟨rfl, hQ h' tk acc' c' (fun b o e => hk b o (Nat.ne_of_lt (Heap.lt_size e)) (Heap.get?_push_of_some _ e)) hS' hacc⟩
end
end Mine
end
section
set_option tactic.hygienic false
set_option backward.match.sparseCases false
open PySem PySem.W PyProof.Rows PySem.Calls
open PySem.Sem (wp)
set_option maxRecDepth 100000
namespace Mine
section
variable {prog : Program} {w : World} {A : Around} {hb : Heap} {σ : Hp} {s : Shared}
theorem Post.grown {h' : Heap} {tk : Nat} {Q : K1} {W : V} {v : Value} (I : Inv hb σ s) (k : ∀ b o, s.heap.get? b = some o → h'.get? b = some o) (q : Q W σ) (r : Rep h' W v) : Post hb σ s Q v { s with heap := h', toks := tk } :=
  ⟨W, σ, q, r, I.grow (s' := { s with heap := h', toks := tk }) k, .grow k rfl rfl⟩
/-- the heap has grown; one of the new things is taken into σ -/
theorem Inv.adopt (I : Inv hb σ s) {s' : Shared} (k : ∀ b o, s.heap.get? b = some o → s'.heap.get? b = some o) {a : Nat} {ao : AObj} (hr : RepO s'.heap a ao)
    (hf : ∀ b, (b = a ∨ ∃ C fs, ao = .inst C fs ∧ a = b + 1) → s.heap.get? b = none) (hg : s'.gens = s.gens) (ho : s'.os = s.os) :
    Inv hb (upd σ a ao) s' ∧ Ext σ s (upd σ a ao) s' := by
  refine ⟨⟨fun b o' e => k _ _ (I.base b o' e), fun c o' e => ?_, fun b f => ?_⟩, ⟨fun b f => ?_, fun b o' e _ => k _ _ e, hg, ho, fun b o e => ⟨o, k _ _ e⟩⟩⟩
  · by_cases h : c = a
    · subst h
      rw [upd_self] at e; cases e
      exact hr
    · rw [upd_other _ _ h] at e
      exact (I.rep c o' e).keep (fun b o e _ => k b o e) (fun b o _ e => k b o e)
  · rcases foot_upd f with f | f
    · exact I.new b f
    · have hn := hf b f
      induction e : hb.get? b using Option.casesOn with
      | none => rfl
      | some o' => have := I.base _ _ e; rw [hn] at this; cases this
  · rcases foot_upd f with f | f
    · exact .inl f
    · exact .inr (hf b f)
theorem Post.newlist {h' : Heap} {tk : Nat} {Q : K1} {a : Addr} {vs : List Value} {n : Nat} {Ws : List V} (I : Inv hb σ s) (k : ∀ b o, s.heap.get? b = some o → h'.get? b = some o) (hg : h'.get? a = some (lstOf vs n)) (ha : s.heap.get? a = none)
    (r : RepL h' Ws vs) (q : ∀ a, σ a = none → Q (.ref a) (upd σ a (.lst Ws))) : Post hb σ s Q (.ref a) { s with heap := h', toks := tk } := by
  obtain ⟨I', X⟩ := I.adopt (s' := { s with heap := h', toks := tk }) (ao := .lst Ws) k ⟨vs, n, hg, r⟩ (fun b x => by
    rcases x with rfl | ⟨C, fs, e, _⟩
    · exact ha
    · cases e) rfl rfl
  exact ⟨_, _, q _ (I.fresh ha), by rfl, I', X⟩

theorem repL_ints {h : Heap} : ∀ {vs : List Value} {l : List Int}, IntsAre vs l → RepL h (l.map .int) vs
  | _, _, .nil => by simp [RepL]
  | _, _, .cons n t r => by
    simp only [List.map_cons]; skip
    exact ⟨_, _, rfl, by exact ⟨_, rfl⟩, repL_ints r⟩
theorem sorted_unique {l l' : List Int} (p : l'.Perm l) (o : l'.Pairwise (· ≤ ·)) : l' = sortI l := by
  refine List.Perm.eq_of_pairwise (le := fun a b : Int => a ≤ b) (fun a b _ _ h1 h2 => Int.le_antisymm h1 h2) o ?_ (p.trans (List.mergeSort_perm l _).symm)
  have := List.pairwise_mergeSort (le := fun a b : Int => decide (a ≤ b)) (fun a b c h1 h2 => by simp at *; lia) (fun a b => by simp; lia) l
  exact this.imp (fun h => by simpa using h)
theorem nums_byteArr {l : List Int} {b : List Nat} (h : bytesOfInts l = some b) : (∀ n ∈ l, 0 ≤ n ∧ n < 256) ∧ nums (byteArr l) = b := by
  unfold bytesOfInts at h
  split at h
  · rename_i e
    cases h
    have e' : ∀ n ∈ l, 0 ≤ n ∧ n < 256 := fun n hn => by
      have := List.all_eq_true.mp e n hn
      simpa using this
    refine ⟨e', ?_⟩
    unfold nums byteArr
    simp only [List.map_map]
    refine List.map_congr_left fun n hn => ?_
    have := e' n hn
    simp only [Function.comp, UInt8.toNat_ofNat', Nat.toUInt8]
    lia
  · cases h
theorem nums_length (b : Array UInt8) : (nums b).length = b.size := by simp [nums]

noncomputable def biV : Bi → Value
  | .len => .builtin "len" | .bytes => .type "bytes" | .barr => .type "bytearray" | .range => .type "range" | .list => .type "list" | .tuple => .type "tuple"
  | .sorted => .builtin "sorted" | .min => .builtin "min"

theorem RepL.one {h : Heap} {W : V} {vs : List Value} (r : RepL h [W] vs) : ∃ v, vs = [v] ∧ Rep h W v := by
  obtain ⟨v, l, rfl, a, b⟩ := r; subst b; exact ⟨v, rfl, a⟩
theorem RepL.two {h : Heap} {W X : V} {vs : List Value} (r : RepL h [W, X] vs) : ∃ v u, vs = [v, u] ∧ Rep h W v ∧ Rep h X u := by
  obtain ⟨v, l, rfl, a, b⟩ := r
  obtain ⟨u, rfl, c⟩ := b.one
  exact ⟨v, u, rfl, a, c⟩

theorem RepL.oneB {h : Heap} {l : List Nat} {vs : List Value} (r : RepL h [.bytes l] vs) : ∃ c t, vs = [.bytes c t] ∧ l = nums c := by
  obtain ⟨v, rfl, c, t, rfl, rfl⟩ := r.one; exact ⟨c, t, rfl, rfl⟩
theorem RepL.oneI {h : Heap} {i : Int} {vs : List Value} (r : RepL h [.int i] vs) : ∃ t, vs = [.int i t] := by
  obtain ⟨v, rfl, t, rfl⟩ := r.one; exact ⟨t, rfl⟩
theorem RepL.oneR {h : Heap} {a : Nat} {vs : List Value} (r : RepL h [.ref a] vs) : vs = [.ref a] := by
  obtain ⟨v, rfl, k⟩ := r.one; obtain rfl : v = .ref a := k; rfl
theorem RepL.twoI {h : Heap} {i j : Int} {vs : List Value} (r : RepL h [.int i, .int j] vs) : ∃ t t', vs = [.int i t, .int j t'] := by
  obtain ⟨v, u, rfl, ⟨t, rfl⟩, ⟨t', rfl⟩⟩ := r.two; exact ⟨t, t', rfl⟩
theorem two_len {v u : V} {Ws : List V} {Q : K1} (q : biP .len (v :: u :: Ws) σ Q) : False := by induction v using V.casesOn <;> exact q
theorem two_bytes {v u : V} {Ws : List V} {Q : K1} (q : biP .bytes (v :: u :: Ws) σ Q) : False := by induction v using V.casesOn <;> exact q
theorem two_list {v u : V} {Ws : List V} {Q : K1} (q : biP .list (v :: u :: Ws) σ Q) : False := by induction v using V.casesOn <;> exact q
theorem two_tuple {v u : V} {Ws : List V} {Q : K1} (q : biP .tuple (v :: u :: Ws) σ Q) : False := by induction v using V.casesOn <;> exact q
theorem two_sorted {v u : V} {Ws : List V} {Q : K1} (q : biP .sorted (v :: u :: Ws) σ Q) : False := by induction v using V.casesOn <;> exact q
theorem two_range {v u : V} {Ws : List V} {Q : K1} (q : biP .range (v :: u :: Ws) σ Q) : ∃ i j, v = .int i ∧ u = .int j ∧ Ws = [] := by
  refine Classical.byContradiction fun hn => ?_
  induction v using V.casesOn with
  | int i =>
    induction u using V.casesOn with
    | int j => rcases Ws with _ | _; exact hn ⟨i, j, rfl, rfl, rfl⟩; exact q
    | _ => exact q
  | _ => exact q
theorem two_min {v u : V} {Ws : List V} {Q : K1} (q : biP .min (v :: u :: Ws) σ Q) : ∃ i j, v = .int i ∧ u = .int j ∧ Ws = [] := by
  refine Classical.byContradiction fun hn => ?_
  induction v using V.casesOn with
  | int i =>
    induction u using V.casesOn with
    | int j => rcases Ws with _ | _; exact hn ⟨i, j, rfl, rfl, rfl⟩; exact q
    | _ => exact q
  | _ => exact q
theorem bi_sound {b : Bi} {Ws : List V} {vs : List Value} {Q : K1} (hh : A.handled = none) (I : Inv hb σ s) (r : RepL s.heap Ws vs) (q : biP b Ws σ Q) :
    wpG (model prog w) A (call (biV b) vs) (Post hb σ s Q) s := by
  rcases Ws with _ | ⟨W, _ | ⟨W2, Ws⟩⟩
  · induction b using Mine.Bi.casesOn with
    | barr =>
      obtain rfl : vs = [] := r
      refine new_ba ?_
      have hg : (s.heap.push (barOf #[])).get? s.heap.objs.size = some (barOf #[]) := Heap.get?_push_size _ rfl
      have hg2 := Heap.get?_update_self (Obj.mapBytearray fun _ => #[]) hg rfl
      obtain ⟨I', X⟩ := I.adopt (s' := { s with heap := (s.heap.push (barOf #[])).update s.heap.objs.size (Obj.mapBytearray fun _ => #[]) }) (a := s.heap.objs.size) (ao := .barr []) (fun b o e => by
        rw [Heap.get?_update_other _ _ (Ne.symm (Nat.ne_of_lt (Heap.lt_size e)))]; exact push_keep _ _ _ _ e) ⟨#[], hg2, rfl⟩ (fun b x => by
          rcases x with rfl | ⟨C, fs, e, _⟩
          · exact size_free _
          · cases e) rfl rfl
      exact ⟨_, _, q _ (I.fresh (size_free _)), rfl, I', X⟩
    | _ => exact q.elim
  · induction W using Mine.V.casesOn with
    | bytes l =>
      obtain ⟨c, t, rfl, rfl⟩ := r.oneB
      induction b using Mine.Bi.casesOn with
      | len =>
        obtain ⟨hz, q⟩ := q
        rw [nums_length] at hz q
        exact wpG_of_any (len_bytes (lim40 hz) (.toks I q ⟨_, rfl⟩))
      | bytes => exact wpG_of_any (bytesOf (code_bytes_bytes ⟨typeIs_bytes _ _ _, .same I q.2 ⟨_, _, rfl, rfl⟩⟩))
      | list =>
        obtain ⟨hz, q⟩ := q
        rw [nums_length] at hz
        refine wpG_of_any (list_of_bytes hh c t (fun h' tk acc' c' hk hS hi => ?_) (limLine hz))
        refine .newlist I hk (vs := acc'.toList) (n := c') hS (size_free _) ?_ q
        refine repL_of_map _ _ (fun i n e => ?_) (by simp [hi.1, nums])
        simp only [nums, List.getElem?_map, Option.map_eq_some_iff] at e
        obtain ⟨x, e, rfl⟩ := e
        have hlt : i < acc'.size := by rw [hi.1]; exact (List.getElem?_eq_some_iff.mp e).1
        obtain ⟨c0, u, a1, a2⟩ := hi.2 i acc'[i] (Array.getElem?_eq_getElem hlt)
        have e' : c[i]? = some x := by simpa using e
        rw [a1] at e'; cases e'
        exact ⟨u, by rw [Array.getElem?_toList, Array.getElem?_eq_getElem hlt, a2]⟩
      | _ => exact q.elim
    | tup Ws =>
      induction b using Mine.Bi.casesOn with
      | len =>
        obtain ⟨v, rfl, a, us, n, rfl, g, x⟩ := r.one
        obtain ⟨hz, q⟩ := q
        rw [← x.length] at hz q
        exact wpG_of_any (PyProof.Rows.len_tuple (isTup_of g) (lim63 hz) (.toks I q ⟨_, rfl⟩))
      | _ => exact q.elim
    | int i =>
      obtain ⟨t, rfl⟩ := r.oneI
      induction b using Mine.Bi.casesOn with
      | bytes => exact wpG_of_any (bytesOf (code_bytes_int q.1 q.2.1 fun tk => ⟨typeIs_bytes _ _ _, .toks I q.2.2 ⟨_, _, rfl, by simp [nums]⟩⟩))
      | range => exact wpG_of_any (call_range_1 (.grown I (push_keep s.heap (rngOf 0 i s.toks t (s.toks + 1))) q.2 ⟨_, _, _, _, rfl, Heap.get?_push_size _ rfl, by decide, q.1⟩))
      | _ => exact q.elim
    | ref y =>
      obtain rfl := r.oneR
      clear r
      induction b using Mine.Bi.casesOn with
      | len =>
        obtain ⟨xs, us, n, g, x, hl, hz, q⟩ := I.atL q
        rw [← hl] at hz q
        exact wpG_of_any (PyProof.Rows.len_list (isList_of g) (lim63 hz) (.toks I q ⟨_, rfl⟩))
      | bytes =>
        replace q : match σ y with
          | some (.lst xs) => xs.length ≤ lim ∧ ∃ l b, allInts xs = some l ∧ bytesOfInts l = some b ∧ Q (.bytes b) σ
          | some (.barr b) => b.length ≤ lim ∧ Q (.bytes b) σ
          | _ => False := q
        induction e : σ y using Option.casesOn with
        | none => rw [e] at q; exact q.elim
        | some o =>
          rw [e] at q
          induction o using Mine.AObj.casesOn with
          | lst xs =>
            obtain ⟨us, n, g, x⟩ := I.rep _ _ e
            obtain ⟨hz, l, bb, e1, e2, q⟩ := q
            obtain ⟨k1, k2⟩ := nums_byteArr e2
            exact wpG_of_any (call_bytes_ints (isList_of g) (x.ints e1) k1 (limLine (x.length ▸ hz)) hh fun h' t k hk => .grown I hk q ⟨_, _, rfl, k2⟩)
          | barr bb =>
            obtain ⟨c, g, rfl⟩ := I.rep _ _ e
            replace q : (nums c).length ≤ lim ∧ Q (.bytes (nums c)) σ := q
            rw [nums_length] at q
            exact wpG_of_any (bytesOf (code_bytes_ba g q.1 fun tk => ⟨typeIs_bytes _ _ _, .toks I q.2 ⟨_, _, rfl, rfl⟩⟩))
          | inst _ _ => exact q.elim
      | list =>
        obtain ⟨xs, us, n, g, x, hl, hz, q⟩ := I.atL q
        exact wpG_of_any (call_list_seq (items := us.toArray) _ (.inl rfl) g rfl rfl (fun h' c' hk hS => .newlist (tk := s.toks) I hk (vs := us) (n := c') hS (size_free _) (x.keep fun b o e _ => hk b o e) q) (limLine (Nat.le_trans (Nat.le_of_eq hl) hz)))
      | tuple =>
        obtain ⟨xs, us, n, g, x, hl, hz, q⟩ := I.atL q
        refine wpG_of_any (call_tuple_list (isList_of g) (fun h' hk => ?_) (limLine (Nat.le_trans (Nat.le_of_eq hl) hz)))
        have k2 : ∀ b o, s.heap.get? b = some o → (h'.push (tupOf us 0)).get? b = some o := fun b o e => push_keep _ _ _ _ (hk b o e)
        exact .grown (tk := s.toks) I k2 q ⟨_, us, 0, rfl, Heap.get?_push_size _ rfl, x.keep fun b o e _ => k2 b o e⟩
      | sorted =>
        obtain ⟨xs, us, n, g, x, hl, hz, l, e1, q⟩ := I.atL q
        refine wpG_of_any (sorted_ints (isList_of g) (x.ints e1) (hl ▸ hz) fun out ns' a1 a2 a3 => ?_)
        obtain ⟨m, hm⟩ := sortedAll_at s.heap us out
        have eu := sorted_unique a2 a3
        refine .newlist (tk := s.toks) (Ws := (sortI l).map .int) I (fun b o => sortedAll_old) (vs := out.toList) (n := m) hm ?_ (by rw [← eu]; exact repL_ints a1) q
        induction e9 : s.heap.get? (s.heap.objs.size + 1) using Option.casesOn with
        | none => rfl
        | some o => exact absurd (Heap.lt_size e9) (Nat.not_lt.mpr (Nat.le_succ _))
      | _ => exact q.elim
    | _ => induction b using Mine.Bi.casesOn <;> exact q.elim
  · induction b using Bi.casesOn with
    | barr => exact False.elim q
    | len => exact (two_len q).elim
    | bytes => exact (two_bytes q).elim
    | list => exact (two_list q).elim
    | tuple => exact (two_tuple q).elim
    | sorted => exact (two_sorted q).elim
    | range =>
      obtain ⟨i, j, rfl, rfl, rfl⟩ := two_range q
      obtain ⟨t, t', rfl⟩ := r.twoI
      exact wpG_of_any (call_range_2 (.grown I (push_keep s.heap _) q.2.2 ⟨_, _, _, _, rfl, Heap.get?_push_size _ rfl, q.1, q.2.1⟩))
    | min =>
      obtain ⟨i, j, rfl, rfl, rfl⟩ := two_min q
      obtain ⟨t, t', rfl⟩ := r.twoI
      refine wpG_of_any (min_two_ints hh fun h' tk hk => .grown I hk q ?_)
      by_cases c : j < i
      · rw [if_pos c]; exact ⟨_, by rw [Int.min_eq_right (Int.le_of_lt c)]⟩
      · rw [if_neg c]; exact ⟨_, by rw [Int.min_eq_left (Int.not_lt.mp c)]⟩
end
end Mine
end
section
set_option tactic.hygienic false
set_option backward.match.sparseCases false
open PySem PySem.W PyProof.Rows PySem.Calls
open PySem.Sem (wp)
set_option maxRecDepth 100000
namespace Mine

/-- the heap that the whole proof stands on -/
structure Fix (K : Frag) (hb : Heap) : Prop where
  x : K.In hb
  nolimit : hb.NoLimit
  bi : ∃ mb, hb.Ns builtinsNs mb ∧ ∀ x : Str, x ≠ "__name__" → mb x = bootBuiltins x

theorem Fix.into {K hb σ s} (F : Fix K hb) (I : Inv hb σ s) : K.In s.heap := F.x.keeps I.base

/-- the names of a def, of a comprehension -/
structure EnvOk (hb : Heap) (c : Cx) (env : Env) (σ : Hp) (ρ : Rho) (s : Shared) : Prop where
  fn : env.scope.kind = .function
  gl : env.globals = mainGlobals
  bl : env.builtins = builtinsNs
  glob : ∀ n, c.sc.names.lookup n = some .globalImplicit → env.kindOf n = some .globalImplicit
  inj : ∀ n n' x, c.slot n = some x → c.slot n' = some x → n = n'
  lt : ∀ n x, c.nm.lookup n = some x → x < c.top
  loc : ∃ m, s.heap.Ns env.locals m ∧ ∀ n x, c.slot n = some x → env.kindOf n = some .local → ∀ V, ρ.get x = some V → ∃ v, m n = some v ∧ Rep s.heap V v
  cel : ∀ n x, c.slot n = some x → env.kindOf n ≠ some .local → (env.kindOf n = some .cell ∨ (env.kindOf n = some .free ∧ n ≠ ("__classdict__" : Str))) ∧
    ∃ a ov, env.cells.lookup n = some a ∧ s.heap.IsCell a ov ∧ ∀ V, ρ.get x = some V → ∃ v, ov = some v ∧ Rep s.heap V v
  celn : ∀ n, c.sc.names.lookup n = some .cell ∨ c.sc.names.lookup n = some .free → (∃ x, c.nm.lookup n = some x) ∧ (∃ a, env.cells.lookup n = some a) ∧ env.kindOf n ≠ some .local
  apart : ∀ n n' a, env.cells.lookup n = some a → env.cells.lookup n' = some a → n = n'
  off : ∀ n a, env.cells.lookup n = some a → a ≠ env.locals
  own : ∀ b, (b = env.locals ∨ ∃ n, env.cells.lookup n = some b) → hb.get? b = none ∧ ¬ Foot σ b ∧ ∃ o, s.heap.get? b = some o
  nfx : ∀ b, (b = env.locals ∨ ∃ n, env.cells.lookup n = some b) → ∀ o, s.heap.get? b = some o → ¬ fixedO o

theorem IsCell_keep {h h' : Heap} {a : Addr} {ov : Option Value} (x : h.IsCell a ov) (k : ∀ o, h.get? a = some o → h'.get? a = some o) : h'.IsCell a ov := by
  obtain ⟨o, e, d⟩ := x; exact ⟨o, k o e, d⟩
theorem EnvOk.keep {hb c env σ ρ s σ' s'} (E : EnvOk hb c env σ ρ s) (I : Inv hb σ s) (X : Ext σ s σ' s') : EnvOk hb c env σ' ρ s' := by
  have kf := X.fixed I
  have ko : ∀ b, (b = env.locals ∨ ∃ n, env.cells.lookup n = some b) → ∀ o, s.heap.get? b = some o → s'.heap.get? b = some o := fun b hb' o e => X.keep b o e (E.own b hb').2.1
  refine ⟨E.fn, E.gl, E.bl, E.glob, E.inj, E.lt, ?_, ?_, E.celn, E.apart, E.off, ?_, fun b hb' o' e' => by
    obtain ⟨_, _, o, h3⟩ := E.own b hb'
    have := ko b hb' o h3
    rw [e'] at this; cases this
    exact E.nfx b hb' _ h3⟩
  · obtain ⟨m, hn, h⟩ := E.loc
    refine ⟨m, hn.at (ko _ (.inl rfl)), fun n x hs hk V e => ?_⟩
    obtain ⟨v, a, b⟩ := h n x hs hk V e
    exact ⟨v, a, b.keep kf⟩
  · intro n x hs hk
    obtain ⟨h1, a, ov, h2, h3, h4⟩ := E.cel n x hs hk
    refine ⟨h1, a, ov, h2, IsCell_keep h3 (ko a (.inr ⟨n, h2⟩)), fun V e => ?_⟩
    obtain ⟨v, a, b⟩ := h4 V e
    exact ⟨v, a, b.keep kf⟩
  · intro b hb'
    obtain ⟨h1, h2, o, h3⟩ := E.own b hb'
    refine ⟨h1, fun hF => ?_, o, ko b hb' o h3⟩
    rcases X.foot b hF with f | f
    · exact h2 f
    · rw [h3] at f; cases f
theorem EnvOk.sub {hb c env σ ρ s τ} (E : EnvOk hb c env σ ρ s) (h : Sub τ σ) : EnvOk hb c env τ ρ s :=
  ⟨E.fn, E.gl, E.bl, E.glob, E.inj, E.lt, E.loc, E.cel, E.celn, E.apart, E.off, fun b hb' => by
    obtain ⟨h1, h2, h3⟩ := E.own b hb'
    exact ⟨h1, fun f => h2 (h.foot f), h3⟩, E.nfx⟩

/-- which object a name's value stands in -/
noncomputable def Wr (env : Env) (n : Str) (b : Addr) : Prop := (env.kindOf n = some .local ∧ b = env.locals) ∨ (env.kindOf n = some .cell ∧ env.cells.lookup n = some b)

theorem Rho.get_set_self (ρ : Rho) (x : Nat) (v V : V) (h : Rho.get (ρ.set x (some v)) x = some V) : V = v := by
  unfold Rho.get at h
  rw [List.getElem?_set_self'] at h
  induction e : ρ[x]? using Option.casesOn with
  | none => rw [e] at h; simp at h
  | some o => rw [e] at h; simp at h; exact h.symm
theorem Rho.get_set_other (ρ : Rho) {x y : Nat} (v : V) (h : y ≠ x) : Rho.get (ρ.set x (some v)) y = Rho.get ρ y := by
  unfold Rho.get
  rw [List.getElem?_set_ne (Ne.symm h)]

section
variable {prog : Program} {w : World} {A : Around} {hb : Heap} {σ : Hp} {s : Shared} {c : Cx} {env : Env} {ρ : Rho} {K : Frag}

theorem Inv.other (I : Inv hb σ s) {b : Addr} {h' : Heap} (hs : Heap.SameBut b s.heap h') (h1 : hb.get? b = none) (h2 : ¬ Foot σ b) (hf : ∀ o, s.heap.get? b = some o → ¬ fixedO o) {tk : Nat} : Inv hb σ { s with heap := h', toks := tk } := by
  have k : ∀ c, c ≠ b → ∀ o, s.heap.get? c = some o → h'.get? c = some o := fun c hc o e => (hs.2 c hc).trans e
  refine ⟨fun c o e => ?_, fun a o e => ?_, I.new⟩
  · have : c ≠ b := fun q => by rw [q, h1] at e; cases e
    exact k c this o (I.base c o e)
  · refine (I.rep a o e).keep (fun c o' e' f => ?_) (fun c o' q e' => ?_)
    · refine k c (fun z => ?_) o' e'
      subst z; exact hf _ e' f
    · refine k c (fun z => ?_) o' e'
      subst z; exact h2 ⟨a, o, e, q⟩

theorem ns_nofix {a : Addr} {m : Str → Option Value} {h : Heap} (n : h.Ns a m) : ∀ o, h.get? a = some o → ¬ fixedO o := fun o e hf => by
  obtain ⟨o', es, ep, e', d, _⟩ := n
  rw [e] at e'; cases e'
  rcases hf with ⟨_, _, rfl⟩ | ⟨_, _, _, _, _, rfl⟩ <;> cases d
theorem cell_nofix {a : Addr} {v : Option Value} {h : Heap} (n : h.IsCell a v) : ∀ o, h.get? a = some o → ¬ fixedO o := fun o e hf => by
  obtain ⟨o', e', d⟩ := n
  rw [e] at e'; cases e'
  rcases hf with ⟨_, _, rfl⟩ | ⟨_, _, _, _, _, rfl⟩ <;> cases d
theorem Rep.other {h h' : Heap} {b : Addr} (hs : Heap.SameBut b h h') (hf : ∀ o, h.get? b = some o → ¬ fixedO o) {W : V} {v : Value} (r : Rep h W v) : Rep h' W v :=
  r.keep fun c o e f => (hs.2 c (fun z => by subst z; exact hf _ e f)).trans e

/-- a name's value is set -/
theorem store_sound (E : EnvOk hb c env σ ρ s) (I : Inv hb σ s) {n : Str} {x : Nat} {W : V} {v : Value} {Q : Unit → Shared → Prop} (hs : c.slot n = some x) (hf : env.kindOf n ≠ some .free) (r : Rep s.heap W v)
    (h : ∀ h' tk b, Wr env n b → Heap.SameBut b s.heap h' → EnvOk hb c env σ (ρ.set x (some W)) { s with heap := h', toks := tk } → Inv hb σ { s with heap := h', toks := tk } → Q () { s with heap := h', toks := tk }) :
    wpG (model prog w) A (storeName env n v) Q s := by
  by_cases hk : env.kindOf n = some .local
  · obtain ⟨m, hn, hl⟩ := E.loc
    have nf := ns_nofix hn
    obtain ⟨o1, o2, o3, o4⟩ := E.own _ (.inl rfl)
    refine wpG_of_any (wpAny_storeName_local hk hn (fun h' hn' hs' => ?_) (by rw [E.fn]; rfl))
    refine h h' _ env.locals (.inl ⟨hk, rfl⟩) hs' ⟨E.fn, E.gl, E.bl, E.glob, E.inj, E.lt, ⟨_, hn', fun n' x' hs₁ hk₁ V e => ?_⟩, fun n' x' hs₁ hk₁ => ?_, E.celn, E.apart, E.off, fun b hb' => ?_, fun b hb' o' e' => by
      by_cases hbl : b = env.locals
      · subst hbl; exact ns_nofix hn' _ e'
      · exact E.nfx b hb' o' ((hs'.2 b hbl).symm.trans e')⟩ (I.other hs' o1 o2 nf)
    · by_cases hx : x' = x
      · subst hx
        obtain rfl := E.inj _ _ _ hs hs₁
        rw [Rho.get_set_self _ _ _ _ e]
        exact ⟨v, by simp, r.other hs' nf⟩
      · rw [Rho.get_set_other _ _ hx] at e
        obtain ⟨u, e1, e2⟩ := hl n' x' hs₁ hk₁ V e
        have hne : n' ≠ n := fun q => hx (by subst q; rw [hs] at hs₁; exact (Option.some.inj hs₁).symm)
        exact ⟨u, by simp [hne, e1], e2.other hs' nf⟩
    · obtain ⟨k1, a, ov, k2, k3, k4⟩ := E.cel n' x' hs₁ hk₁
      refine ⟨k1, a, ov, k2, k3.sameBut hs' (E.off _ _ k2), fun V e => ?_⟩
      have hx : x' ≠ x := fun q => by
        subst q
        obtain rfl := E.inj _ _ _ hs hs₁
        exact hk₁ hk
      rw [Rho.get_set_other _ _ hx] at e
      obtain ⟨u, e1, e2⟩ := k4 V e
      exact ⟨u, e1, e2.other hs' nf⟩
    · obtain ⟨p1, p2, o, p3⟩ := E.own b hb'
      refine ⟨p1, p2, ?_⟩
      by_cases hbl : b = env.locals
      · subst hbl
        obtain ⟨o', _, _, e, _⟩ := hn'
        exact ⟨o', e⟩
      · exact ⟨o, (hs'.2 b hbl).trans p3⟩
  · obtain ⟨hk', a, ov, hc, hcell, hl⟩ := E.cel n x hs hk
    have hkc : env.kindOf n = some .cell := hk'.elim id fun z => absurd z.1 hf
    have nf := cell_nofix hcell
    obtain ⟨o1, o2, o3, o4⟩ := E.own a (.inr ⟨n, hc⟩)
    refine wpG_of_any (wpAny_storeName_cell E.fn hkc hc hcell fun h' hv' hs' => ?_)
    refine h h' s.toks a (.inr ⟨hkc, hc⟩) hs' ⟨E.fn, E.gl, E.bl, E.glob, E.inj, E.lt, ?_, fun n' x' hs₁ hk₁ => ?_, E.celn, E.apart, E.off, fun b hb' => ?_, fun b hb' o' e' => by
      by_cases hbl : b = a
      · subst hbl; exact cell_nofix hv' _ e'
      · exact E.nfx b hb' o' ((hs'.2 b hbl).symm.trans e')⟩ (I.other hs' o1 o2 nf)
    · obtain ⟨m, hn, hm⟩ := E.loc
      refine ⟨m, hn.sameBut hs' (Ne.symm (E.off _ _ hc)), fun n' x' hs₁ hk₁ V e => ?_⟩
      have hx : x' ≠ x := fun q => by
        subst q
        obtain rfl := E.inj _ _ _ hs hs₁
        exact hk hk₁
      rw [Rho.get_set_other _ _ hx] at e
      obtain ⟨u, e1, e2⟩ := hm n' x' hs₁ hk₁ V e
      exact ⟨u, e1, e2.other hs' nf⟩
    · obtain ⟨k1, a', ov', k2, k3, k4⟩ := E.cel n' x' hs₁ hk₁
      by_cases hx : x' = x
      · subst hx
        obtain rfl := E.inj _ _ _ hs hs₁
        rw [hc] at k2; cases k2
        exact ⟨k1, a, some v, hc, hv', fun V e => by rw [Rho.get_set_self _ _ _ _ e]; exact ⟨v, rfl, r.other hs' nf⟩⟩
      · have hne : n' ≠ n := fun q => hx (by subst q; rw [hs] at hs₁; exact (Option.some.inj hs₁).symm)
        refine ⟨k1, a', ov', k2, k3.sameBut hs' (fun q => hne (E.apart _ _ a' k2 (q ▸ hc))), fun V e => ?_⟩
        rw [Rho.get_set_other _ _ hx] at e
        obtain ⟨u, e1, e2⟩ := k4 V e
        exact ⟨u, e1, e2.other hs' nf⟩
    · obtain ⟨p1, p2, o, p3⟩ := E.own b hb'
      refine ⟨p1, p2, ?_⟩
      by_cases hbl : b = a
      · subst hbl
        obtain ⟨o', e, _⟩ := hv'
        exact ⟨o', e⟩
      · exact ⟨o, (hs'.2 b hbl).trans p3⟩

/-- a name is read -/
theorem name_sound (E : EnvOk hb c env σ ρ s) {n : Str} {x : Nat} {V : V} {Q : Value → Shared → Prop} (hs : c.slot n = some x) (hv : ρ.get x = some V) (h : ∀ v, Rep s.heap V v → Q v s) :
    wpG (model prog w) A (loadName env n) Q s := by
  by_cases hk : env.kindOf n = some .local
  · obtain ⟨m, hn, hl⟩ := E.loc
    obtain ⟨v, e, r⟩ := hl n x hs hk V hv
    exact wpG_of_any (wpAny_loadName_local E.fn hk hn e (h v r))
  · obtain ⟨hk', a, ov, hc, hcell, hl⟩ := E.cel n x hs hk
    obtain ⟨v, rfl, r⟩ := hl V hv
    rcases hk' with hk' | ⟨hk', hne⟩
    · exact wpG_of_any (wpAny_loadName_cell E.fn hk' hc hcell (h v r))
    · exact wpG_of_any (wpAny_loadName_free E.fn hk' hc hcell (h v r) (by simpa using hne))
end
end Mine
end
section
set_option backward.match.sparseCases false
open PySem PySem.W PyProof.Rows PySem.Calls
open PySem.Sem (wp)
set_option maxRecDepth 100000
namespace Mine

noncomputable def fldOk (K : Frag) (C : Addr) (f : Nat) : Bool :=
  decide (f < attrTab.length) && plainGet K C (attrName f) && hasDictIn K C && (findIn K (.ref C) (attrName f)).any (noGet K) && plainOver K C && takerIn K C (attrName f) == some none &&
    findIn K (.ref C) "__setattr__" == some (some (.builtin "object.__setattr__"))
noncomputable def methOk (K : Frag) (C : Addr) (m f : Nat) : Bool :=
  decide (m < attrTab.length) && plainGet K C (attrName m) && findIn K (.ref C) (attrName m) == some (some (.ref f)) && fnIn K f && typeIn K (.ref f) == some (.type "function")
noncomputable def initOk (K : Frag) (C f : Nat) : Bool := makesIn K C && findIn K (.ref C) "__init__" == some (some (.ref f)) && typeIn K (.ref f) == some (.type "function")
structure TabOk (K : Frag) (T : Tab) : Prop where
  fld : ∀ C f, T.fld C f = true → fldOk K C f = true
  meth : ∀ C m f, T.meth C m = some f → methOk K C m f = true
  init : ∀ C f, T.init C = some f → initOk K C f = true

theorem attr_inj0 : ∀ f, f < 52 → ∀ g, g < 52 → attrName f = attrName g → f = g := by decide +kernel
theorem attr_len : attrTab.length = 52 := by decide +kernel
theorem attr_inj {f g : Nat} (hf : f < attrTab.length) (hg : g < attrTab.length) (h : attrName f = attrName g) : f = g := attr_inj0 f (attr_len ▸ hf) g (attr_len ▸ hg) h
theorem attrId_name {n : Str} {f : Nat} (h : attrId n = some f) : n = attrName f ∧ f < attrTab.length := by
  obtain ⟨hlt, h1, _⟩ := List.findIdx?_eq_some_iff_getElem.mp h
  refine ⟨?_, hlt⟩
  unfold attrName
  rw [List.getD_eq_getElem?_getD, List.getElem?_eq_getElem hlt]
  exact (beq_iff_eq.mp h1).symm

theorem getF_setF_self (f : Nat) (v : V) : ∀ fs, getF f (setF f v fs) = some v
  | [] => by simp [setF, getF]
  | (g, u) :: r => by
    unfold setF
    split
    · simp [getF]
    · rename_i h; unfold getF; rw [if_neg h]; exact getF_setF_self f v r
theorem getF_setF_other {f g : Nat} (v : V) (h : g ≠ f) : ∀ fs, getF g (setF f v fs) = getF g fs
  | [] => by simp [setF, getF, Ne.symm h]
  | (k, u) :: r => by
    unfold setF
    split
    · rename_i e; subst e; simp [getF, Ne.symm h]
    · unfold getF; split
      · rfl
      · exact getF_setF_other v h r
theorem setF_length (f : Nat) (v : V) : ∀ fs, (setF f v fs).length = if getF f fs = none then fs.length + 1 else fs.length
  | [] => by simp [setF, getF]
  | (k, u) :: r => by
    have ih := setF_length f v r
    unfold setF getF
    split
    · simp
    · simp only [List.length_cons, ih]; split <;> rfl

theorem isStr_str (n m : Str) (t : Tok) : (Value.str n t).isStr m = (n == m) := rfl
theorem putL_mem {name : Str} {hsh : Int} {key v : Value} : ∀ {es : List DictEntry} {e : DictEntry}, e ∈ putL name hsh key v es → e.key = key ∨ ∃ e' ∈ es, e.key = e'.key
  | [], e, h => by unfold putL at h; simp at h; subst h; exact .inl rfl
  | a :: r, e, h => by
    unfold putL at h
    split at h
    · rcases List.mem_cons.mp h with rfl | h
      · exact .inr ⟨a, .head _, rfl⟩
      · exact .inr ⟨e, .tail _ h, rfl⟩
    · rcases List.mem_cons.mp h with rfl | h
      · exact .inr ⟨_, .head _, rfl⟩
      · rcases putL_mem h with h | ⟨e', h1, h2⟩
        · exact .inl h
        · exact .inr ⟨e', .tail _ h1, h2⟩
theorem putL_length {name : Str} {hsh : Int} {key v : Value} : ∀ {es : List DictEntry}, (putL name hsh key v es).length = if (es.find? fun e => e.key.isStr name).isSome then es.length else es.length + 1
  | [] => rfl
  | a :: r => by
    have ih := putL_length (name := name) (hsh := hsh) (key := key) (v := v) (es := r)
    unfold putL
    induction e : a.key.isStr name using Bool.casesOn with
    | true => simp [e]
    | false => simp only [Bool.false_eq_true, if_false, List.length_cons, ih, List.find?_cons, e]; split <;> rfl
theorem putL_find_self {name : Str} {hsh : Int} {t : Tok} {v : Value} : ∀ {es : List DictEntry}, ((putL name hsh (.str name t) v es).find? fun e => e.key.isStr name).map (·.val) = some v
  | [] => by unfold putL; simp [isStr_str]
  | a :: r => by
    unfold putL
    induction e : a.key.isStr name using Bool.casesOn with
    | true => simp [e]
    | false => simp only [Bool.false_eq_true, if_false, List.find?_cons, e]; exact putL_find_self
theorem putL_find_other {name other : Str} {hsh : Int} {t : Tok} {v : Value} (hne : other ≠ name) : ∀ {es : List DictEntry}, (∀ e ∈ es, ∃ n t, e.key = .str n t) →
    ((putL name hsh (.str name t) v es).find? fun e => e.key.isStr other).map (·.val) = (es.find? fun e => e.key.isStr other).map (·.val)
  | [], _ => by unfold putL; simp [isStr_str, Ne.symm hne]
  | a :: r, hk => by
    unfold putL
    obtain ⟨n, t', ea⟩ := hk a (.head _)
    induction e : a.key.isStr name using Bool.casesOn with
    | true =>
      have : a.key.isStr other = false := by
        rw [ea, isStr_str] at e ⊢
        simp at e; subst e; simp [Ne.symm hne]
      simp [this]
    | false =>
      simp only [Bool.false_eq_true, if_false, List.find?_cons]
      split
      · rfl
      · exact putL_find_other hne fun e he => hk e (.tail _ he)

section
variable {prog : Program} {w : World} {A : Around} {hb : Heap} {σ : Hp} {s : Shared} {K : Frag} {T : Tab}
theorem rep_handed {h : Heap} {W : V} {v : Value} (r : Rep h W v) : handedIn v = true := by
  induction W using Mine.V.casesOn with
  | none => subst r; rfl
  | bool b => subst r; rfl
  | int i => obtain ⟨t, rfl⟩ := r; rfl
  | bytes l => obtain ⟨b, t, rfl, _⟩ := r; rfl
  | tup Ws => obtain ⟨a, vs, n, rfl, _⟩ := r; rfl
  | ref a => subst r; rfl
  | range _ _ => obtain ⟨a, t, u, y, rfl, _⟩ := r; rfl
theorem keys_str {h : Heap} {fs : List (Nat × V)} {es : List DictEntry} (r : FieldsRep h fs es) : ∀ e ∈ es, ∃ n t, e.key = .str n t := fun e he => by
  obtain ⟨f, t, _, e1, _⟩ := r.1 e he; exact ⟨_, t, e1⟩
theorem no_refKey {h : Heap} {fs : List (Nat × V)} {es : List DictEntry} (r : FieldsRep h fs es) : es.any (·.refKey) = false := List.any_eq_false.mpr fun e he => by
  obtain ⟨n, t, e1⟩ := keys_str r e he
  obtain ⟨_, k, _⟩ := e
  subst e1; exact Bool.false_ne_true
theorem getL_some {h : Heap} {fs : List (Nat × V)} {es : List DictEntry} (r : FieldsRep h fs es) {f : Nat} {W : V} (hf : f < attrTab.length) (e : getF f fs = some W) : ∃ v, getL (attrName f) es = some (some v) ∧ Rep h W v := by
  obtain ⟨v, e1, e2⟩ := r.2 f W hf e
  obtain ⟨x, e3, rfl⟩ := Option.map_eq_some_iff.mp e1
  exact ⟨x.val, by unfold getL; rw [e3], e2⟩
theorem find_none {h : Heap} {fs : List (Nat × V)} {es : List DictEntry} (r : FieldsRep h fs es) {f : Nat} (hf : f < attrTab.length) (e : getF f fs = none) : es.find? (fun e => e.key.isStr (attrName f)) = none := by
  refine List.find?_eq_none.mpr fun x hx => ?_
  obtain ⟨g, t, g1, g2, g3⟩ := r.1 x hx
  rw [g2, isStr_str]
  intro hh
  have := attr_inj g1 hf (beq_iff_eq.mp hh)
  subst this
  exact g3 e
theorem getL_none {h : Heap} {fs : List (Nat × V)} {es : List DictEntry} (r : FieldsRep h fs es) {f : Nat} (hf : f < attrTab.length) (e : getF f fs = none) : getL (attrName f) es = some none := by
  unfold getL; rw [find_none r hf e, no_refKey r]; rfl
theorem instAt_of {h : Heap} {C d : Addr} {es : List DictEntry} {n : Nat} (g1 : h.get? (d + 1) = some (insOf C d)) (g2 : h.get? d = some (dicOf es n)) : InstAt h (d + 1) (insOf C d) C (some (dictOf es n)) := ⟨g1, rfl, rfl, g2⟩

theorem attr_sound (F : Fix K hb) (TO : TabOk K T) (I : Inv hb σ s) {W : V} {v : Value} {f : Nat} {Q : V → Prop} {R : Value → Shared → Prop} (r : Rep s.heap W v) (h : attrP T W f σ Q)
    (hR : ∀ X u, Q X → Rep s.heap X u → R u { s with toks := s.toks + 1 }) : wpG (model prog w) A (getAttr v (attrName f) true) R s := by
  unfold attrP at h
  split at h
  · rename_i x
    split at h
    · rename_i C fs e
      obtain ⟨ht, X, eX, q⟩ := h
      subst r
      have k := TO.fld _ _ ht
      simp only [fldOk, Bool.and_eq_true, decide_eq_true_eq, beq_iff_eq] at k
      obtain ⟨⟨⟨⟨⟨⟨k0, k1⟩, k2⟩, k3⟩, k4⟩, k5⟩, k6⟩ := k
      obtain ⟨d, es, n, rfl, g1, g2, _, fr⟩ := I.rep _ _ e
      obtain ⟨u, e1, ru⟩ := getL_some fr k0 eX
      have Xs := F.into I
      obtain ⟨attr, a1, a2⟩ := any_some k3
      refine wpG_of_any (get_value Xs (instAt_of g1 g2) (plainGet_of k1).1 (findObj_own k2 a1 a2 e1) (rep_handed ru) (hR _ _ q ru))
    · exact h.elim
  · exact h.elim

theorem set_sound (F : Fix K hb) (TO : TabOk K T) (I : Inv hb σ s) {x C f : Nat} {fs : List (Nat × V)} {W : V} {v : Value} {Q : Unit → Shared → Prop} (e : σ x = some (.inst C fs)) (ht : T.fld C f = true) (hl : fs.length ≤ 100) (r : Rep s.heap W v)
    (h : ∀ h' tk, Inv hb (upd σ x (.inst C (setF f W fs))) { s with heap := h', toks := tk } → Ext σ s (upd σ x (.inst C (setF f W fs))) { s with heap := h', toks := tk } → Q () { s with heap := h', toks := tk }) :
    wpG (model prog w) A (setAttr (.ref x) (attrName f) v) Q s := by
  have k := TO.fld _ _ ht
  simp only [fldOk, Bool.and_eq_true, decide_eq_true_eq, beq_iff_eq] at k
  obtain ⟨⟨⟨⟨⟨⟨k0, k1⟩, k2⟩, k3⟩, k4⟩, k5⟩, k6⟩ := k
  obtain ⟨d, es, n, rfl, g1, g2, hle, fr⟩ := I.rep _ _ e
  have Xs := F.into I
  obtain ⟨cd, hc, hd'⟩ := any_some k2
  generalize hname : attrName f = name at *
  have fin : Q () { s with heap := s.heap.update d (Obj.putName name (PyData.keyHash w.params name) (.str name (s.toks + 1)) v), toks := s.toks + 1 + 1 } := by
    have hp := putName_dict name (PyData.keyHash w.params name) (.str name (s.toks + 1)) v es n
    obtain ⟨I', X'⟩ := I.write (a := d + 1) (x := d) (ao := .inst C fs) (ao' := .inst C (setF f W fs)) (h' := s.heap.update d (Obj.putName name (PyData.keyHash w.params name) (.str name (s.toks + 1)) v)) (tk := s.toks + 1 + 1) e (.inr ⟨_, _, rfl, rfl⟩)
      (fun b hb => Heap.get?_update_other _ _ (Ne.symm hb)) ⟨_, Heap.get?_update_self _ g2 (by rw [hp]; rfl)⟩ (fun kf => by
        refine ⟨d, putL name (PyData.keyHash w.params name) (.str name (s.toks + 1)) v es, putN name es n, rfl, ?_, ?_, ?_, ?_, ?_⟩
        · rw [Heap.get?_update_other _ _ (Nat.ne_of_lt (Nat.lt_succ_self d))]; exact g1
        · rw [Heap.get?_update_self _ g2 (by rw [hp]; rfl), hp]
        · rw [putL_length, setF_length]
          by_cases hf : getF f fs = none
          · rw [if_pos hf]; split <;> lia
          · rw [if_neg hf]
            obtain ⟨W', eW⟩ := Option.ne_none_iff_exists'.mp hf
            obtain ⟨v', e1, _⟩ := fr.2 f W' k0 eW
            obtain ⟨y, e2, _⟩ := Option.map_eq_some_iff.mp e1
            rw [hname] at e2
            rw [if_pos (by rw [e2]; rfl)]; exact hle
        · intro y hy
          rcases putL_mem hy with hy | ⟨y', hy, ey⟩
          · exact ⟨f, _, k0, by rw [hname]; exact hy, by rw [getF_setF_self]; simp⟩
          · obtain ⟨g, t, p1, p2, p3⟩ := fr.1 y' hy
            refine ⟨g, t, p1, ey.trans p2, ?_⟩
            by_cases hg : g = f
            · subst hg; rw [getF_setF_self]; simp
            · rw [getF_setF_other _ hg]; exact p3
        · intro g V hg eg
          by_cases hgf : g = f
          · subst hgf
            rw [getF_setF_self] at eg; cases eg
            rw [hname]
            exact ⟨v, putL_find_self, r.keep kf⟩
          · rw [getF_setF_other _ hgf] at eg
            obtain ⟨v', e1, e2⟩ := fr.2 g V hg eg
            refine ⟨v', ?_, e2.keep kf⟩
            rw [putL_find_other (fun q => hgf (attr_inj hg k0 (q.trans hname.symm))) (keys_str fr)]
            exact e1) (fun C' fs' _ => ⟨_, _, rfl⟩) (fun _ _ _ q => absurd q (Nat.ne_of_lt (Nat.lt_succ_self d)))
    exact h _ _ I' X'
  refine wpG_of_any (set_plain Xs (instAt_of g1 g2) k6 (osa_open (s := { s with toks := s.toks + 1 }) Xs (instAt_of g1 g2) k4 k5 fun b => ?_))
  refine wpAny_bind (wpAny_pure (wpAny_bind (wpAny_bind (wpAny_loadPart g1 (wpAny_bind ((looks_clsIn Xs hc) _ _ _ _ (fun _ _ e => e) ?_))))))
  rw [hd']
  refine wpAny_pure (a := some d) (wpAny_bind (wpAny_pure (wpAny_bind ?_)))
  refine wpAny_bind (wpAny_bind (wpAny_askSetting (wpAny_pure (wpAny_bind (wpAny_mkText (wpAny_bind (wpAny_loadPart (o := dicOf es n) g2 ?_)))))))
  dsimp only
  have c : (!es.toArray.any (·.key.isStr name) && es.toArray.any (·.refKey)) = false := by
    rw [← Array.any_toList, ← Array.any_toList]
    have := no_refKey fr
    rw [show es.toArray.toList = es from rfl, this, Bool.and_false]
  rw [aRefKeyMayBeTheName_at, c]
  refine wpAny_updatePart (o := dicOf es n) g2 ?_
  have hp := putName_dict name (PyData.keyHash w.params name) (.str name (s.toks + 1)) v es n
  have hg := Heap.get?_update_self (Obj.putName name (PyData.keyHash w.params name) (.str name (s.toks + 1)) v) g2 (by rw [hp]; rfl)
  refine wpAny_bind (wpAny_lookBehind hg (by rw [hp]; exact pastItsLine_dict (by
    rw [List.size_toArray, sizeLine_eq, putL_length]; split <;> lia)) ?_)
  exact wpAny_pure fin
end
end Mine
end
section
set_option backward.match.sparseCases false
open PySem PySem.W PyProof.Rows PySem.Calls
open PySem.Sem (wp)
set_option maxRecDepth 100000
namespace Mine
noncomputable abbrev RetG (P : Value → Shared → Prop) : Flow → Shared → Prop := fun f s' => match f with | .ret v => P v s' | _ => False
section
variable (prog : Program) (w : World) (hb : Heap)
noncomputable def CallsAt (A : Around) (C : Calls) : Prop := ∀ (f : Nat) (Ws : List V) (vs : List Value) (σ : Hp) (s : Shared) (Q : K1), Inv hb σ s → RepL s.heap Ws vs → C f Ws σ Q →
  codeG (model prog w) A (.call (.ref f) ⟨vs, []⟩) (RetG (Post hb σ s Q)) s
noncomputable def RoomX (n : Nat) (A : Around) : Prop := A.handled = none ∧ A.depth + 4 * n + 4 ≤ recursionLimit ∧ A.units + 60 * n + 60 ≤ cLine
noncomputable def CallsOk (n : Nat) (C : Calls) : Prop := ∀ A, RoomX n A → CallsAt prog w hb A C
noncomputable def RoomE (n : Nat) (A : Around) : Prop := A.handled = none ∧ A.depth + 4 * n + 6 ≤ recursionLimit ∧ A.units + 60 * n + 80 ≤ cLine
end
theorem RoomE.x {n A} (h : RoomE n A) : RoomX n A := ⟨h.1, by have := h.2.1; lia, by have := h.2.2; lia⟩

theorem plainAttrs_ba : PlainAttrs "bytearray" := ⟨⟨"bytearray.__getattribute__", by rw [typeLookup_type, builtinLookup_eq_fast]; kernel_rfl, by decide +kernel⟩, by rw [typeLookup_type, builtinLookup_eq_fast]; kernel_rfl⟩
theorem type_ba_append : typeOf (.builtin "bytearray.append") = pure (.type "method_descriptor") := by kernel_rfl
theorem type_ba_extend : typeOf (.builtin "bytearray.extend") = pure (.type "method_descriptor") := by kernel_rfl
theorem nd_loadG {α : Type} {M : Model} {A : Around} {a : Addr} {p : Option Value} {k : Obj → Sem α} {o : Obj} {s : Shared} {Q : α → Shared → Prop} (ho : s.heap.get? a = some o) (h : wpG M A (k o) Q s) : wpG M A (.load a p k) Q s :=
  fun Γ q h1 h2 h3 => ⟨o, ho, h Γ q h1 h2 h3⟩

noncomputable def calleeV : Nat → Value
  | 0 => .builtin "list.append"
  | 1 => .builtin "bytearray.append"
  | 2 => .builtin "bytearray.extend"
  | f + 3 => .ref f
noncomputable def isKeeper (M : Model) (K : Frag) (f : Value) : Prop := ∀ h, K.In h → ∃ k, (k = Keeper.frame ∨ k = Keeper.machine ∨ k = Keeper.boundFrame) ∧ Looks M h (keeperOf f) k
section
variable {prog : Program} {w : World} {A : Around} {hb : Heap} {σ : Hp} {s : Shared} {K : Frag} {T : Tab} {C : Calls}
theorem keeper_fn {M : Model} {f : Nat} (h : fnIn K f = true) : isKeeper M K (.ref f) := fun hh X => by
  rcases e : K.lookup f with _ | ⟨_, _, dt, _⟩
  · unfold fnIn at h; rw [e] at h; cases h
  · unfold fnIn at h; rw [e] at h
    induction dt using PySem.Data.casesOn with
    | func _ => exact ⟨.frame, .inl rfl, (Looks.ld (part := none) (X _ _ e)).andThen .now⟩
    | _ => exact absurd h Bool.false_ne_true
theorem keeper_builtin {M : Model} (i : String) : isKeeper M K (.builtin i) := fun _ _ => ⟨.machine, .inr (.inl rfl), Looks.of_pure rfl⟩
theorem keeper_type {M : Model} (i : String) : isKeeper M K (.type i) := fun _ _ => ⟨.machine, .inr (.inl rfl), Looks.of_pure rfl⟩
theorem keeper_cls {M : Model} {C : Nat} (h : makesIn K C = true) : isKeeper M K (.ref C) := fun hh X => by
  have Y := makes_of (M := M) X h
  obtain ⟨oc, od, cd, sl, hC, _⟩ := Y.obj
  exact ⟨.machine, .inr (.inl rfl), (Looks.ld (part := none) hC).andThen (Y.call.andThen .now)⟩

theorem methK_inv {a : V} {m k : Nat} (hk : methK T m σ a = some k) : ∃ x, a = .ref x ∧ ((∃ c fs f, σ x = some (.inst c fs) ∧ getF m fs = none ∧ T.meth c m = some f ∧ k = f + 3) ∨ (∃ xs, σ x = some (.lst xs) ∧ m = 50 ∧ k = 0) ∨ ∃ b, σ x = some (.barr b) ∧ ((m = 50 ∧ k = 1) ∨ (m = 51 ∧ k = 2))) := by
  refine Classical.byContradiction fun hn => ?_
  induction a using V.casesOn with
  | ref x =>
    replace hk : (match σ x with
      | some (.inst c fs) => if (getF m fs).isNone then (T.meth c m).map (· + 3) else none
      | some (.lst _) => if m = 50 then some 0 else none
      | some (.barr _) => if m = 50 then some 1 else if m = 51 then some 2 else none
      | none => none) = some k := hk
    rcases e : σ x with _ | o
    · rw [e] at hk; exact noneSome hk
    · rw [e] at hk
      rcases o with xs | ⟨c, fs⟩ | b
      · replace hk : (if m = 50 then some 0 else none) = some k := hk
        by_cases hm : m = 50
        · rw [if_pos hm] at hk; exact hn ⟨x, rfl, .inr (.inl ⟨xs, e, hm, (Option.some.inj hk).symm⟩)⟩
        · rw [if_neg hm] at hk; exact noneSome hk
      · replace hk : (if (getF m fs).isNone = true then (T.meth c m).map (· + 3) else none) = some k := hk
        by_cases hg : (getF m fs).isNone = true
        · rw [if_pos hg] at hk
          obtain ⟨f, hm, hf⟩ := Option.map_eq_some_iff.mp hk
          exact hn ⟨x, rfl, .inl ⟨c, fs, f, e, Option.isNone_iff_eq_none.mp hg, hm, hf.symm⟩⟩
        · rw [if_neg hg] at hk; exact noneSome hk
      · replace hk : (if m = 50 then some 1 else if m = 51 then some 2 else none) = some k := hk
        by_cases hm : m = 50
        · rw [if_pos hm] at hk; exact hn ⟨x, rfl, .inr (.inr ⟨b, e, .inl ⟨hm, (Option.some.inj hk).symm⟩⟩)⟩
        · rw [if_neg hm] at hk
          by_cases hm' : m = 51
          · rw [if_pos hm'] at hk; exact hn ⟨x, rfl, .inr (.inr ⟨b, e, .inr ⟨hm', (Option.some.inj hk).symm⟩⟩)⟩
          · rw [if_neg hm'] at hk; exact noneSome hk
  | _ => exact noneSome hk
theorem mP_inst {x c m f : Nat} {fs : List (Nat × V)} {Ws : List V} {Q : K1} (e : σ x = some (.inst c fs)) (hm : T.meth c m = some f) (h : methP T C (.ref x) m Ws σ Q) : C f (.ref x :: Ws) σ Q := by
  unfold methP at h
  dsimp only at h
  rw [e] at h
  replace h : (match T.meth c m with
    | some f => (getF m fs).isNone = true ∧ C f (.ref x :: Ws) σ Q
    | none => False) := h
  rw [hm] at h
  exact h.2
theorem mP_lst {x m : Nat} {xs : List V} {Ws : List V} {Q : K1} (e : σ x = some (.lst xs)) (h : methP T C (.ref x) m Ws σ Q) : ∃ W, Ws = [W] ∧ xs.length < lim ∧ Q .none (upd σ x (.lst (xs ++ [W]))) := by
  unfold methP at h
  dsimp only at h
  rw [e] at h
  rcases Ws with _ | ⟨W, _ | ⟨_, _⟩⟩
  · exact False.elim h
  · exact ⟨W, rfl, h.2⟩
  · exact False.elim h
theorem mP_barr {x m : Nat} {b : List Nat} {Ws : List V} {Q : K1} (e : σ x = some (.barr b)) (h : methP T C (.ref x) m Ws σ Q) : (∃ n, Ws = [.int n] ∧ m = 50 ∧ 0 ≤ n ∧ n < 256 ∧ b.length < lim ∧ Q .none (upd σ x (.barr (b ++ [n.toNat])))) ∨
    ∃ c, Ws = [.bytes c] ∧ m = 51 ∧ b.length + c.length ≤ lim ∧ Q .none (upd σ x (.barr (b ++ c))) := by
  unfold methP at h
  dsimp only at h
  rw [e] at h
  refine Classical.byContradiction fun hn => ?_
  rcases Ws with _ | ⟨W, _ | ⟨_, _⟩⟩
  · exact h
  · induction W using V.casesOn with
    | int n => exact hn (.inl ⟨n, rfl, h⟩)
    | bytes c => exact hn (.inr ⟨c, rfl, h⟩)
    | _ => exact h
  · induction W using V.casesOn <;> exact h

theorem getMethod_sound (F : Fix K hb) (TO : TabOk K T) (I : Inv hb σ s) {a : V} {v : Value} {m k : Nat} {pl : Sem Bool} {Q : Value × List Value → Shared → Prop} (r : Rep s.heap a v) (hk : methK T m σ a = some k) (h : isKeeper (model prog w) K (calleeV k) → Q (calleeV k, [v]) s) :
    wpG (model prog w) A (getMethod v (attrName m) pl) Q s := by
  obtain ⟨x, rfl, hx⟩ := methK_inv hk
  clear hk
  obtain rfl : v = .ref x := r
  rcases hx with ⟨c, fs, f, e, hn, hm, rfl⟩ | ⟨xs, e, rfl, rfl⟩ | ⟨b, e, hk⟩
  · have k := TO.meth _ _ _ hm
    simp only [methOk, Bool.and_eq_true, decide_eq_true_eq, beq_iff_eq] at k
    obtain ⟨d, es, n, rfl, g1, g2, _, fr⟩ := I.rep _ _ e
    obtain ⟨p1, p2⟩ := plainGet_of k.1.1.1.2
    refine wpG_of_any (method_fn (F.into I) (instAt_of g1 g2) p1 p2 k.1.1.2 k.2 ?_ (h (keeper_fn k.1.2)))
    show (lookIn (attrName m) (dictOf es n)).map (·.isSome) = some false
    rw [lookIn_dict, getL_none fr k.1.1.1.1 hn]; rfl
  · obtain ⟨vs, n, g, _⟩ := I.rep _ _ e
    exact wpG_of_any (getMethod_list_append g rfl rfl (h (keeper_builtin _)))
  · obtain ⟨b, g, _⟩ := I.rep _ _ e
    have hT : s.TypeIs (.ref x) "bytearray" := ⟨_, g, rfl⟩
    rcases hk with ⟨rfl, rfl⟩ | ⟨rfl, rfl⟩
    · exact wpG_of_any (getMethod_builtin hT plainAttrs_ba slot_ba_append type_ba_append (fun a e => by cases e; exact ⟨_, g, rfl⟩) (h (keeper_builtin _)))
    · exact wpG_of_any (getMethod_builtin hT plainAttrs_ba slot_ba_extend type_ba_extend (fun a e => by cases e; exact ⟨_, g, rfl⟩) (h (keeper_builtin _)))

theorem push_list_sound (I : Inv hb σ s) {x : Nat} {xs : List V} {W : V} {v : Value} {Q : Value → Shared → Prop} (e : σ x = some (.lst xs)) (r : Rep s.heap W v) (hl : xs.length < lim)
    (h : ∀ h' tk, Inv hb (upd σ x (.lst (xs ++ [W]))) { s with heap := h', toks := tk } → Ext σ s (upd σ x (.lst (xs ++ [W]))) { s with heap := h', toks := tk } → Q .none { s with heap := h', toks := tk }) :
    wpG (model prog w) A (call (.builtin "list.append") [.ref x, v]) Q s := by
  obtain ⟨vs, n, g, rl⟩ := I.rep _ _ e
  have hlen := rl.length
  refine wpG_of_any (wpAny_call_entry slot_list_append (isList_of g).typeIs entry_list_append ?_ (args_list_append _ _))
  show wpAny _ _ (updateSeq x (·.push v) >>= fun _ => ret .none) _ _ s
  refine wpAny_bind (wpAny_updateSeq (hz := by unfold lim at hl; rw [sizeLine_eq, List.size_toArray]; lia) (_hz' := by unfold lim at hl; rw [sizeLine_eq, Array.size_push, List.size_toArray]; lia) g rfl (wpAny_pure ⟨.none, rfl, ?_⟩))
  obtain ⟨I', X'⟩ := I.write (x := x) (ao' := .lst (xs ++ [W])) (h' := s.heap.update x (Obj.mapSeq (·.push v))) (tk := s.toks) e (.inl rfl) (fun b hb => Heap.get?_update_other _ _ (Ne.symm hb)) ⟨_, Heap.get?_update_self _ g rfl⟩ (fun kf => by
    refine ⟨vs ++ [v], n + 1, ?_, (rl.keep kf).append ?_⟩
    · rw [Heap.get?_update_self _ g rfl]; simp [Obj.mapSeq]
    · exact ⟨v, [], rfl, r.keep kf, by rfl⟩) (fun _ _ e => nomatch e) (fun _ _ e => nomatch e)
  exact h _ _ I' X'

theorem nums_push {b : Array UInt8} {n : Int} (_h0 : 0 ≤ n) (h1 : n < 256) : nums (b.push n.toNat.toUInt8) = nums b ++ [n.toNat] := by
  simp [nums, Nat.toUInt8, UInt8.toNat_ofNat']; lia
theorem nums_append (b c : Array UInt8) : nums (b ++ c) = nums b ++ nums c := by simp [nums]

theorem barr_sound (I : Inv hb σ s) {x : Nat} {b : Array UInt8} {q : List Nat} {g : Array UInt8 → Array UInt8} {Q : K1} (e : σ x = some (.barr (nums b))) (hg : s.heap.get? x = some (barOf b)) (hc : nums (g b) = q) (h : Q .none (upd σ x (.barr q))) :
    Post hb σ s Q .none { s with heap := s.heap.update x (Obj.mapBytearray g), toks := s.toks } := by
  obtain ⟨I', X'⟩ := I.write (x := x) (ao' := .barr q) (h' := s.heap.update x (Obj.mapBytearray g)) (tk := s.toks) e (.inl rfl) (fun b hb => Heap.get?_update_other _ _ (Ne.symm hb)) ⟨_, Heap.get?_update_self _ hg rfl⟩ (fun kf =>
    ⟨g b, Heap.get?_update_self _ hg rfl, hc⟩) (fun _ _ e => nomatch e) (fun _ _ e => nomatch e)
  exact ⟨_, _, h, rfl, I', X'⟩
theorem meth_sound (CA : CallsAt prog w hb A C) (I : Inv hb σ s) {a : V} {v : Value} {m k : Nat} {Ws : List V} {vs : List Value} {Q : K1} (ra : Rep s.heap a v) (r : RepL s.heap Ws vs) (hk : methK T m σ a = some k) (h : methP T C a m Ws σ Q) :
    wpG (model prog w) A (call (calleeV k) (v :: vs)) (Post hb σ s Q) s := by
  obtain ⟨x, rfl, hx⟩ := methK_inv hk
  clear hk
  obtain rfl : v = .ref x := ra
  rcases hx with ⟨c, fs, f, e, hn, hm, rfl⟩ | ⟨xs, e, rfl, rfl⟩ | ⟨b, e, hk⟩
  · exact wpG_call (CA f (.ref x :: Ws) _ _ _ _ I ⟨_, vs, rfl, rfl, r⟩ (mP_inst e hm h))
  · obtain ⟨W, rfl, hl, q⟩ := mP_lst e h
    obtain ⟨u, rfl, ru⟩ := r.one
    exact push_list_sound I e ru hl fun h' tk I' X' => ⟨_, _, q, rfl, I', X'⟩
  · obtain ⟨b', g, rfl⟩ := I.rep _ _ e
    rcases mP_barr e h with ⟨n, rfl, hm, h0, h1, hl, q⟩ | ⟨c, rfl, hm, hl, q⟩
    · obtain rfl : k = 1 := by rcases hk with hk | hk; exact hk.2; exact absurd (hm.symm.trans hk.1) (by decide)
      rw [nums_length] at hl
      obtain ⟨t, rfl⟩ := r.oneI
      exact append_ba g h0 h1 (Nat.le_of_lt hl) (barr_sound I e g (nums_push h0 h1) q)
    · obtain rfl : k = 2 := by rcases hk with hk | hk; exact absurd (hm.symm.trans hk.1) (by decide); exact hk.2
      obtain ⟨c', t, rfl, rfl⟩ := r.oneB
      rw [nums_length, nums_length] at hl
      exact extend_ba g hl (barr_sound I e g (nums_append _ _) q)
end
end Mine
end
section
set_option backward.match.sparseCases false
open PySem PySem.W PyProof.Rows PySem.Calls
open PySem.Sem (wp)
set_option maxRecDepth 100000
namespace Mine
section
variable {prog : Program} {w : World} {A : Around} {hb : Heap} {σ : Hp} {s : Shared} {K : Frag} {T : Tab} {C : Calls}

theorem make_G {h : Heap} {g : Array GenState} {d : Drawn} {t : Nat} {os : OsState} {C : Addr} {f : Addr} {rest : List Value} {Q : Value → Shared → Prop} (X : K.In h) (hm : makesIn K C = true)
    (hi0 : findIn K (.ref C) "__init__" = some (some (.ref f))) (hf : typeIn K (.ref f) = some (.type "function"))
    (hq : codeG (model prog w) (A.under (.builtin "type.__call__" ⟨.ref C :: rest, []⟩)) (.call (.ref f) ⟨.ref (h.objs.size + 1) :: rest, []⟩) (RetG fun v s' => v = .none ∧ Q (.ref (h.objs.size + 1)) s')
      ⟨(h.push emptyDict).push (instObj C h.objs.size), g, d, t, os⟩) :
    codeG (model prog w) A (.call (.ref C) ⟨rest, []⟩) (RetG Q) ⟨h, g, d, t, os⟩ := by
  have Y' := makes_of (M := model prog w) X hm
  obtain ⟨⟨oc, od, cd, sl, hC, e1, e2, e4⟩, made, base, self, top, call, typ⟩ := id Y'
  have hi := looks_findIn (M := model prog w) X hi0
  refine codeG_of_tree rfl ?_
  show wpG _ _ (callAny (.ref C) _) _ _
  refine nd_loadG hC ?_
  show wpG _ _ (callAny.viaDunder (.ref C) _) _ _
  refine wpG_bind (wpG_of_any (call.at ?_))
  dsimp only
  rw [tc_bind]
  refine wpG_bind (wpG_pure (wpG_bind (wpG_pure ?_)))
  refine wpG_pure (a := Fin.again (.call (.builtin "type.__call__") ⟨.ref C :: rest, []⟩)) (And.intro rfl ?_)
  refine codeG_call_builtin (Code.quiet_builtin _ (by decide +kernel)) entry_typeCall (by decide +kernel) (wpG_of_any (check_slot tc_kind tc_split typ (tc_args _ _ _) ?_))
  have hmr : Looks (model prog w) h (mroOf (.ref C)) cd.mro := ((Looks.ld (part := none) hC).andThen .now).andThen .now
  refine wpG_bind (wpG_of_any (hmr.at ?_))
  rw [e4, if_neg Bool.false_ne_true]
  refine wpG_bind (wpG_of_any (made.at ?_))
  refine wpG_bind (wpG_pure ?_)
  refine wpG_bind (wpG_holding (wpG_call (codeG_of_any (codeAny_mono (R := fun r s' => match r with | .ok f => RetG (fun v s' => v = .ref (h.objs.size + 1) ∧ s' = ⟨(h.push emptyDict).push (instObj C h.objs.size), g, d, t, os⟩) f s' | .error _ => False)
    (new_K Y' hi (.inl rfl) ⟨rfl, rfl⟩) fun r s' x => ?_))))
  rcases r with e | (v | _ | _ | _) <;> first | exact x | exact x.elim | skip
  obtain ⟨rfl, rfl⟩ := x
  have k : ∀ b o, h.get? b = some o → ((h.push emptyDict).push (instObj C h.objs.size)).get? b = some o := fun b o e => Heap.get?_push_of_some _ (Heap.get?_push_of_some _ e)
  have hx : ((h.push emptyDict).push (instObj C h.objs.size)).get? (h.objs.size + 1) = some (instObj C h.objs.size) := by heap_get
  have t1 : Looks (model prog w) ((h.push emptyDict).push (instObj C h.objs.size)) (typeOf (.ref (h.objs.size + 1))) (.ref C) := (Looks.ld hx).andThen .now
  have s1 := self.keeps k
  have i1 := hi.keeps k
  have b1 := (bind_fn (M := model prog w) X (.ref (h.objs.size + 1)) hf).keeps k
  refine wpG_bind (m := isInstance _ _) (wpG_of_any ((Looks.andThen (f := fun t => isSubtype t (.ref C)) t1 s1).at ?_))
  refine wpG_bind (wpG_holding ?_)
  refine wpG_bind (wpG_bind (wpG_of_any (t1.at ?_)))
  refine wpG_of_any (i1.at ?_)
  refine wpG_holding (wpG_bind (wpG_of_any (b1.at ?_)))
  refine wpG_bind (wpG_call (codeG_mono hq fun fl s' z => ?_))
  induction fl using PySem.Flow.casesOn with
  | ret v =>
    obtain ⟨rfl, z⟩ := z
    exact wpG_pure (wpG_pure z)
  | _ => exact z.elim

theorem under_tc (A : Around) (C : Addr) (rest : List Value) : (A.under (.builtin "type.__call__" ⟨.ref C :: rest, []⟩)).handled = A.handled ∧ (A.under (.builtin "type.__call__" ⟨.ref C :: rest, []⟩)).depth = A.depth + 1 ∧
    (A.under (.builtin "type.__call__" ⟨.ref C :: rest, []⟩)).units = A.units + 1 := ⟨rfl, rfl, rfl⟩

theorem new_sound {n : Nat} (F : Fix K hb) (TO : TabOk K T) (CO : CallsOk prog w hb n C) (hA : RoomE n A) (I : Inv hb σ s) {c : Nat} {Ws : List V} {vs : List Value} {Q : K1} (r : RepL s.heap Ws vs) (h : newP T C c Ws σ Q) :
    codeG (model prog w) A (.call (.ref c) ⟨vs, []⟩) (RetG (Post hb σ s Q)) s := by
  unfold newP at h
  split at h
  · rename_i f hi
    have k := TO.init _ _ hi
    simp only [initOk, Bool.and_eq_true, beq_iff_eq] at k
    obtain ⟨⟨k1, k2⟩, k3⟩ := k
    obtain ⟨hp, g, d, tk, os⟩ := s
    have kk : ∀ b o, hp.get? b = some o → ((hp.push emptyDict).push (instObj c hp.objs.size)).get? b = some o := fun b o e => Heap.get?_push_of_some _ (Heap.get?_push_of_some _ e)
    have hx : ((hp.push emptyDict).push (instObj c hp.objs.size)).get? (hp.objs.size + 1) = some (instObj c hp.objs.size) := by heap_get
    have hd : ((hp.push emptyDict).push (instObj c hp.objs.size)).get? hp.objs.size = some emptyDict := Heap.get?_push_of_some _ (Heap.get?_push_size _ rfl)
    have hfree : hp.get? (hp.objs.size + 1) = none := by
      induction e9 : hp.get? (hp.objs.size + 1) using Option.casesOn with
      | none => rfl
      | some o => exact absurd (Heap.lt_size e9) (by lia : ¬ hp.objs.size + 1 < hp.objs.size)
    obtain ⟨I', X'⟩ := I.adopt (s' := ⟨(hp.push emptyDict).push (instObj c hp.objs.size), g, d, tk, os⟩) (a := hp.objs.size + 1) (ao := .inst c []) kk ⟨_, [], 0, rfl, hx, hd, Nat.le_refl _, ⟨(fun e he => nomatch he), fun f V _ e => by simp [getF] at e⟩⟩
      (fun b x => by
        rcases x with rfl | ⟨C, fs, _, e⟩
        · exact hfree
        · obtain rfl : hp.objs.size = b := Nat.succ.inj e
          exact size_free _) rfl rfl
    have q := h (hp.objs.size + 1) (I.fresh hfree)
    obtain ⟨u1, u2, u3⟩ := under_tc A c vs
    have hA' : RoomX n (A.under (.builtin "type.__call__" ⟨.ref c :: vs, []⟩)) := ⟨u1.trans hA.1, by have := hA.2.1; lia, by have := hA.2.2; lia⟩
    refine make_G (F.into I) k1 k2 k3 (codeG_mono (CO _ hA' f _ (.ref (hp.objs.size + 1) :: vs) _ _ _ I' ?_ q) fun fl s' x => ?_)
    · exact ⟨_, _, rfl, by rfl, r.keep fun b o e _ => kk b o e⟩
    · induction fl using PySem.Flow.casesOn with
      | ret v =>
        obtain ⟨W, τ, ⟨rfl, q⟩, rv, I2, X2⟩ := x
        subst rv
        exact ⟨rfl, _, _, q, by rfl, I2, X'.trans X2⟩
      | _ => exact x.elim
  · exact h.elim

/-- a call's arguments, then the call -/
theorem callWith_G {pos : Pos} {f : Value} {first : List Value} {args : List (Bool × Sem Value)} {Q : Value → Shared → Prop} (hplain : args.any (·.1) = false) (hk : isKeeper (model prog w) K f)
    (h : wpG (model prog w) A (spliced args) (fun vs s₁ => K.In s₁.heap ∧ wpG (model prog w) A (call f (first ++ vs)) Q s₁) s) : wpG (model prog w) A (callWith pos f first args []) Q s := by
  have ev : wpG (model prog w) A (evalArgs f true args []) (fun a s₁ => K.In s₁.heap ∧ a.kw = [] ∧ wpG (model prog w) A (call f (first ++ a.pos)) Q s₁) s := by
    match args, hplain, h with
    | [], _, h =>
      show wpG _ _ (spliced [] >>= _) _ _
      exact wpG_bind (wpG_mono h fun vs s₁ x => wpG_bind (wpG_pure (wpG_holding (wpG_bind (wpG_pure (wpG_bind (wpG_pure (wpG_pure ⟨x.1, rfl, x.2⟩))))))))
    | (false, x) :: r, _, h =>
      show wpG _ _ (spliced ((false, x) :: r) >>= _) _ _
      exact wpG_bind (wpG_mono h fun vs s₁ x => wpG_bind (wpG_pure (wpG_holding (wpG_bind (wpG_pure (wpG_bind (wpG_pure (wpG_pure ⟨x.1, rfl, x.2⟩))))))))
    | (true, x) :: r, hp, _ => simp at hp
  refine wpG_bind (wpG_holding (wpG_mono ev fun a s₁ h₁ => wpG_bind (wpG_standAt ?_)))
  obtain ⟨X, hkw, hc⟩ := h₁
  obtain ⟨k, hk', L⟩ := hk _ X
  simp only [hplain, List.any_nil, Bool.or_false, hkw]
  refine wpG_bind (wpG_of_any (L.here ?_))
  have tail : ∀ {t : Sem Value}, wpG (model prog w) A t Q s₁ → wpG (model prog w) A (t >>= fun r => holding [r] point >>= fun _ => pure r) Q s₁ :=
    fun ht => wpG_bind (wpG_mono ht fun r s₂ hr => wpG_bind (wpG_holding (wpG_point (wpG_pure hr))))
  have marked (mk : Value) : wpG (model prog w) A (callMarked mk f (first ++ a.pos) []) Q s₁ := by exact wpG_keep hc
  rcases hk' with rfl | rfl | rfl <;> dsimp only <;> first | exact tail hc | (split <;> first | exact tail hc | exact tail (marked _))
end
end Mine
end
section
set_option backward.match.sparseCases false
open PySem PySem.W PyProof.Rows PySem.Calls
open PySem.Sem (wp)
set_option maxRecDepth 100000
namespace Mine
/-- an object of the walk's own, laid behind the state s₀ -/
noncomputable def OwnAt (hb : Heap) (s₀ : Shared) (σ : Hp) (s : Shared) (b : Addr) : Prop := hb.get? b = none ∧ s₀.heap.get? b = none ∧ ¬ Foot σ b ∧ ∃ o, s.heap.get? b = some o
/-- the iterator of what a loop runs over, before its turn i -/
noncomputable def IterOk (src : V) (it : Addr) (i : Nat) (all : List V) (h : Heap) : Prop := match src with
  | .ref x => h.IsListIter it x i
  | .tup Ws => all = Ws ∧ ∃ t vs n, h.IsTupleIter it t i ∧ h.get? t = some (tupOf vs n) ∧ RepL h Ws vs
  | .range lo hi => all = ((List.range (hi - lo).toNat).map fun (k : Nat) => V.int (lo + (k : Int))) ∧ IsRangeIter h it (lo + i) ((hi - lo).toNat - i : Int) 1
  | _ => False
theorem OwnAt.keep {hb s₀ σ s σ' s' b} (O : OwnAt hb s₀ σ s b) (X : Ext σ s σ' s') : OwnAt hb s₀ σ' s' b := by
  obtain ⟨h1, h2, h3, o, h4⟩ := O
  refine ⟨h1, h2, fun hF => ?_, o, X.keep b o h4 h3⟩
  rcases X.foot b hF with f | f
  · exact h3 f
  · rw [h4] at f; cases f
theorem OwnAt.sub {hb s₀ σ s τ b} (O : OwnAt hb s₀ σ s b) (h : Sub τ σ) : OwnAt hb s₀ τ s b := ⟨O.1, O.2.1, fun f => O.2.2.1 (h.foot f), O.2.2.2⟩

theorem IterOk.keep {src : V} {it i all} {h h' : Heap} (x : IterOk src it i all h) (k : ∀ b o, h.get? b = some o → fixedO o → h'.get? b = some o) (ki : ∀ o, h.get? it = some o → h'.get? it = some o) : IterOk src it i all h' := by
  unfold IterOk at x ⊢
  split at x
  · obtain ⟨o, a, b⟩ := x; exact ⟨o, ki o a, b⟩
  · obtain ⟨e, t, vs, n, ⟨o, a, b⟩, g, r⟩ := x
    exact ⟨e, t, vs, n, ⟨o, ki o a, b⟩, k _ _ g (.inl ⟨_, _, rfl⟩), r.keep k⟩
  · exact ⟨x.1, ki _ x.2⟩
  · exact x
theorem IterOk.nofix {src : V} {it i all} {h : Heap} (x : IterOk src it i all h) : ∀ o, h.get? it = some o → ¬ fixedO o := fun o e hf => by
  induction src using V.casesOn with
  | ref _ =>
    obtain ⟨o', a, b, c⟩ := x
    obtain rfl := Option.some.inj (e.symm.trans a)
    rcases hf with ⟨_, _, rfl⟩ | ⟨_, _, _, _, _, rfl⟩ <;> simp at b
  | tup _ =>
    obtain ⟨_, t, vs, n, ⟨o', a, b, c⟩, g, r⟩ := x
    obtain rfl := Option.some.inj (e.symm.trans a)
    rcases hf with ⟨_, _, rfl⟩ | ⟨_, _, _, _, _, rfl⟩ <;> simp at b
  | range _ _ =>
    have a := x.2
    unfold IsRangeIter at a
    obtain rfl := Option.some.inj (e.symm.trans a)
    rcases hf with ⟨_, _, h⟩ | ⟨_, _, _, _, _, h⟩ <;> simp at h
  | _ => exact x
theorem itemsR {σ : Hp} {x : Nat} {all : List V} (h : itemsOf σ (.ref x) = some all) : σ x = some (.lst all) := by
  refine Classical.byContradiction fun hn => ?_
  replace h : (match σ x with
    | some (.lst vs) => some vs
    | _ => none) = some all := h
  rcases e : σ x with _ | o
  · rw [e] at h; exact noneSome h
  · rw [e] at h
    rcases o with vs | _ | _
    · exact hn (by rw [e, Option.some.inj h])
    · exact noneSome h
    · exact noneSome h

section
variable {prog : Program} {w : World} {A : Around} {hb : Heap} {σ : Hp} {s s₀ : Shared} {c : Cx} {env : Env} {ρ : Rho} {K : Frag} {σ₀ : Hp}
theorem Inv.otherX (I : Inv hb σ s) {b : Addr} {s' : Shared} (hs : Heap.ExtBut b s.heap s'.heap) (h1 : hb.get? b = none) (h2 : ¬ Foot σ b) (hf : ∀ o, s.heap.get? b = some o → ¬ fixedO o) : Inv hb σ s' := by
  have k : ∀ c, c ≠ b → ∀ o, s.heap.get? c = some o → s'.heap.get? c = some o := fun c hc o e => hs c o hc e
  refine ⟨fun c o e => ?_, fun a o e => ?_, I.new⟩
  · have : c ≠ b := fun q => by rw [q, h1] at e; cases e
    exact k c this o (I.base c o e)
  · refine (I.rep a o e).keep (fun c o' e' f => ?_) (fun c o' q e' => ?_)
    · refine k c (fun z => ?_) o' e'
      subst z; exact hf _ e' f
    · refine k c (fun z => ?_) o' e'
      subst z; exact h2 ⟨a, o, e, q⟩
theorem Ext.otherX (X : Ext σ₀ s₀ σ s) {b : Addr} {s' : Shared} (hs : Heap.ExtBut b s.heap s'.heap) (h0 : s₀.heap.get? b = none) (hg : s'.gens = s.gens) (ho : s'.os = s.os) : Ext σ₀ s₀ σ s' :=
  ⟨X.foot, fun c o e n => hs c o (fun z => by rw [z, h0] at e; cases e) (X.keep c o e n), hg.trans X.gens, ho.trans X.os, fun c o e => by
    obtain ⟨o', e'⟩ := X.ex c o e
    exact ⟨o', hs c o' (fun z => by rw [z, h0] at e; cases e) e'⟩⟩
theorem EnvOk.otherX (E : EnvOk hb c env σ ρ s) {b : Addr} {s' : Shared} (hs : Heap.ExtBut b s.heap s'.heap) (hl : b ≠ env.locals) (hc : ∀ n, env.cells.lookup n ≠ some b) (hf : ∀ o, s.heap.get? b = some o → ¬ fixedO o) : EnvOk hb c env σ ρ s' := by
  have k : ∀ c, c ≠ b → ∀ o, s.heap.get? c = some o → s'.heap.get? c = some o := fun c hc o e => hs c o hc e
  have kf : ∀ c o, s.heap.get? c = some o → fixedO o → s'.heap.get? c = some o := fun c o e f => k c (fun z => by subst z; exact hf _ e f) o e
  have ko : ∀ a, (a = env.locals ∨ ∃ n, env.cells.lookup n = some a) → a ≠ b := fun a ha z => by
    subst z
    rcases ha with rfl | ⟨n, h⟩
    · exact hl rfl
    · exact hc n h
  refine ⟨E.fn, E.gl, E.bl, E.glob, E.inj, E.lt, ?_, ?_, E.celn, E.apart, E.off, ?_, fun a ha o' e' => by
    obtain ⟨_, _, o, h3⟩ := E.own a ha
    have := k a (ko a ha) o h3
    rw [e'] at this; cases this
    exact E.nfx a ha _ h3⟩
  · obtain ⟨m, hn, h⟩ := E.loc
    refine ⟨m, hn.at fun o e => k _ (ko _ (.inl rfl)) o e, fun n x hs hk V e => ?_⟩
    obtain ⟨v, a, b⟩ := h n x hs hk V e
    exact ⟨v, a, b.keep kf⟩
  · intro n x hs hk
    obtain ⟨h1, a, ov, h2, h3, h4⟩ := E.cel n x hs hk
    refine ⟨h1, a, ov, h2, IsCell_keep h3 fun o e => k _ (ko _ (.inr ⟨n, h2⟩)) o e, fun V e => ?_⟩
    obtain ⟨v, a, b⟩ := h4 V e
    exact ⟨v, a, b.keep kf⟩
  · intro a ha
    obtain ⟨h1, h2, o, h3⟩ := E.own a ha
    exact ⟨h1, h2, o, k a (ko a ha) o h3⟩
theorem range_len {lo hi : Int} {i : Nat} {W : V} (h : ((List.range (hi - lo).toNat).map fun (k : Nat) => V.int (lo + (k : Int)))[i]? = some W) : i < (hi - lo).toNat ∧ W = .int (lo + i) := by
  rw [List.getElem?_map] at h
  obtain ⟨j, h1, rfl⟩ := Option.map_eq_some_iff.mp h
  obtain ⟨hlt, h2⟩ := List.getElem?_eq_some_iff.mp h1
  simp at hlt h2
  subst h2; exact ⟨by lia, rfl⟩

/-- the iterator is made -/
theorem span62 {lo hi : Int} (h1 : lo.natAbs < 2 ^ 60) (h2 : hi.natAbs < 2 ^ 60) : (hi - lo).toNat < 2 ^ 62 := by
  have a := @Int.natAbs_sub_le hi lo
  have b : (hi - lo).toNat ≤ (hi - lo).natAbs := by
    rcases hi - lo with n | n
    · exact Nat.le_refl _
    · exact Nat.zero_le _
  lia
theorem abs63 {i : Int} (h : i.natAbs < 2 ^ 60) : -2 ^ 63 ≤ i ∧ i < 2 ^ 63 := ⟨by lia, by lia⟩
theorem iter_sound (I : Inv hb σ s) {src : V} {v : Value} {all : List V} {Q : Value → Shared → Prop} (r : Rep s.heap src v) (hi : itemsOf σ src = some all) (_hl : all.length ≤ lim)
    (h : ∀ o, let s' : Shared := { s with heap := s.heap.push o }; o.isFreed = false → IterOk src s.heap.objs.size 0 all s'.heap → Q (.ref s.heap.objs.size) s') : wpG (model prog w) A (pyIter v) Q s := by
  induction src using V.casesOn with
  | tup Ws =>
    obtain rfl := Option.some.inj hi
    obtain ⟨t, vs, n, rfl, g, rl⟩ := r
    exact wpG_of_any (wpAny_pyIter_tuple (isTuple_of g) (h _ rfl ⟨rfl, t, vs, n, ⟨_, Heap.get?_push_size _ rfl, rfl, rfl⟩, push_keep _ _ _ _ g, rl.keep fun b o e _ => push_keep _ _ b o e⟩))
  | range lo hi' =>
    obtain rfl := Option.some.inj hi
    obtain ⟨a, t, u, y, rfl, g, h1, h2⟩ := r
    have e0 : Builtin.Range.rangeSize lo hi' 1 = ((hi' - lo).toNat : Int) := by rw [rangeSize_one]; split <;> lia
    refine wpG_of_any (wpAny_pyIter_range (r := a) (a := lo) (b := hi') (c := 1) g ?_ ?_)
    · have hN : (hi' - lo).toNat < 2 ^ 62 := span62 h1 h2
      unfold Builtin.Range.small
      rw [e0]
      generalize (hi' - lo).toNat = N at hN
      simp only [Builtin.Range.rangeFitsLong, Bool.and_eq_true, Bool.or_eq_true, decide_eq_true_eq, beq_iff_eq]
      simp only [show (1 : Int) > 0 by decide, if_true]
      refine ⟨⟨⟨⟨abs63 h1, abs63 h2⟩, by decide⟩, by lia, by lia⟩, .inr ?_⟩
      simp only [Int.sub_self, Int.add_zero, Bool.and_eq_true, decide_eq_true_eq]
      exact abs63 h2
    · rw [e0]
      exact h _ rfl ⟨rfl, by unfold IsRangeIter; rw [Heap.get?_push_size _ rfl]; simp⟩
  | ref x =>
    obtain rfl : v = .ref x := r
    obtain ⟨us, n, g, rl⟩ := I.rep _ _ (itemsR hi)
    exact wpG_of_any (wpAny_pyIter_list (isList_of g) (h _ rfl ⟨_, Heap.get?_push_size _ rfl, rfl, rfl⟩))
  | _ => exact noneSome hi

/-- the iterator is asked, and has something -/
theorem next_sound (I : Inv hb σ s) {src : V} {it : Addr} {i : Nat} {all : List V} {W : V} {Q : Option Value → Shared → Prop} (x : IterOk src it i all s.heap) (hi : itemsOf σ src = some all) (hW : all[i]? = some W) (hO : ¬ Foot σ it)
    (h : ∀ v h' tk, Heap.SameBut it s.heap h' → IterOk src it (i + 1) all h' → Rep h' W v → Q (some v) { s with heap := h', toks := tk }) : wpG (model prog w) A (pyNext (.ref it)) Q s := by
  have nf := x.nofix
  induction src using V.casesOn with
  | ref a =>
    obtain ⟨us, n, g, rl⟩ := I.rep _ _ (itemsR hi)
    obtain ⟨u, hu, ru⟩ := rl.get hW
    exact wpG_of_any (wpAny_pyNext_list_item x (isList_of g) (by simpa using hu) fun h' hit hs => h u h' s.toks hs hit (ru.other hs nf))
  | tup Ws =>
    obtain ⟨rfl, t, vs, n, x, g, rl⟩ := x
    obtain ⟨u, hu, ru⟩ := rl.get hW
    have hne : t ≠ it := fun z => by subst z; exact nf _ g (.inl ⟨_, _, rfl⟩)
    exact wpG_of_any (wpAny_pyNext_tuple_item x (isTuple_of g) (by simpa using hu) fun h' hit hs => h u h' s.toks hs ⟨rfl, t, vs, n, hit, (hs.2 t hne).trans g, rl.keep fun b o e f => (hs.2 b (fun z => by subst z; exact nf _ e f)).trans e⟩ (ru.other hs nf))
  | range lo hi' =>
    obtain ⟨rfl, x⟩ := x
    obtain ⟨hlt, rfl⟩ := range_len hW
    refine wpG_of_any (wpAny_pyNext_range_item x (by lia) fun h' hit hs => h _ h' _ hs ⟨rfl, ?_⟩ ⟨_, rfl⟩)
    have e1 : lo + (i : Int) + 1 = lo + ((i + 1 : Nat) : Int) := by rw [Int.add_assoc]; rfl
    have e2 : ((hi' - lo).toNat : Int) - i - 1 = ((hi' - lo).toNat : Int) - ((i + 1 : Nat) : Int) := by rw [Int.sub_sub]; rfl
    rw [← e1, ← e2]; exact hit
  | _ => exact False.elim x
theorem next_end_sound (hh : A.handled = none) (I : Inv hb σ s) {src : V} {it : Addr} {all : List V} {Q : Option Value → Shared → Prop} (x : IterOk src it all.length all s.heap) (hi : itemsOf σ src = some all)
    (h : ∀ h', Heap.ExtBut it s.heap h' → Q none { s with heap := h' }) : wpG (model prog w) A (pyNext (.ref it)) Q s := by
  induction src using V.casesOn with
  | ref a =>
    obtain ⟨us, n, g, rl⟩ := I.rep _ _ (itemsR hi)
    exact wpG_of_any (wpAny_pyNext_list_end hh x (isList_of g) (by simp [rl.length]) h)
  | tup Ws =>
    obtain ⟨rfl, t, vs, n, x, g, rl⟩ := x
    exact wpG_of_any (wpAny_pyNext_tuple_end hh x (isTuple_of g) (by simp [rl.length]) h)
  | range lo hi' =>
    obtain ⟨rfl, x⟩ := x
    exact wpG_of_any (wpAny_pyNext_range_end hh x (by simp) h)
  | _ => exact False.elim x
end
end Mine
end
section
set_option backward.match.sparseCases false
open PySem PySem.W PyProof.Rows PySem.Calls
open PySem.Sem (wp)
set_option maxRecDepth 100000
namespace Mine
/-- the lists that nobody writes -/
noncomputable def ConOk (hb : Heap) (T : Tab) : Prop := ∀ x vs, T.con x = some vs → ∃ us : List Value, hb.IsList x us.toArray ∧ ∀ h, RepL h vs us
structure Base (prog : Program) (w : World) (hb : Heap) (K : Frag) (T : Tab) (C : Calls) (n : Nat) : Prop where
  F : Fix K hb
  TO : TabOk K T
  CO : CallsOk prog w hb n C
  CN : ConOk hb T
section
variable (prog : Program) (w : World) (hb : Heap) (T : Tab) (C : Calls) (n : Nat) (c : Cx)
noncomputable def SE (e : PySem.Expr) (x : E) : Prop := ∀ A, RoomE n A → ∀ env ρ σ s Q, EnvOk hb c env σ ρ s → Inv hb σ s → wpE T C x ρ σ Q → wpG (model prog w) A (eval e env) (Post hb σ s Q) s
noncomputable def SB (e : PySem.Expr) (x : E) : Prop := ∀ A, RoomE n A → ∀ env ρ σ s Q, EnvOk hb c env σ ρ s → Inv hb σ s → wpB T C x ρ σ Q → wpG (model prog w) A (isTrue e env (eval e env)) (PostB hb σ s Q) s
noncomputable def SL (es : List PySem.Expr) (xs : List E) : Prop := ∀ A, RoomE n A → ∀ env ρ σ s Q pos, EnvOk hb c env σ ρ s → Inv hb σ s → wpL T C xs ρ σ Q → wpG (model prog w) A (spliced (backTo pos (starEach es env))) (PostL hb σ s Q) s
noncomputable def boolOf : Bool → BoolOp | true => .And | false => .Or
noncomputable def SO (es : List PySem.Expr) (xs : List E) : Prop := ∀ A, RoomE n A → ∀ env ρ σ s Q pos t, EnvOk hb c env σ ρ s → Inv hb σ s → wpO T C t xs ρ σ Q → wpG (model prog w) A (boolOp pos (boolOf t) (evalEach es env)) (Post hb σ s Q) s
noncomputable def SBs (es : List PySem.Expr) (xs : List E) : Prop := ∀ A, RoomE n A → ∀ env ρ σ s Q t, EnvOk hb c env σ ρ s → Inv hb σ s → wpBs T C t xs ρ σ Q → wpG (model prog w) A (allTrue (boolOf t) es env) (PostB hb σ s Q) s
noncomputable abbrev testsOf (ifs : List PySem.Expr) (env : Env) (b : Bool) : Sem Bool := forIn ifs b fun c r => if r = true then do let ok ← isTrue c env (eval c env); pure (ForInStep.yield ok) else pure (ForInStep.yield r)
noncomputable def SAs (es : List PySem.Expr) (xs : List E) : Prop := ∀ A, RoomE n A → ∀ env ρ σ s Q, EnvOk hb c env σ ρ s → Inv hb σ s → wpA T C xs ρ σ Q → wpG (model prog w) A (testsOf es env true) (PostB hb σ s Q) s
end
section
variable {prog : Program} {w : World} {A : Around} {hb : Heap} {σ : Hp} {s : Shared} {c : Cx} {env : Env} {ρ : Rho} {K : Frag} {T : Tab} {C : Calls} {n : Nat}

theorem SE.then_ {e : PySem.Expr} {x : E} (h : SE prog w hb T C n c e x) (hA : RoomE n A) (E : EnvOk hb c env σ ρ s) (I : Inv hb σ s) {R : K1} (q : wpE T C x ρ σ R) {Q : Value → Shared → Prop}
    (k : ∀ v s₁ W σ₁, R W σ₁ → Rep s₁.heap W v → Inv hb σ₁ s₁ → Ext σ s σ₁ s₁ → EnvOk hb c env σ₁ ρ s₁ → Q v s₁) : wpG (model prog w) A (eval e env) Q s :=
  wpG_mono (h A hA env ρ σ s R E I q) fun v s₁ ⟨W, σ₁, q, r, I₁, X₁⟩ => k v s₁ W σ₁ q r I₁ X₁ (E.keep I X₁)
theorem SE.bind {e : PySem.Expr} {x : E} (h : SE prog w hb T C n c e x) (hA : RoomE n A) (E : EnvOk hb c env σ ρ s) (I : Inv hb σ s) {R : K1} (q : wpE T C x ρ σ R) {α : Type} {f : Value → Sem α} {Q : α → Shared → Prop}
    (k : ∀ v s₁ W σ₁, R W σ₁ → Rep s₁.heap W v → Inv hb σ₁ s₁ → Ext σ s σ₁ s₁ → EnvOk hb c env σ₁ ρ s₁ → wpG (model prog w) A (f v) Q s₁) : wpG (model prog w) A (eval e env >>= f) Q s :=
  wpG_bind (h.then_ hA E I q k)
theorem SB.then_ {e : PySem.Expr} {x : E} (h : SB prog w hb T C n c e x) (hA : RoomE n A) (E : EnvOk hb c env σ ρ s) (I : Inv hb σ s) {R : Bool → Hp → Prop} (q : wpB T C x ρ σ R) {Q : Bool → Shared → Prop}
    (k : ∀ b s₁ σ₁, R b σ₁ → Inv hb σ₁ s₁ → Ext σ s σ₁ s₁ → EnvOk hb c env σ₁ ρ s₁ → Q b s₁) : wpG (model prog w) A (isTrue e env (eval e env)) Q s :=
  wpG_mono (h A hA env ρ σ s R E I q) fun v s₁ ⟨σ₁, q, I₁, X₁⟩ => k v s₁ σ₁ q I₁ X₁ (E.keep I X₁)
theorem SL.then_ {es : List PySem.Expr} {xs : List E} (h : SL prog w hb T C n c es xs) (hA : RoomE n A) (E : EnvOk hb c env σ ρ s) (I : Inv hb σ s) {R : List V → Hp → Prop} (q : wpL T C xs ρ σ R) {pos : Pos} {Q : List Value → Shared → Prop}
    (k : ∀ vs s₁ Ws σ₁, R Ws σ₁ → RepL s₁.heap Ws vs → Inv hb σ₁ s₁ → Ext σ s σ₁ s₁ → EnvOk hb c env σ₁ ρ s₁ → Q vs s₁) : wpG (model prog w) A (spliced (backTo pos (starEach es env))) Q s :=
  wpG_mono (h A hA env ρ σ s R pos E I q) fun v s₁ ⟨W, σ₁, q, r, I₁, X₁⟩ => k v s₁ W σ₁ q r I₁ X₁ (E.keep I X₁)
theorem Ext.rep {σ' s'} (X : Ext σ s σ' s') (I : Inv hb σ s) {W : V} {v : Value} (r : Rep s.heap W v) : Rep s'.heap W v := r.keep (X.fixed I)
theorem Ext.repL {σ' s'} (X : Ext σ s σ' s') (I : Inv hb σ s) {W : List V} {v : List Value} (r : RepL s.heap W v) : RepL s'.heap W v := r.keep (X.fixed I)
theorem PostB.after {σ' s' s''} {Q : Bool → Hp → Prop} {b : Bool} (X : Ext σ s σ' s') (p : PostB hb σ' s' Q b s'') : PostB hb σ s Q b s'' := by
  obtain ⟨τ, a, c, d⟩ := p; exact ⟨τ, a, c, X.trans d⟩

/-! constants, names -/
theorem SE_int (i : Int) (k : Nat) (pos : Pos) : SE prog w hb T C n c (.Constant (.int i) k pos) (.int i) := fun A _ env ρ σ s Q _ I q => by
  exact wpG_of_any (wpAny_Constant_int (.toks I q (by exact ⟨_, rfl⟩)))
theorem SE_none (k : Nat) (pos : Pos) : SE prog w hb T C n c (.Constant .none k pos) .none := fun A _ env ρ σ s Q _ I q => by
  exact wpG_pure (.same I q (by rfl))
theorem SE_bool (b : Bool) (k : Nat) (pos : Pos) : SE prog w hb T C n c (.Constant (.bool b) k pos) (.bool b) := fun A _ env ρ σ s Q _ I q => by
  exact wpG_pure (.same I q (by rfl))
theorem SE_bytes (b : List UInt8) (k : Nat) (pos : Pos) : SE prog w hb T C n c (.Constant (.bytes b) k pos) (.bytes (b.map (·.toNat))) := fun A _ env ρ σ s Q _ I q => by
  refine wpG_of_any ?_
  show wpAny _ _ (mkTextBytes b.toArray) _ _ _
  have h : Post hb σ s Q (.bytes b.toArray s.toks) { s with toks := s.toks + 1 } := .toks I q (by exact ⟨_, _, rfl, by simp [nums]⟩)
  exact fun _ _ _ => h
theorem SE_neg (i : Int) (k : Nat) (p pos : Pos) : SE prog w hb T C n c (.UnaryOp .USub (.Constant (.int i) k p) pos) (.int (-i)) := fun A _ env ρ σ s Q _ I q => by
  rw [arm_eval_UnaryOp]
  exact wpG_bind (wpG_of_any (wpAny_Constant_int (wpG_bind (wpG_standAt (wpG_holding (wpG_of_any (PySem.P.neg_int (.toks I q (by exact ⟨_, rfl⟩)))))))))
theorem SE_var {m : PySem.Str} {x : Nat} (pos : Pos) (hd : (m == ("__debug__" : PySem.Str)) = false) (hx : c.slot m = some x) : SE prog w hb T C n c (.Name m pos) (.var x) := fun A _ env ρ σ s Q E I q => by
  obtain ⟨V, hv, q⟩ := q
  rw [arm_eval_Name]
  refine wpG_bind (wpG_standAt ?_)
  rw [hd, if_neg Bool.false_ne_true]
  exact name_sound E hx hv fun v r => .same I q r

/-- a global name's value -/
noncomputable def gvV : GV → Value → Prop
  | .fn a, v | .cls a, v => v = .ref a
  | .int i, v => ∃ t, v = .int i t
  | .bi b, v => v = biV b
theorem boot_bi : ∀ p ∈ biTab, bootBuiltins (PySem.Str.ofString p.1) = some (biV p.2) ∧ PySem.Str.ofString p.1 ≠ "__name__" := by
  intro p hp
  simp only [biTab, List.mem_cons, List.not_mem_nil, or_false] at hp
  rcases hp with rfl | rfl | rfl | rfl | rfl | rfl | rfl | rfl <;> exact ⟨by decide +kernel, by decide +kernel⟩
theorem glob_in {c : Cx} {m : PySem.Str} {g : GV} (h : c.glob m = some g) : c.sc.names.lookup m = some .globalImplicit ∧ globIn c.K m = some g := by
  refine Classical.byContradiction fun hn => ?_
  replace h : (match c.sc.names.lookup m with
    | some .globalImplicit => globIn c.K m
    | _ => none) = some g := h
  rcases e : c.sc.names.lookup m with _ | k
  · rw [e] at h; exact noneSome h
  · rw [e] at h
    induction k using PySem.NameKind.casesOn with
    | globalImplicit => exact hn ⟨e, h⟩
    | _ => exact noneSome h
theorem globIn_inv {K : Frag} {m : PySem.Str} {g : GV} (h : globIn K m = some g) : (∃ i t, nsIn K mainGlobals m = some (some (.int i t)) ∧ g = .int i) ∨ (∃ a, nsIn K mainGlobals m = some (some (.ref a)) ∧ ((g = .fn a ∧ fnIn K a = true) ∨ g = .cls a)) ∨
    (nsIn K mainGlobals m = some none ∧ ∃ p, biTab.find? (fun p => PySem.Str.ofString p.1 == m) = some p ∧ g = .bi p.2) := by
  refine Classical.byContradiction fun hn => ?_
  replace h : (match nsIn K mainGlobals m with
    | some (some (.int i _)) => some (.int i)
    | some (some (.ref a)) => (match K.lookup a with
        | some ⟨_, _, .func _, _⟩ => some (.fn a)
        | some ⟨_, _, .cls _, _⟩ => some (.cls a)
        | _ => none)
    | some none => (biTab.find? fun p => PySem.Str.ofString p.1 == m).map fun p => .bi p.2
    | _ => none) = some g := h
  rcases e : nsIn K mainGlobals m with _ | _ | v
  · rw [e] at h; exact noneSome h
  · rw [e] at h
    obtain ⟨p, hp, rfl⟩ := Option.map_eq_some_iff.mp h
    exact hn (.inr (.inr ⟨e, p, hp, rfl⟩))
  · rw [e] at h
    induction v using PySem.Value.casesOn with
    | int i t => exact hn (.inl ⟨i, t, e, (Option.some.inj h).symm⟩)
    | ref a =>
      replace h : (match K.lookup a with
        | some ⟨_, _, .func _, _⟩ => some (.fn a)
        | some ⟨_, _, .cls _, _⟩ => some (.cls a)
        | _ => none) = some g := h
      rcases el : K.lookup a with _ | ⟨_, _, dt, _⟩
      · rw [el] at h; exact noneSome h
      · rw [el] at h
        induction dt using PySem.Data.casesOn with
        | func _ => exact hn (.inr (.inl ⟨a, e, .inl ⟨(Option.some.inj h).symm, by unfold fnIn; rw [el]⟩⟩))
        | cls _ => exact hn (.inr (.inl ⟨a, e, .inr (Option.some.inj h).symm⟩))
        | _ => exact noneSome h
    | _ => exact noneSome h
theorem glob_sound (F : Fix K hb) (E : EnvOk hb c env σ ρ s) (I : Inv hb σ s) (hK : c.K = K) {m : PySem.Str} {g : GV} {Q : Value → Shared → Prop} (hg : c.glob m = some g) (h : ∀ v, gvV g v → Q v s) : wpG (model prog w) A (loadName env m) Q s := by
  subst hK
  obtain ⟨hn, hg⟩ := glob_in hg
  have hk := E.glob m hn
  refine wpG_of_any ?_
  unfold loadName
  simp only [Env.blockKind, E.fn, hk, ScopeKind.isAnnotationScope, Bool.false_and, Bool.false_eq_true, if_false]
  unfold loadGlobal
  rw [E.gl, E.bl]
  rcases globIn_inv hg with ⟨i, t, e, rfl⟩ | ⟨a, e, hg⟩ | ⟨e, p, hp, rfl⟩
  · exact wpAny_bind ((looks_nsIn (F.into I) e).here (wpAny_pure (h _ ⟨t, rfl⟩)))
  · refine wpAny_bind ((looks_nsIn (F.into I) e).here (wpAny_pure (h _ ?_)))
    rcases hg with ⟨rfl, _⟩ | rfl <;> rfl
  · refine wpAny_bind ((looks_nsIn (F.into I) e).here ?_)
    obtain ⟨mb, hb1, hb2⟩ := F.bi
    obtain ⟨b1, b2⟩ := boot_bi p (List.mem_of_find?_eq_some hp)
    have hq := List.find?_some hp
    rw [beq_iff_eq.mp hq] at b1 b2
    refine wpAny_bind (wpAny_nsGet (hb1.keeps I.base) ?_)
    rw [hb2 _ b2, b1]
    exact wpAny_pure (h _ rfl)
theorem SE_gint (F : Fix K hb) (hK : c.K = K) {m : PySem.Str} {i : Int} (pos : Pos) (hd : (m == ("__debug__" : PySem.Str)) = false) (hg : c.glob m = some (.int i)) : SE prog w hb T C n c (.Name m pos) (.int i) := fun A _ env ρ σ s Q E I q => by
  rw [arm_eval_Name]
  refine wpG_bind (wpG_standAt ?_)
  rw [hd, if_neg Bool.false_ne_true]
  exact glob_sound F E I hK hg fun v ⟨t, e⟩ => by subst e; exact .same I q (by exact ⟨_, rfl⟩)

/-! operators -/
theorem opOf_of {op : Operator} {o : BOp} (h : bopOf op = some o) : opOf o = op := by induction op using PySem.Operator.casesOn <;> first | exact noneSome h | (obtain rfl := Option.some.inj h; rfl)
theorem copOp_of {op : CmpOp} {o : COp} (h : copOf op = some o) : copOp o = op := by induction op using PySem.CmpOp.casesOn <;> first | exact noneSome h | (obtain rfl := Option.some.inj h; rfl)
theorem SE_bin {l r : PySem.Expr} {a b : E} {op : Operator} {o : BOp} (pos : Pos) (ho : bopOf op = some o) (hl : SE prog w hb T C n c l a) (hr : SE prog w hb T C n c r b) : SE prog w hb T C n c (.BinOp l op r pos) (.bin o a b) := fun A hA env ρ σ s Q E I q => by
  rw [arm_eval_BinOp]
  refine hl.bind hA E I q fun v s₁ W σ₁ q rv I₁ X₁ E₁ => wpG_bind (wpG_holding (hr.then_ hA E₁ I₁ q fun u s₂ W' σ₂ q ru I₂ X₂ E₂ => ?_))
  refine wpG_bind (wpG_standAt (wpG_operate ?_))
  rw [← opOf_of ho]
  exact wpG_mono (bin_sound I₂ (X₂.rep I₁ rv) ru q) fun v s₃ p => Post.after (X₁.trans X₂) p
theorem noMarks {r : PySem.Expr} {k : Nat} {b : E} {op : CmpOp} (h : compE c k r = some b) : behindInMarks op r = false := by
  induction k using Nat.casesOn with
  | zero => exact noneSome h
  | succ k => induction r using PySem.Expr.casesOn <;> first | rfl | exact noneSome h
theorem units_ok (hA : RoomE n A) : A.units + 10 < cLine := by have := hA.2.2; lia
theorem SE_cmp {l r : PySem.Expr} {a b : E} {op : CmpOp} {o : COp} (pos : Pos) (ho : copOf op = some o) (hm : behindInMarks op r = false) (hl : SE prog w hb T C n c l a) (hr : SE prog w hb T C n c r b) : SE prog w hb T C n c (.Compare l [op] [r] pos) (.cmp o a b) := fun A hA env ρ σ s Q E I q => by
  rw [eval_Compare1, markedBehindIn_of_false hm]
  refine hl.bind hA E I q fun v s₁ W σ₁ q rv I₁ X₁ E₁ => wpG_bind (wpG_holding (hr.then_ hA E₁ I₁ q fun u s₂ W' σ₂ q ru I₂ X₂ E₂ => ?_))
  refine wpG_bind (wpG_standAt (wpG_operate ?_))
  rw [← copOp_of ho]
  exact cmp_sound I₂ (X₂.rep I₁ rv) ru q (units_ok hA) fun t q => Post.after (X₁.trans X₂) (.same I₂ q (by rfl))
theorem SB_cmp {l r : PySem.Expr} {a b : E} {op : CmpOp} {o : COp} (pos : Pos) (ho : copOf op = some o) (hm : behindInMarks op r = false) (hl : SE prog w hb T C n c l a) (hr : SE prog w hb T C n c r b) : SB prog w hb T C n c (.Compare l [op] [r] pos) (.cmp o a b) := fun A hA env ρ σ s Q E I q => by
  rw [isTrue_Compare1, markedBehindIn_of_false hm]
  refine hl.bind hA E I q fun v s₁ W σ₁ q rv I₁ X₁ E₁ => wpG_bind (wpG_holding (hr.then_ hA E₁ I₁ q fun u s₂ W' σ₂ q ru I₂ X₂ E₂ => ?_))
  refine wpG_bind (wpG_standAt (wpG_bind (wpG_operate ?_)))
  rw [← copOp_of ho]
  exact cmp_sound I₂ (X₂.rep I₁ rv) ru q (units_ok hA) fun t q => wpG_holding (wpG_of_any (wpAny_truthy_bool (⟨_, q, I₂, X₁.trans X₂⟩)))
theorem SE_not {e : PySem.Expr} {x : E} (pos : Pos) (h : SE prog w hb T C n c e x) : SE prog w hb T C n c (.UnaryOp .Not e pos) (.not x) := fun A hA env ρ σ s Q E I q => by
  rw [arm_eval_UnaryOp]
  refine h.bind hA E I q fun v s₁ W σ₁ q rv I₁ X₁ E₁ => wpG_bind (wpG_standAt (wpG_holding (wpG_holding ?_)))
  show wpG _ _ (truthy v >>= fun b => pure (Value.bool (!b))) _ _
  exact wpG_bind (truth_sound I₁ rv q fun t tk q => wpG_pure (Post.after X₁ (.toks I₁ q (by rfl))))
theorem SB_not {e : PySem.Expr} {x : E} (pos : Pos) (h : SB prog w hb T C n c e x) : SB prog w hb T C n c (.UnaryOp .Not e pos) (.not x) := fun A hA env ρ σ s Q E I q => by
  rw [arm_isTrue_UnaryOp]
  exact wpG_bind (h.then_ hA E I q fun b s₁ σ₁ q I₁ X₁ E₁ => wpG_pure ⟨_, q, I₁, X₁⟩)

/-! and, or -/
theorem SO_nil : SO prog w hb T C n c [] [] := fun A hA env ρ σ s Q pos t E I q => by exact q.elim
theorem SO_cons {e : PySem.Expr} {x : E} {es : List PySem.Expr} {xs : List E} (h : SE prog w hb T C n c e x) (hs : SO prog w hb T C n c es xs) (hl : es = [] ↔ xs = []) : SO prog w hb T C n c (e :: es) (x :: xs) := fun A hA env ρ σ s Q pos t E I q => by
  induction xs using List.casesOn with
  | nil =>
    have := hl.mpr rfl; subst this
    exact h A hA env ρ σ s Q E I q
  | cons y ys =>
    induction es using List.casesOn with
    | nil => exact absurd (hl.mp rfl) (by simp)
    | cons f fs =>
      show wpG _ _ (eval e env >>= _) _ _
      refine h.bind hA E I q fun v s₁ W σ₁ q rv I₁ X₁ E₁ => wpG_bind (wpG_standAt (wpG_bind (wpG_holding (truth_sound I₁ rv q fun b tk q => ?_))))
      have I₂ : Inv hb σ₁ { s₁ with toks := tk } := I₁.heap rfl
      have X₂ : Ext σ s σ₁ { s₁ with toks := tk } := X₁.trans (.heap rfl rfl rfl)
      have E₂ : EnvOk hb c env σ₁ ρ { s₁ with toks := tk } := E₁.keep I₁ (.heap rfl rfl rfl)
      induction t using Bool.casesOn <;> induction b using Bool.casesOn <;> simp only [reduceCtorEq, if_false, if_true] at q
      · exact wpG_mono (hs A hA env ρ σ₁ { s₁ with toks := tk } Q pos false E₂ I₂ q) fun v s₃ p => Post.after X₂ p
      · exact wpG_pure (Post.after X₂ (.same I₂ q rv))
      · exact wpG_pure (Post.after X₂ (.same I₂ q rv))
      · exact wpG_mono (hs A hA env ρ σ₁ { s₁ with toks := tk } Q pos true E₂ I₂ q) fun v s₃ p => Post.after X₂ p
theorem SBs_nil : SBs prog w hb T C n c [] [] := fun A hA env ρ σ s Q t E I q => by
  induction t using Bool.casesOn <;> exact wpG_pure ⟨_, q, I, .refl _ _⟩
theorem SBs_cons {e : PySem.Expr} {x : E} {es : List PySem.Expr} {xs : List E} (h : SB prog w hb T C n c e x) (hs : SBs prog w hb T C n c es xs) : SBs prog w hb T C n c (e :: es) (x :: xs) := fun A hA env ρ σ s Q t E I q => by
  rw [arm_allTrue_cons]
  refine wpG_bind (h.then_ hA E I q fun b s₁ σ₁ q I₁ X₁ E₁ => ?_)
  induction t using Bool.casesOn <;> induction b using Bool.casesOn <;> simp only [reduceCtorEq, if_false, if_true] at q
  · exact wpG_mono (hs A hA env ρ σ₁ s₁ Q false E₁ I₁ q) fun v s₃ p => PostB.after X₁ p
  · exact wpG_pure ⟨_, q, I₁, X₁⟩
  · exact wpG_pure ⟨_, q, I₁, X₁⟩
  · exact wpG_mono (hs A hA env ρ σ₁ s₁ Q true E₁ I₁ q) fun v s₃ p => PostB.after X₁ p
theorem SE_bop {es : List PySem.Expr} {xs : List E} (pos : Pos) (t : Bool) (h : SO prog w hb T C n c es xs) : SE prog w hb T C n c (.BoolOp (boolOf t) es pos) (.bop t xs) := fun A hA env ρ σ s Q E I q => by
  rw [arm_eval_BoolOp]
  exact h A hA env ρ σ s Q pos t E I q
theorem SB_bop {es : List PySem.Expr} {xs : List E} (pos : Pos) (t : Bool) (h : SBs prog w hb T C n c es xs) : SB prog w hb T C n c (.BoolOp (boolOf t) es pos) (.bop t xs) := fun A hA env ρ σ s Q E I q => by
  rw [arm_isTrue_BoolOp]
  exact h A hA env ρ σ s Q t E I q
end
end Mine
end
section
set_option backward.match.sparseCases false
open PySem PySem.W PyProof.Rows PySem.Calls
open PySem.Sem (wp)
set_option maxRecDepth 100000
namespace Mine
section
variable {prog : Program} {w : World} {A : Around} {hb : Heap} {σ : Hp} {s : Shared} {c : Cx} {env : Env} {ρ : Rho} {K : Frag} {T : Tab} {C : Calls} {n : Nat}

/-- the base of an attribute is nothing but a value -/
noncomputable def plainBase : PySem.Expr → Bool
  | .Call (.Name id _) [] [] _ => id != ("super" : PySem.Str)
  | _ => true
theorem base_eq {o : PySem.Expr} {attr : PySem.Str} {whole : Sem Value} (hp : plainBase o = true) : attributeBase o attr env whole = whole := by
  induction o using PySem.Expr.casesOn with
  | Call f as ks p =>
    induction f using PySem.Expr.casesOn with
    | Name id _ =>
      rcases as with _ | _
      · rcases ks with _ | _
        · have hp : (id != ("super" : PySem.Str)) = true := hp
          exact if_pos (by rw [hp]; rfl)
        · rfl
      · rfl
    | _ => rfl
  | _ => rfl
theorem base_G {o : PySem.Expr} {attr : PySem.Str} {whole : Sem Value} {Q : Value → Shared → Prop} (hp : plainBase o = true) (h : wpG (model prog w) A whole Q s) : wpG (model prog w) A (attributeBase o attr env whole) Q s := by
  rw [base_eq hp]; exact h
theorem plainBase_of {k : Nat} {e : PySem.Expr} {x : E} (h : compE c k e = some x) : plainBase e = true := by
  induction k using Nat.casesOn with
  | zero => exact noneSome h
  | succ k =>
    induction e using PySem.Expr.casesOn <;> try rfl
    rename_i f as ks p
    induction f using PySem.Expr.casesOn <;> try rfl
    rename_i id p'
    induction ks using List.casesOn with
    | cons _ _ => exact noneSome h
    | nil =>
      induction as using List.casesOn with
      | cons _ _ => rfl
      | nil =>
      induction hs : (id == ("super" : PySem.Str)) using Bool.casesOn with
      | false => show (id != _) = true; rw [bne, hs]; rfl
      | true =>
        replace h : (if (id == ("__debug__" : PySem.Str) || id == ("super" : PySem.Str) || decide (30 ≤ ([] : List PySem.Expr).length)) = true then none else _) = some x := h
        rw [hs, Bool.or_true, Bool.true_or, if_pos rfl] at h
        exact noneSome h

theorem SE_attr (B : Base prog w hb K T C n) {v : PySem.Expr} {x : E} {f : Nat} (pos : Pos) (hp : plainBase v = true) (h : SE prog w hb T C n c v x) : SE prog w hb T C n c (.Attribute v (attrName f) pos) (.attr x f) := fun A hA env ρ σ s Q E I q => by
  rw [arm_eval_Attribute]
  refine wpG_bind (base_G hp (h.then_ hA E I q fun v s₁ W σ₁ q rv I₁ X₁ E₁ => ?_))
  refine wpG_bind (wpG_standAt (wpG_bind (wpG_holding (attr_sound B.F B.TO I₁ rv q fun X u q ru => ?_))))
  exact wpG_bind (wpG_of_any (wpAny_letTemporaryGo (wpG_pure (Post.after X₁ (.toks I₁ q ru)))))
theorem SE_idx {v i : PySem.Expr} {x y : E} (pos : Pos) (hs : ∀ a b c, i ≠ .Slice a b none c) (h : SE prog w hb T C n c v x) (hi : SE prog w hb T C n c i y) : SE prog w hb T C n c (.Subscript v i pos) (.idx x y) := fun A hA env ρ σ s Q E I q => by
  rw [arm_eval_Subscript]
  refine h.bind hA E I q fun v s₁ W σ₁ q rv I₁ X₁ E₁ => wpG_bind (wpG_holding (hi.then_ hA E₁ I₁ q fun u s₂ W' σ₂ q ru I₂ X₂ E₂ => ?_))
  refine wpG_bind (wpG_standAt ?_)
  show wpG _ _ (subscriptTail _ _ v u) _ _
  exact idx_sound I₂ (X₂.rep I₁ rv) ru q hs fun r W tk q rr => Post.after (X₁.trans X₂) (.toks I₂ q rr)
noncomputable def SOpt (prog : Program) (w : World) (hb : Heap) (T : Tab) (C : Calls) (n : Nat) (c : Cx) (e : Option PySem.Expr) (x : E) : Prop := match e with
  | none => x = .none
  | some e => SE prog w hb T C n c e x
theorem SOpt.then_ {e : Option PySem.Expr} {x : E} (h : SOpt prog w hb T C n c e x) (hA : RoomE n A) (E : EnvOk hb c env σ ρ s) (I : Inv hb σ s) {R : K1} (q : wpE T C x ρ σ R) {Q : Value → Shared → Prop}
    (k : ∀ v s₁ W σ₁, R W σ₁ → Rep s₁.heap W v → Inv hb σ₁ s₁ → Ext σ s σ₁ s₁ → EnvOk hb c env σ₁ ρ s₁ → Q v s₁) : wpG (model prog w) A (valueOrNone (evalOpt e env)) Q s := by
  induction e using Option.casesOn with
  | none =>
    have : x = .none := h
    subst this
    exact wpG_pure (k _ _ _ _ q (by rfl) I (.refl _ _) E)
  | some e => exact SE.then_ h hA E I q k
theorem SE_slc (B : Base prog w hb K T C n) {v : PySem.Expr} {lo hi : Option PySem.Expr} {x l r : E} (pos p : Pos) (h : SE prog w hb T C n c v x) (hl : SOpt prog w hb T C n c lo l) (hh : SOpt prog w hb T C n c hi r) :
    SE prog w hb T C n c (.Subscript v (.Slice lo hi none p) pos) (.slc x l r) := fun A hA env ρ σ s Q E I q => by
  rw [arm_eval_Subscript]
  refine h.bind hA E I q fun v s₁ W σ₁ q rv I₁ X₁ E₁ => wpG_bind (wpG_holding ?_)
  rw [arm_eval_Slice]
  refine wpG_bind (hl.then_ hA E₁ I₁ q fun vl s₂ Wl σ₂ q rl I₂ X₂ E₂ => wpG_bind (wpG_holding (hh.then_ hA E₂ I₂ q fun vh s₃ Wh σ₃ q rh I₃ X₃ E₃ => ?_)))
  refine wpG_bind (wpG_holding (wpG_pure (a := Value.none) ?_))
  refine wpG_of_any (wpAny_newObj_type ?_)
  refine wpG_bind (wpG_standAt ?_)
  show wpG _ _ (subscriptTail _ _ v _) _ _
  exact wpG_mono (slc_sound I₃ (X₃.rep I₂ (X₂.rep I₁ rv)) (X₃.rep I₂ rl) rh q (fun x vs e => by
    obtain ⟨us, ⟨o, g, g2⟩, r⟩ := B.CN x vs e
    exact ⟨us, ⟨o, I₃.base _ _ g, g2⟩, r _⟩) ⟨_, _, _, rfl⟩) fun v s₄ p => Post.after (X₁.trans (X₂.trans X₃)) p

/-! lists of expressions -/
theorem SL_nil : SL prog w hb T C n c [] [] := fun A hA env ρ σ s Q pos E I q => by
  exact wpG_pure ⟨_, _, q, by rfl, I, .refl _ _⟩
theorem SL_cons {e : PySem.Expr} {x : E} {es : List PySem.Expr} {xs : List E} (hst : ∀ env, starEach (e :: es) env = (false, eval e env) :: starEach es env) (h : SE prog w hb T C n c e x) (hs : SL prog w hb T C n c es xs) :
    SL prog w hb T C n c (e :: es) (x :: xs) := fun A hA env ρ σ s Q pos E I q => by
  rw [hst]
  show wpG _ _ (spliced ((false, eval e env) :: backTo pos (starEach es env))) _ _
  show wpG _ _ (eval e env >>= _) _ _
  refine h.bind hA E I q fun v s₁ W σ₁ q rv I₁ X₁ E₁ => wpG_bind (wpG_pure (wpG_bind (wpG_holding (hs.then_ hA E₁ I₁ q fun vs s₂ Ws σ₂ q rs I₂ X₂ E₂ => wpG_pure ?_))))
  exact ⟨_, _, q, by exact ⟨v, vs, rfl, X₂.rep I₁ rv, rs⟩, I₂, X₁.trans X₂⟩
theorem starE {k : Nat} {e : PySem.Expr} {x : E} (h : compE c k e = some x) (es : List PySem.Expr) (env : Env) : starEach (e :: es) env = (false, eval e env) :: starEach es env := by
  induction k using Nat.casesOn with
  | zero => exact noneSome h
  | succ k => induction e using PySem.Expr.casesOn <;> first | rfl | exact noneSome h
theorem SE_list {es : List PySem.Expr} {xs : List E} (pos : Pos) (h : SL prog w hb T C n c es xs) : SE prog w hb T C n c (.List es pos) (.list xs) := fun A hA env ρ σ s Q E I q => by
  rw [arm_eval_List]
  refine wpG_bind (wpG_standAt (wpG_bind (h.then_ hA E I q fun vs s₁ Ws σ₁ q rs I₁ X₁ E₁ => ?_)))
  refine wpG_of_any (wpAny_newObj_type (Post.after X₁ (Post.list (tk := s₁.toks) (n := 0) I₁ rs q.2)) (by
    have := q.1; show vs.toArray.size ≤ sizeLine; rw [sizeLine_eq, List.size_toArray, rs.length]; unfold lim at this; lia))
theorem SE_tup {es : List PySem.Expr} {xs : List E} (k : Nat) (pos : Pos) (h : SL prog w hb T C n c es xs) : SE prog w hb T C n c (.Tuple es k pos) (.tup xs) := fun A hA env ρ σ s Q E I q => by
  rw [arm_eval_Tuple]
  refine wpG_bind (wpG_standAt (wpG_bind (h.then_ hA E I q fun vs s₁ Ws σ₁ q rs I₁ X₁ E₁ => ?_)))
  refine wpG_of_any (wpAny_newObj_type (Post.after X₁ (Post.tup (tk := s₁.toks) (n := 0) I₁ rs q.2)) (by
    have := q.1; show vs.toArray.size ≤ sizeLine; rw [sizeLine_eq, List.size_toArray, rs.length]; unfold lim at this; lia))

/-! calls -/
theorem plainArgs {es : List PySem.Expr} {pos : Pos} (h : (starEach es env).any (·.1) = false) : (backTo pos (starEach es env)).any (·.1) = false := by
  unfold backTo
  rw [List.any_map]
  exact h
theorem callArgs {fe : PySem.Expr} {es : List PySem.Expr} {xs : List E} {pos : Pos} {fv : Value} {first : List Value} (F : Fix K hb) (hA : RoomE n A) (E : EnvOk hb c env σ ρ s) (I : Inv hb σ s) (hs : SL prog w hb T C n c es xs) (hp : (starEach es env).any (·.1) = false)
    (hk : isKeeper (model prog w) K fv) {R : List V → Hp → Prop} (q : wpL T C xs ρ σ R) {Q : Value → Shared → Prop}
    (k : ∀ vs s₁ Ws σ₁, R Ws σ₁ → RepL s₁.heap Ws vs → Inv hb σ₁ s₁ → Ext σ s σ₁ s₁ → EnvOk hb c env σ₁ ρ s₁ → wpG (model prog w) A (call fv (first ++ vs)) Q s₁) :
    wpG (model prog w) A (callWith pos fv first (backTo pos (starEach es env)) (backToKw pos (keywordEach [] env))) Q s := by
  let _ := fe
  exact callWith_G (plainArgs hp) hk (hs.then_ hA E I q fun vs s₁ Ws σ₁ q rs I₁ X₁ E₁ => ⟨F.into I₁, k vs s₁ Ws σ₁ q rs I₁ X₁ E₁⟩)
theorem eval_callName {m : PySem.Str} {p : Pos} {es : List PySem.Expr} {pos : Pos} : eval (.Call (.Name m p) es [] pos) env = (eval (.Name m p) env >>= fun f => callWith pos f [] (backTo pos (starEach es env)) (backToKw pos (keywordEach [] env))) := rfl
/-- the written heap bears the defs and the classes that the names say -/
theorem fn_keeper {K : Frag} {m : PySem.Str} {a : Nat} (h : globIn K m = some (.fn a)) : fnIn K a = true := by
  rcases globIn_inv h with ⟨i, t, e, h⟩ | ⟨a', e, ⟨h, k⟩ | h⟩ | ⟨e, p, hp, h⟩
  · cases h
  · cases h; exact k
  · cases h
  · cases h
theorem new_known {T : Tab} {C : Calls} {a : Nat} {Ws : List V} {σ : Hp} {Q : K1} (h : newP T C a Ws σ Q) : ∃ f, T.init a = some f := by
  unfold newP at h
  split at h
  · exact ⟨_, by assumption⟩
  · exact h.elim
theorem SE_call (B : Base prog w hb K T C n) (hK : c.K = K) {m : PySem.Str} {a : Nat} {es : List PySem.Expr} {xs : List E} (p pos : Pos) (hd : (m == ("__debug__" : PySem.Str)) = false) (hg : c.glob m = some (.fn a)) (hs : SL prog w hb T C n c es xs)
    (hp : ∀ env, (starEach es env).any (·.1) = false) : SE prog w hb T C n c (.Call (.Name m p) es [] pos) (.call a xs) := fun A hA env ρ σ s Q E I q => by
  rw [eval_callName, arm_eval_Name]
  refine wpG_bind (wpG_bind (wpG_standAt ?_))
  rw [hd, if_neg Bool.false_ne_true]
  refine glob_sound B.F E I hK hg fun v e => ?_
  have e : v = .ref a := e
  subst e
  refine callArgs (fe := .Name m p) B.F hA E I hs (hp env) (keeper_fn (fn_keeper (hK ▸ (glob_in hg).2))) q fun vs s₁ Ws σ₁ q rs I₁ X₁ E₁ => ?_
  exact wpG_mono (wpG_call (B.CO A hA.x a Ws vs σ₁ s₁ Q I₁ rs q)) fun v s₂ p => Post.after X₁ p
theorem SE_bi (B : Base prog w hb K T C n) (hK : c.K = K) {m : PySem.Str} {b : Bi} {es : List PySem.Expr} {xs : List E} (p pos : Pos) (hd : (m == ("__debug__" : PySem.Str)) = false) (hg : c.glob m = some (.bi b)) (hs : SL prog w hb T C n c es xs)
    (hp : ∀ env, (starEach es env).any (·.1) = false) : SE prog w hb T C n c (.Call (.Name m p) es [] pos) (.bi b xs) := fun A hA env ρ σ s Q E I q => by
  rw [eval_callName, arm_eval_Name]
  refine wpG_bind (wpG_bind (wpG_standAt ?_))
  rw [hd, if_neg Bool.false_ne_true]
  refine glob_sound B.F E I hK hg fun v e => ?_
  have e : v = biV b := e
  subst e
  refine callArgs (K := K) (fe := .Name m p) B.F hA E I hs (hp env) (by induction b using Mine.Bi.casesOn <;> first | exact keeper_builtin _ | exact keeper_type _) q fun vs s₁ Ws σ₁ q rs I₁ X₁ E₁ => ?_
  exact wpG_mono (bi_sound hA.1 I₁ rs q) fun v s₂ p => Post.after X₁ p
theorem callWith_B {pos : Pos} {f : Value} {first : List Value} {args : List (Bool × Sem Value)} {Q : Value → Shared → Prop} (hplain : args.any (·.1) = false)
    (h : wpG (model prog w) A (spliced args) (fun vs s₁ => K.In s₁.heap ∧ isKeeper (model prog w) K f ∧ wpG (model prog w) A (call f (first ++ vs)) Q s₁) s) : wpG (model prog w) A (callWith pos f first args []) Q s := by
  by_cases hk : isKeeper (model prog w) K f
  · exact callWith_G hplain hk (wpG_mono h fun vs s₁ x => ⟨x.1, x.2.2⟩)
  · -- the arguments never come to an end
    have ev : wpG (model prog w) A (evalArgs f true args []) (fun a s₁ => isKeeper (model prog w) K f) s := by
      match args, hplain, h with
      | [], _, h =>
        show wpG _ _ (spliced [] >>= _) _ _
        exact wpG_bind (wpG_mono h fun vs s₁ x => wpG_bind (wpG_pure (wpG_holding (wpG_bind (wpG_pure (wpG_bind (wpG_pure (wpG_pure x.2.1))))))))
      | (false, y) :: r, _, h =>
        show wpG _ _ (spliced ((false, y) :: r) >>= _) _ _
        exact wpG_bind (wpG_mono h fun vs s₁ x => wpG_bind (wpG_pure (wpG_holding (wpG_bind (wpG_pure (wpG_bind (wpG_pure (wpG_pure x.2.1))))))))
      | (true, y) :: r, hp, _ => simp at hp
    exact wpG_bind (wpG_holding (wpG_mono ev fun a s₁ h₁ => absurd h₁ hk))
theorem SE_new (B : Base prog w hb K T C n) (hK : c.K = K) {m : PySem.Str} {a : Nat} {es : List PySem.Expr} {xs : List E} (p pos : Pos) (hd : (m == ("__debug__" : PySem.Str)) = false) (hg : c.glob m = some (.cls a)) (hs : SL prog w hb T C n c es xs)
    (hp : ∀ env, (starEach es env).any (·.1) = false) : SE prog w hb T C n c (.Call (.Name m p) es [] pos) (.new a xs) := fun A hA env ρ σ s Q E I q => by
  rw [eval_callName, arm_eval_Name]
  refine wpG_bind (wpG_bind (wpG_standAt ?_))
  rw [hd, if_neg Bool.false_ne_true]
  refine glob_sound B.F E I hK hg fun v e => ?_
  have e : v = .ref a := e
  subst e
  refine callWith_B (K := K) (plainArgs (hp env)) (hs.then_ hA E I q fun vs s₁ Ws σ₁ q rs I₁ X₁ E₁ => ?_)
  obtain ⟨f, hf⟩ := new_known q
  have k := B.TO.init _ _ hf
  simp only [initOk, Bool.and_eq_true, beq_iff_eq] at k
  exact ⟨B.F.into I₁, keeper_cls k.1.1, wpG_mono (wpG_call (new_sound B.F B.TO B.CO hA I₁ rs q)) fun v s₂ p => Post.after X₁ p⟩

/-! methods -/
theorem SE_meth (B : Base prog w hb K T C n) {o : PySem.Expr} {x : E} {m : Nat} {es : List PySem.Expr} {xs : List E} (apos pos : Pos) (hb0 : plainBase o = true) (hl : (apos.endLine == pos.line) = true) (hn : es.length < 30)
    (ho : SE prog w hb T C n c o x) (hs : SL prog w hb T C n c es xs) (hp : ∀ env, (starEach es env).any (·.1) = false) :
    SE prog w hb T C n c (.Call (.Attribute o (attrName m) apos) es [] pos) (.meth x m xs) := fun A hA env ρ σ s Q E I q => by
  rw [arm_eval_Call]
  refine wpG_bind (base_G hb0 (ho.then_ hA E I q fun ov s₁ W σ₁ q rv I₁ X₁ E₁ => wpG_bind (wpG_standAt ?_)))
  obtain ⟨k, hk, q⟩ := q
  have hform : methodCallForm (es.length + ([] : List Keyword).length) (backTo pos (starEach es env)) (backToKw pos (keywordEach [] env)) = true := by
    unfold methodCallForm
    have h1 := plainArgs (pos := pos) (hp env)
    have h2 : (backTo pos (starEach es env)).all (fun x => !x.1) = true := by
      rw [List.all_eq_not_any_not]
      simp only [Bool.not_not, h1, Bool.not_false]
    rw [h2]
    exact decide_eq_true hn
  unfold methodCall
  rw [hform]
  refine wpG_bind (wpG_holding ?_)
  show wpG _ _ (getMethod ov (attrName m) _) _ _
  refine getMethod_sound B.F B.TO I₁ rv hk fun hkeep => ?_
  unfold methodCallPos
  rw [hl]
  refine wpG_bind (wpG_pure ?_)
  refine callArgs (K := K) (fe := o) B.F hA E₁ I₁ hs (hp env) hkeep q fun vs s₂ Ws σ₂ q rs I₂ X₂ E₂ => ?_
  exact wpG_mono (meth_sound (B.CO A hA.x) I₂ (X₂.rep I₁ rv) rs q.1 q.2) fun v s₃ p => Post.after (X₁.trans X₂) p

/-! tests that are values -/
theorem SB_val {e : PySem.Expr} {x : E} (e1 : ∀ env, isTrue e env (eval e env) = (do let v ← eval e env; standAt e.pos; holding [v] (truthy v))) (h : SE prog w hb T C n c e x) (hq : ∀ ρ σ Q, wpB T C x ρ σ Q → wpE T C x ρ σ fun v σ => truthP v σ fun t => Q t σ) : SB prog w hb T C n c e x := fun A hA env ρ σ s Q E I q => by
  rw [e1]
  refine h.bind hA E I (hq _ _ _ q) fun v s₁ W σ₁ q rv I₁ X₁ E₁ => wpG_bind (wpG_standAt (wpG_holding (truth_sound I₁ rv q fun t tk q => ?_)))
  exact ⟨_, q, I₁.heap rfl, X₁.trans (.heap rfl rfl rfl)⟩
theorem SAs_nil : SAs prog w hb T C n c [] [] := fun A hA env ρ σ s Q E I q => by
  exact wpG_pure ⟨_, q, I, .refl _ _⟩
theorem tests_false {es : List PySem.Expr} {Q : Bool → Shared → Prop} (h : Q false s) : wpG (model prog w) A (testsOf es env false) Q s := by
  induction es with
  | nil => exact wpG_pure h
  | cons e es ih =>
    unfold testsOf
    rw [List.forIn_cons, if_neg Bool.false_ne_true]
    exact wpG_bind (wpG_pure ih)
theorem SAs_cons {e : PySem.Expr} {x : E} {es : List PySem.Expr} {xs : List E} (h : SB prog w hb T C n c e x) (hs : SAs prog w hb T C n c es xs) : SAs prog w hb T C n c (e :: es) (x :: xs) := fun A hA env ρ σ s Q E I q => by
  unfold testsOf
  rw [List.forIn_cons, if_pos rfl]
  refine wpG_bind (wpG_bind (h.then_ hA E I q fun b s₁ σ₁ q I₁ X₁ E₁ => wpG_pure ?_))
  induction b using Bool.casesOn with
  | true => exact wpG_mono (hs A hA env ρ σ₁ s₁ Q E₁ I₁ q) fun b s₂ p => PostB.after X₁ p
  | false => exact tests_false ⟨_, q, I₁, X₁⟩
end
end Mine
end
section
set_option tactic.hygienic false
set_option backward.match.sparseCases false
open PySem PySem.W PyProof.Rows PySem.Calls
open PySem.Sem (wp)
set_option maxRecDepth 100000
namespace Mine

/-! ## comprehensions: their names -/
theorem lookup_filter {α β : Type} [BEq α] [LawfulBEq α] (q : α → Bool) (n : α) : ∀ l : List (α × β), (l.filter fun p => q p.1).lookup n = if q n then l.lookup n else none
  | [] => by simp
  | (m, b) :: r => by
    have ih := lookup_filter q n r
    by_cases hm : n = m
    · subst hm
      induction h : q n using Bool.casesOn with
      | true => simp [List.filter_cons, h]
      | false => simp [List.filter_cons, h, ih]
    · have hb : (n == m) = false := by simpa using hm
      induction h : q m using Bool.casesOn with
      | true => simp only [List.filter_cons, h, if_true, List.lookup_cons, hb, ih]
      | false => simp only [List.filter_cons, h, Bool.false_eq_true, if_false, List.lookup_cons, hb, ih]
theorem lookup_relabel {env : Env} {n : PySem.Str} : ∀ names : List (PySem.Str × NameKind),
    (names.map fun (n, k) => if (k == NameKind.free && env.scope.kind == .function && env.kindOf n == some .cell) then (n, NameKind.cell) else (n, k)).lookup n =
      (names.lookup n).map fun k => if (k == NameKind.free && env.scope.kind == .function && env.kindOf n == some .cell) then NameKind.cell else k
  | [] => rfl
  | (m, k) :: r => by
    have ih := lookup_relabel (env := env) (n := n) r
    by_cases hm : n = m
    · subst hm
      simp only [List.map_cons, List.lookup_cons_self, Option.map_some]
      split <;> simp
    · have hb : (n == m) = false := by simpa using hm
      simp only [List.map_cons, List.lookup_cons, hb]
      rw [← ih]
      split <;> simp [List.lookup_cons, hb]
theorem closure_sound {env : Env} : ∀ (names : List (PySem.Str × NameKind)) (acc : List (PySem.Str × Addr)), (∀ p ∈ names, p.2 = .free → ∃ a, env.cells.lookup p.1 = some a) → (∀ n a, acc.lookup n = some a → env.cells.lookup n = some a) →
    ∃ cl, (forIn names acc fun p cs => if (p.2 == NameKind.free) = true then (do let a ← cellOf env p.1; pure (ForInStep.yield ((p.1, a) :: cs))) else pure (ForInStep.yield cs) : Sem _) = pure cl ∧
      (∀ n a, cl.lookup n = some a → env.cells.lookup n = some a) ∧ (∀ n, (acc.lookup n).isSome = true → (cl.lookup n).isSome = true) ∧ ∀ p ∈ names, p.2 = .free → (cl.lookup p.1).isSome = true
  | [], acc, _, ha => ⟨acc, by rw [List.forIn_nil], ha, fun _ h => h, fun _ h => nomatch h⟩
  | (m, k) :: r, acc, hf, ha => by
    rw [List.forIn_cons]
    induction hk : k == NameKind.free using Bool.casesOn with
    | false =>
      obtain ⟨cl, e, h1, h2, h3⟩ := closure_sound r acc (fun p hp => hf p (.tail _ hp)) ha
      refine ⟨cl, ?_, h1, h2, fun p hp hfr => ?_⟩
      · simp only [hk, Bool.false_eq_true, if_false, pure_bind]; exact e
      · rcases List.mem_cons.mp hp with rfl | hp
        · exact absurd hfr (by simpa using hk)
        · exact h3 p hp hfr
    | true =>
      obtain ⟨a, ea⟩ := hf (m, k) (.head _) (by simpa using hk)
      obtain ⟨cl, e, h1, h2, h3⟩ := closure_sound r ((m, a) :: acc) (fun p hp => hf p (.tail _ hp)) (fun n b hb => by
        by_cases hn : n = m
        · subst hn; simp at hb; subst hb; exact ea
        · have : (n == m) = false := by simpa using hn
          rw [List.lookup_cons, this] at hb; exact ha n b hb)
      refine ⟨cl, ?_, h1, fun n hn => h2 n ?_, fun p hp hfr => ?_⟩
      · have : cellOf env m = pure a := by unfold cellOf; rw [ea]
        simp only [hk, if_true, this, pure_bind]; exact e
      · by_cases hnm : n = m
        · subst hnm; simp
        · have : (n == m) = false := by simpa using hnm
          rw [List.lookup_cons, this]; exact hn
      · rcases List.mem_cons.mp hp with rfl | hp
        · exact h2 _ (by simp)
        · exact h3 p hp hfr
theorem closureFor_sound {scope : Scope} {env : Env} (h : ∀ p ∈ scope.names, p.2 = .free → ∃ a, env.cells.lookup p.1 = some a) :
    ∃ cl, closureFor scope env = pure cl ∧ (∀ n a, cl.lookup n = some a → env.cells.lookup n = some a) ∧ ∀ p ∈ scope.names, p.2 = .free → (cl.lookup p.1).isSome = true := by
  obtain ⟨cl, e, h1, _, h3⟩ := closure_sound (env := env) scope.names [] h (fun n a h => by simp at h)
  refine ⟨cl, ?_, h1, h3⟩
  have e2 : closureFor scope env = (forIn scope.names ([] : List (PySem.Str × Addr)) (fun p cs => if (p.2 == NameKind.free) = true then (do let a ← cellOf env p.1; pure (ForInStep.yield ((p.1, a) :: cs))) else pure (ForInStep.yield cs)) >>= fun cs => pure cs : Sem _) := rfl
  rw [e2, e]
  rfl

structure CompFacts (c : Cx) (sc : Scope) (x : PySem.Str) : Prop where
  kind : sc.kind = .function
  loc : sc.names.lookup x = some .local
  nocell : ∀ p ∈ sc.names, p.2 ≠ .cell
  locals : ∀ p ∈ sc.names, p.2 = .local → sc.names.lookup p.1 = some .local
  free : ∀ p ∈ sc.names, p.2 = .free → sc.names.lookup p.1 = some .free ∧ p.1 ≠ ("__classdict__" : PySem.Str) ∧ (c.sc.names.lookup p.1 = some .cell ∨ c.sc.names.lookup p.1 = some .free)
theorem compFacts {c : Cx} {sc : Scope} {x : PySem.Str} (h : compOk c sc x = true) : CompFacts c sc x := by
  unfold compOk at h
  simp only [Bool.and_eq_true, beq_iff_eq, List.all_eq_true, Bool.or_eq_true, bne_iff_ne, ne_eq] at h
  obtain ⟨⟨h1, h2⟩, h3⟩ := h
  refine ⟨h1, h2, fun p hp => (h3 p hp).1.1, fun p hp hl => ?_, fun p hp hf => ?_⟩
  · exact (h3 p hp).1.2.resolve_left (fun q => q hl)
  · obtain ⟨⟨a, b⟩, d⟩ := (h3 p hp).2.resolve_left (fun q => q hf)
    exact ⟨a, b, d⟩
theorem lookup_mem {α β : Type} [BEq α] [LawfulBEq α] {n : α} {b : β} : ∀ {l : List (α × β)}, l.lookup n = some b → (n, b) ∈ l
  | [], h => by simp at h
  | (m, d) :: r, h => by
    by_cases hm : n = m
    · subst hm; simp at h; subst h; exact .head _
    · have hb : (n == m) = false := by simpa using hm
      rw [List.lookup_cons, hb] at h
      exact .tail _ (lookup_mem h)

section
variable {prog : Program} {w : World} {A : Around} {hb : Heap} {σ : Hp} {s s₀ : Shared} {c : Cx} {env : Env} {ρ : Rho} {K : Frag} {T : Tab} {C : Calls} {n : Nat} {σ₀ : Hp}

/-- the names of a comprehension, as it starts -/
theorem EnvOk.comp (E : EnvOk hb c env σ ρ s) (I : Inv hb σ s) {sc : Scope} {x : PySem.Str} {cl : List (PySem.Str × Addr)} {L : Addr} {h' : Heap} {tk : Nat} (FC : CompFacts c sc x)
    (h1 : ∀ n a, cl.lookup n = some a → env.cells.lookup n = some a) (h2 : ∀ p ∈ sc.names, p.2 = .free → (cl.lookup p.1).isSome = true)
    (hL : s.heap.get? L = none) (hn : h'.Ns L fun _ => none) (k : ∀ b o, s.heap.get? b = some o → h'.get? b = some o) (hF : ¬ Foot σ L) :
    EnvOk hb (c.comp sc x) (compEnvC sc cl L env) σ (ρ.set c.top none) { s with heap := h', toks := tk } := by
  have kf : ∀ b o, s.heap.get? b = some o → fixedO o → h'.get? b = some o := fun b o e _ => k b o e
  have hkind : ∀ m, (compEnvC sc cl L env).kindOf m = (sc.names.lookup m).map fun k => if (k == NameKind.free && env.scope.kind == .function && env.kindOf m == some .cell) then NameKind.cell else k := fun m => lookup_relabel sc.names
  have nmx : ∀ m y, (c.comp sc x).nm.lookup m = some y → (m = x ∧ y = c.top) ∨ (m ≠ x ∧ sc.names.lookup m = some .free ∧ c.nm.lookup m = some y) := by
    intro m y h
    unfold Cx.comp at h
    by_cases hm : m = x
    · subst hm; simp at h; exact .inl ⟨rfl, h.symm⟩
    · have hbq : (m == x) = false := by simpa using hm
      simp only [List.lookup_cons, hbq] at h
      rw [lookup_filter (fun n => n != x && sc.names.lookup n == some .free)] at h
      split at h
      · rename_i hq
        simp only [Bool.and_eq_true, beq_iff_eq] at hq
        exact .inr ⟨hm, hq.2, h⟩
      · cases h
  have slot_nm : ∀ m y, (c.comp sc x).slot m = some y → (c.comp sc x).nm.lookup m = some y := by
    intro m y h
    unfold Cx.slot at h
    split at h <;> first | exact h | cases h
  -- a free name stands in a cell of the outer block
  have outer : ∀ m, sc.names.lookup m = some .free → (∃ y, c.nm.lookup m = some y ∧ c.slot m = some y) ∧ env.kindOf m ≠ some .local ∧ (c.sc.names.lookup m = some .cell ∨ c.sc.names.lookup m = some .free) ∧ m ≠ ("__classdict__" : PySem.Str) := by
    intro m hm
    obtain ⟨q1, q2, q3⟩ := FC.free _ (lookup_mem hm) rfl
    obtain ⟨⟨y, hy⟩, _, hk⟩ := E.celn m q3
    exact ⟨⟨y, hy, by unfold Cx.slot; rcases q3 with q | q <;> rw [q] <;> exact hy⟩, hk, q3, q2⟩
  refine ⟨FC.kind, E.gl, E.bl, ?_, ?_, ?_, ⟨_, hn, ?_⟩, ?_, ?_, ?_, ?_, ?_, fun b hb' o' e' => by
    rcases hb' with q | ⟨m, q⟩
    · have q : b = L := q
      subst q; exact ns_nofix hn _ e'
    · obtain ⟨_, _, o, e3⟩ := E.own b (.inr ⟨m, h1 _ _ q⟩)
      have : h'.get? b = some o := k b o e3
      have e' : h'.get? b = some o' := e'
      rw [e'] at this; cases this
      exact E.nfx b (.inr ⟨m, h1 _ _ q⟩) _ e3⟩
  · intro m hm
    have hm : sc.names.lookup m = some .globalImplicit := hm
    rw [hkind, hm]; rfl
  · intro m m' y e1 e2
    rcases nmx m y (slot_nm m y e1) with ⟨a1, a2⟩ | ⟨a1, a2, a3⟩ <;> rcases nmx m' y (slot_nm m' y e2) with ⟨b1, b2⟩ | ⟨b1, b2, b3⟩
    · exact a1.trans b1.symm
    · have := E.lt _ _ b3; lia
    · have := E.lt _ _ a3; lia
    · obtain ⟨⟨y1, u1, u2⟩, _⟩ := outer m a2
      obtain ⟨⟨y2, v1, v2⟩, _⟩ := outer m' b2
      rw [a3] at u1; rw [b3] at v1; cases u1; cases v1
      exact E.inj _ _ _ u2 v2
  · intro m y h
    rcases nmx m y h with ⟨_, a2⟩ | ⟨_, _, a3⟩
    · show y < c.top + 1; lia
    · have := E.lt _ _ a3; show y < c.top + 1; lia
  · intro m y hs hk V hV
    rcases nmx m y (slot_nm m y hs) with ⟨a1, a2⟩ | ⟨a1, a2, a3⟩
    · subst a2
      exfalso
      unfold Rho.get at hV
      rw [List.getElem?_set_self'] at hV
      cases e : ρ[c.top]? <;> simp [e] at hV
    · rw [hkind, a2] at hk
      simp only [Option.map_some, Option.some.injEq] at hk
      split at hk <;> cases hk
  · intro m y hs hk
    rcases nmx m y (slot_nm m y hs) with ⟨a1, a2⟩ | ⟨a1, a2, a3⟩
    · subst a1
      rw [hkind, FC.loc] at hk
      exact absurd rfl hk
    · obtain ⟨⟨y1, u1, u2⟩, u3, _, u4⟩ := outer m a2
      rw [a3] at u1; cases u1
      obtain ⟨k1, a, ov, k2, k3, k4⟩ := E.cel m y u2 u3
      obtain ⟨a', ha'⟩ := Option.isSome_iff_exists.mp (h2 _ (lookup_mem a2) rfl)
      have := h1 _ _ ha'
      rw [k2] at this; cases this
      refine ⟨?_, a, ov, ha', k3.keeps k, fun V hV => ?_⟩
      · rw [hkind, a2]
        simp only [Option.map_some, Option.some.injEq]
        split
        · exact .inl rfl
        · exact .inr ⟨rfl, u4⟩
      · have hne : y ≠ c.top := Nat.ne_of_lt (E.lt _ _ a3)
        unfold Rho.get at hV
        rw [List.getElem?_set_ne (Ne.symm hne)] at hV
        obtain ⟨v, e1, e2⟩ := k4 V hV
        exact ⟨v, e1, e2.keep kf⟩
  · intro m hm
    have hm0 : sc.names.lookup m = some .cell ∨ sc.names.lookup m = some .free := hm
    clear hm
    have hm : sc.names.lookup m = some .free := hm0.resolve_left fun q => FC.nocell _ (lookup_mem q) rfl
    clear hm0
    obtain ⟨⟨y1, u1, u2⟩, u3, _, u4⟩ := outer m hm
    obtain ⟨a', ha'⟩ := Option.isSome_iff_exists.mp (h2 _ (lookup_mem hm) rfl)
    have hmx : m ≠ x := fun q => by subst q; rw [FC.loc] at hm; cases hm
    refine ⟨⟨y1, ?_⟩, ⟨a', ha'⟩, ?_⟩
    · unfold Cx.comp
      have hbq : (m == x) = false := by simpa using hmx
      simp only [List.lookup_cons, hbq]
      rw [lookup_filter (fun n => n != x && sc.names.lookup n == some .free)]
      rw [if_pos (by simp [hmx, hm])]
      exact u1
    · rw [hkind, hm]
      simp only [Option.map_some, ne_eq, Option.some.injEq]
      split <;> simp
  · intro m m' a e1 e2
    exact E.apart _ _ _ (h1 _ _ e1) (h1 _ _ e2)
  · intro m a e1 q
    obtain ⟨_, _, o, e⟩ := E.own a (.inr ⟨m, h1 _ _ e1⟩)
    have q : a = L := q
    rw [q, hL] at e; cases e
  · intro b hb'
    rcases hb' with q | ⟨m, q⟩
    · have q : b = L := q
      subst q
      obtain ⟨o, _, _, e, _⟩ := hn
      refine ⟨?_, hF, o, e⟩
      induction e9 : hb.get? b using Option.casesOn with
      | none => rfl
      | some o => have := I.base _ _ e9; rw [hL] at this; cases this
    · obtain ⟨e1, e2, o, e3⟩ := E.own b (.inr ⟨m, h1 _ _ q⟩)
      exact ⟨e1, e2, o, k b o e3⟩
end
end Mine
end
section
set_option tactic.hygienic false
set_option backward.match.sparseCases false
open PySem PySem.W PyProof.Rows PySem.Calls
open PySem.Sem (wp)
set_option maxRecDepth 100000
namespace Mine
section
variable {prog : Program} {w : World} {A : Around} {hb : Heap} {σ : Hp} {s s₀ : Shared} {c : Cx} {env : Env} {ρ : Rho} {K : Frag} {T : Tab} {C : Calls} {n : Nat} {σ₀ : Hp}

noncomputable def compPostG (M : Model) (A : Around) (use : Option (Value → Sem Unit)) (Q : Value → Shared → Prop) (acc : Value) (L : Addr) (s' : Shared) : Prop := match use with
  | none => ∃ m, s'.heap.Ns L m ∧ ∀ h', Heap.SameBut L s'.heap h' → Q acc { s' with heap := h' }
  | some u => wpG M A (u acc) (fun _ s'' => ∃ m, s''.heap.Ns L m ∧ ∀ h', Heap.SameBut L s''.heap h' → Q .none { s'' with heap := h' }) s'
theorem standIf_G {α : Type} {M : Model} {b : Prop} [Decidable b] {pos : Pos} {k : PUnit → Sem α} {Q : α → Shared → Prop} (h : wpG M A (k ()) Q s) : wpG M A (if b then (standAt pos >>= k) else k ()) Q s := by
  split
  · exact wpG_bind (wpG_standAt h)
  · exact h
theorem comp_G {M : Model} {e : PySem.Expr} {scope : Scope} {pos : Pos} {newAcc first : Sem Value} {g : Comprehension} {gs : List Comprehension} {cl : List (PySem.Str × Addr)} {use : Option (Value → Sem Unit)}
    {Q : Value → Shared → Prop}
    (hcl : clausesOf e = g :: gs) (hs : ∀ x, foldedSetIterable g.iter env x = pure x) (hclos : closureFor scope env = pure cl)
    (hkind : scope.kind = .function) (hnames : ∀ x ∈ scope.names, x.2 = .local → scope.names.lookup x.1 = some .local)
    (h : wpG M A first (fun x s₁ => wpG M A (pyIter x) (fun it s₂ => wpG M A newAcc (fun acc s₃ =>
      wpG M A (newFunctionEnv scope env.globals cl [] env.qual none .none (some env)) (fun cenv s₄ =>
        codeG M A (.compStart e 0 it acc { cenv with scope := relabel scope env }) (fun _ s' => compPostG M A use Q acc cenv.locals s') s₄) s₃) s₂) s₁) s) :
    wpG M A (comprehension e scope env pos newAcc false first use) Q s := by
  unfold comprehension
  rw [hclos, hcl]
  refine wpG_bind (wpG_mono h (fun x s₁ h₁ => wpG_bind (wpG_standAt (wpG_bind (wpG_of_eq (hs x) (wpG_bind (wpG_holding (wpG_mono h₁ (fun it s₂ h₂ =>
    standIf_G (wpG_bind (wpG_mono h₂ (fun acc s₃ h₃ => wpG_bind (wpG_pure (wpG_bind (wpG_mono h₃ (fun cenv s₄ h₄ => ?_))))))))))))))))
  dsimp only
  have hv : ∀ x ∈ (scope.names.filter fun x => (x.2 == .local || x.2 == .cell) && x.1 != (".0" : PySem.Str)).reverse, x.2 = .local →
      Env.kindOf { cenv with scope := relabel scope env } x.1 = some .local := fun x hx hl => lookup_relabel_local (hnames x (List.mem_filter.mp (List.mem_reverse.mp hx)).1 hl)
  have hv' : ∀ x ∈ (scope.names.filter fun x => (x.2 == .local || x.2 == .cell) && x.1 != (".0" : PySem.Str)).reverse.drop 1 ++ (scope.names.filter fun x => (x.2 == .local || x.2 == .cell) && x.1 != (".0" : PySem.Str)).reverse.take 1,
      x.2 = .local → Env.kindOf { cenv with scope := relabel scope env } x.1 = some .local := fun x hx hl => by
    rcases List.mem_append.mp hx with h1 | h1
    · exact hv x (List.mem_of_mem_drop h1) hl
    · exact hv x (List.mem_of_mem_take h1) hl
  refine wpG_holding (wpG_bind (wpG_attempt (wpG_holding (wpG_run (codeG_mono h₄ fun f s' hr => ?_)))))
  induction use using Option.casesOn with
  | none =>
    obtain ⟨m, hn, hr⟩ := hr
    exact wpG_bind (wpG_holding (wpG_of_any (wpAny_comp_letGo (cenv := { cenv with scope := relabel scope env }) hkind _ s' m hv hn fun h' m' _ hs' => wpG_pure (hr h' hs'))))
  | some u =>
    refine wpG_bind (wpG_rule (wpG_bind (wpG_holding (wpG_mono hr fun _ s'' hr' => ?_))))
    obtain ⟨m, hn, hr'⟩ := hr'
    exact wpG_bind (wpG_of_any (wpAny_comp_letGo (cenv := { cenv with scope := relabel scope env }) hkind _ s'' m hv' hn fun h' m' _ hs' => wpG_pure (hr' h' hs')))

theorem iterSelf {src : V} {it : Addr} {i : Nat} {all : List V} {Q : Value → Shared → Prop} (x : IterOk src it i all s.heap) (h : Q (.ref it) s) : wpG (model prog w) A (pyIter (.ref it)) Q s := by
  unfold IterOk at x
  split at x
  · exact wpG_of_any (wpAny_pyIter_listiter x h)
  · obtain ⟨_, t, vs, n, x, _⟩ := x
    exact wpG_of_any (wpAny_pyIter_tupleiter x h)
  · exact wpG_of_any (wpAny_pyIter_rangeiter x.2 h)
  · exact x.elim

theorem under_comp {e : PySem.Expr} {it acc : Value} {env : Env} (hg : ∀ a b c d, e ≠ .GeneratorExp a b c d) (hA : RoomE n A) : RoomE n (A.under (.compLoop e 0 it acc env)) ∧ RoomE n (A.under (.compStart e 0 it acc env)) := by
  have f1 : (Code.compLoop e 0 it acc env).isFrame = false := by induction e using PySem.Expr.casesOn <;> first | rfl | exact absurd rfl (hg _ _ _ _)
  have f2 : (Code.compStart e 0 it acc env).isFrame = false := by induction e using PySem.Expr.casesOn <;> first | rfl | exact absurd rfl (hg _ _ _ _)
  have w1 : (Code.compLoop e 0 it acc env).frames = 0 := by show (if (Code.compLoop e 0 it acc env).isFrame = true then 1 else 0) = 0; rw [f1]; rfl
  have w2 : (Code.compStart e 0 it acc env).frames = 0 := by show (if (Code.compStart e 0 it acc env).isFrame = true then 1 else 0) = 0; rw [f2]; rfl
  have v1 : (Code.compLoop e 0 it acc env).weight = 0 := by show (Code.compLoop e 0 it acc env).frames + 0 + 0 + 0 = 0; rw [w1]
  have v2 : (Code.compStart e 0 it acc env).weight = 0 := by show (Code.compStart e 0 it acc env).frames + 0 + 0 + 0 = 0; rw [w2]
  have u1 : (Code.compLoop e 0 it acc env).cUnits = 0 := by show 3 * (Code.compLoop e 0 it acc env).frames = 0; rw [w1]
  have u2 : (Code.compStart e 0 it acc env).cUnits = 0 := by show 3 * (Code.compStart e 0 it acc env).frames = 0; rw [w2]
  obtain ⟨h1, h2, h3⟩ := hA
  refine ⟨⟨h1, ?_, ?_⟩, ⟨h1, ?_, ?_⟩⟩
  · show A.depth + Code.weight _ + 4 * n + 6 ≤ _; rw [v1]; exact h2
  · show A.units + Code.cUnits _ + 60 * n + 80 ≤ _; rw [u1]; exact h3
  · show A.depth + Code.weight _ + 4 * n + 6 ≤ _; rw [v2]; exact h2
  · show A.units + Code.cUnits _ + 60 * n + 80 ≤ _; rw [u2]; exact h3

theorem compStart_G {elt target iter ifs rest scope pos it acc env} {R : Flow → Shared → Prop} {src : V} {i : Nat} {all : List V} (x : IterOk src it i all s.heap)
    (h0 : codeG (model prog w) A (.compLoop (.ListComp elt (⟨target, iter, ifs, 0⟩ :: rest) scope pos) 0 (.ref it) acc env) R s) :
    codeG (model prog w) A (.compStart (.ListComp elt (⟨target, iter, ifs, 0⟩ :: rest) scope pos) 0 (.ref it) acc env) R s := by
  refine codeG_of_tree rfl ?_
  show wpG _ _ ((compStart (.ListComp elt (⟨target, iter, ifs, 0⟩ :: rest) scope pos) 0 (.ref it) acc env).onRaise (fun x => do noteFrame x env; standAt theWindowsPlace)) _ s
  refine wpG_onRaise ?_
  show wpG _ _ (ask >>= _) _ s
  refine wpG_bind (wpG_of_any (wpAny_askSetting ?_))
  split
  · first
      | exact wpG_bind (wpG_pure (wpG_pure (And.intro rfl h0)))
      | exact wpG_pure (And.intro rfl h0)
  · first
      | exact wpG_bind (wpG_rule (wpG_bind (wpG_standAt (wpG_bind (iterSelf x (wpG_pure (And.intro rfl h0)))))))
      | (refine wpG_bind (wpG_rule ?_); show wpG _ _ (standAt iter.pos >>= _) _ s; exact wpG_bind (wpG_standAt (wpG_bind (iterSelf x (wpG_pure (And.intro rfl h0))))))

theorem push_raw {D : Addr} {vs : List Value} {k : Nat} {v : Value} {Q : Value → Shared → Prop} (g : s.heap.get? D = some (lstOf vs k)) (hl : vs.length < lim)
    (h : ∀ h' k', h'.get? D = some (lstOf (vs ++ [v]) k') → Heap.SameBut D s.heap h' → Q .none { s with heap := h' }) : wpG (model prog w) A (call (.builtin "list.append") [.ref D, v]) Q s := by
  refine wpG_of_any (wpAny_call_entry slot_list_append (isList_of g).typeIs entry_list_append ?_ (args_list_append _ _))
  show wpAny _ _ (updateSeq D (·.push v) >>= fun _ => ret .none) _ _ s
  refine wpAny_bind (wpAny_updateSeq (hz := by unfold lim at hl; rw [sizeLine_eq, List.size_toArray]; lia) (_hz' := by unfold lim at hl; rw [sizeLine_eq, Array.size_push, List.size_toArray]; lia) g rfl (wpAny_pure ⟨.none, rfl, ?_⟩))
  exact h _ (k + 1) (by rw [Heap.get?_update_self _ g rfl]; simp [Obj.mapSeq]) (Heap.SameBut.update ..)
theorem lst_nofix {h : Heap} {D : Addr} {vs : List Value} {k : Nat} (g : h.get? D = some (lstOf vs k)) : ∀ o, h.get? D = some o → ¬ fixedO o := fun o e hf => by
  rw [g] at e; cases e
  rcases hf with ⟨_, _, e⟩ | ⟨_, _, _, _, _, e⟩ <;> simp at e
theorem OwnAt.otherX {b : Addr} (O : OwnAt hb s₀ σ s b) {a : Addr} {s' : Shared} (hs : Heap.ExtBut a s.heap s'.heap) (hne : b ≠ a) : OwnAt hb s₀ σ s' b := by
  obtain ⟨h1, h2, h3, o, h4⟩ := O
  exact ⟨h1, h2, h3, o, hs b o hne h4⟩
theorem wr_local {m : PySem.Str} {b : Addr} (h : Wr env m b) (hk : env.kindOf m = some .local) : b = env.locals := by
  rcases h with h | h
  · exact h.2
  · rw [hk] at h; cases h.1

theorem drop_cons {α : Type} {l r : List α} {a : α} {i : Nat} (h : a :: r = l.drop i) : l[i]? = some a ∧ r = l.drop (i + 1) := by
  have hlt : i < l.length := by
    apply Classical.byContradiction; intro hn
    rw [List.drop_eq_nil_of_le (by lia)] at h; cases h
  rw [List.drop_eq_getElem_cons hlt] at h
  obtain ⟨rfl, rfl⟩ := List.cons.inj h
  exact ⟨List.getElem?_eq_getElem hlt, rfl⟩

/-- a comprehension's loop -/
theorem compLoop_G {sc : Scope} {x : PySem.Str} {elt iter : PySem.Expr} {px : Pos} {ifs : List PySem.Expr} {pos : Pos} {y : E} {ys : List E} {src : V} {all : List V} {D it : Addr} {cx : Cx} {top : Nat} {Qf : List V → Hp → Prop} {R : Flow → Shared → Prop}
    (hx : cx.slot x = some top) (hxl : env.kindOf x = some .local)
    (he : SE prog w hb T C n cx elt y) (hi : SAs prog w hb T C n cx ifs ys) (hA : RoomE n A) (hDi : D ≠ it) (hDl : D ≠ env.locals) (hil : it ≠ env.locals) (hDc : ∀ m, env.cells.lookup m ≠ some D) (hic : ∀ m, env.cells.lookup m ≠ some it)
    (hLs : s₀.heap.get? env.locals = none)
    (hR : ∀ Ws σ s vs k, Qf Ws σ → RepL s.heap Ws vs → s.heap.get? D = some (lstOf vs k) → Inv hb σ s → Ext σ₀ s₀ σ s → OwnAt hb s₀ σ s D → (∃ m, s.heap.Ns env.locals m) → OwnAt hb s₀ σ s env.locals → R .next s) :
    ∀ (rest : List V) (i : Nat) (Ws : List V) (vs : List Value) (k : Nat) (ρ' : Rho) (σ : Hp) (s : Shared), rest = all.drop i → i ≤ all.length → (∀ v, ρ'.set top v = ρ.set top v) →
      compLoop src all (fun v σ Q => wpA T C ys (ρ.set top (some v)) σ Q) (fun v σ Q => wpE T C y (ρ.set top (some v)) σ Q) rest Ws σ Qf →
      EnvOk hb cx env σ ρ' s → Inv hb σ s → Ext σ₀ s₀ σ s → OwnAt hb s₀ σ s D → OwnAt hb s₀ σ s it → IterOk src it i all s.heap → s.heap.get? D = some (lstOf vs k) → RepL s.heap Ws vs →
      codeG (model prog w) A (.compLoop (.ListComp elt [⟨.Name x px, iter, ifs, 0⟩] sc pos) 0 (.ref it) (.ref D) env) R s := by
  intro rest
  induction rest with
  | nil =>
    intro i Ws vs k ρ' σ s hr hle hρ q E I X OD OI hit hD rs
    obtain ⟨q1, q2⟩ := q
    refine codeG_of_tree rfl ?_
    show wpG _ _ ((compTurn (.ListComp elt [⟨.Name x px, iter, ifs, 0⟩] sc pos) 0 (.ref it) (.ref D) env).onRaise (fun x => do noteFrame x env; theTreesLotGoes x)) _ s
    refine wpG_onRaise ?_
    rw [compTurn_list]
    have hin : i = all.length := by
      have := congrArg List.length hr
      simp at this; lia
    subst hin
    refine wpG_bind (wpG_standAt (wpG_bind (next_end_sound hA.1 I hit q1 fun h' hs' => wpG_pure ?_)))
    have nf := hit.nofix
    have k2 : ∀ b o, s.heap.get? b = some o → fixedO o → h'.get? b = some o := fun b o e f => hs' b o (fun z => by subst z; exact nf _ e f) e
    obtain ⟨m, hn, _⟩ := E.loc
    obtain ⟨w1, w2, wo, w3⟩ := E.own _ (.inl rfl)
    exact hR Ws σ { s with heap := h' } vs k q2 (rs.keep k2) (hs' D _ hDi hD) (I.otherX hs' OI.1 OI.2.2.1 nf) (X.otherX hs' OI.2.1 rfl rfl) (OD.otherX hs' hDi) ⟨m, hn.at fun o e => hs' _ o (Ne.symm hil) e⟩ ⟨w1, hLs, w2, wo, hs' _ wo (Ne.symm hil) w3⟩
  | cons V rest ih =>
    intro i Ws vs k ρ' σ s hr hle hρ q E I X OD OI hit hD rs
    obtain ⟨hV, hr'⟩ := drop_cons hr
    obtain ⟨q1, q2⟩ := q
    refine codeG_of_tree rfl ?_
    show wpG _ _ ((compTurn (.ListComp elt [⟨.Name x px, iter, ifs, 0⟩] sc pos) 0 (.ref it) (.ref D) env).onRaise (fun x => do noteFrame x env; theTreesLotGoes x)) _ s
    refine wpG_onRaise ?_
    rw [compTurn_list]
    have hA' : RoomE n (A.under (.compLoop (.ListComp elt [⟨.Name x px, iter, ifs, 0⟩] sc pos) 0 (.ref it) (.ref D) env)) := (under_comp (fun _ _ _ _ => by simp) hA).1
    have nf := hit.nofix
    refine wpG_bind (wpG_standAt (wpG_bind (next_sound I hit q1 hV OI.2.2.1 fun v h' tk hs' hit' rv => ?_)))
    have xb := hs'.extBut
    have I₁ : Inv hb σ { s with heap := h', toks := tk } := I.otherX xb OI.1 OI.2.2.1 nf
    have X₁ : Ext σ₀ s₀ σ { s with heap := h', toks := tk } := X.otherX xb OI.2.1 rfl rfl
    have E₁ : EnvOk hb cx env σ ρ' { s with heap := h', toks := tk } := E.otherX xb hil hic nf
    have OD₁ : OwnAt hb s₀ σ { s with heap := h', toks := tk } D := OD.otherX xb hDi
    have OI₁ : OwnAt hb s₀ σ { s with heap := h', toks := tk } it := by
      obtain ⟨a1, a2, a3, o, a4⟩ := OI
      refine ⟨a1, a2, a3, ?_⟩
      unfold IterOk at hit'
      split at hit'
      · obtain ⟨o, e, _⟩ := hit'; exact ⟨o, e⟩
      · obtain ⟨_, _, _, _, ⟨o, e, _⟩, _⟩ := hit'; exact ⟨o, e⟩
      · exact ⟨_, hit'.2⟩
      · exact hit'.elim
    have hD₁ : h'.get? D = some (lstOf vs k) := xb D _ hDi hD
    have rs₁ : RepL h' Ws vs := rs.keep fun b o e f => xb b o (fun z => by subst z; exact nf _ e f) e
    have kl : env.kindOf x ≠ some .free := by rw [hxl]; simp
    refine wpG_bind (wpG_pure (wpG_bind (m := assign _ _ _) (wpG_bind (wpG_standAt (wpG_bind (wpG_holding (wpG_point (wpG_bind (store_sound E₁ I₁ hx kl rv fun h'' tk' b hw hs'' E₂ I₂ => wpG_point ?_)))))))))
    obtain rfl := wr_local hw hxl
    have xb2 := hs''.extBut
    obtain ⟨m0, hn0, _⟩ := E₁.loc
    have nf2 := ns_nofix hn0
    rw [hρ] at E₂
    have X₂ : Ext σ₀ s₀ σ { s with heap := h'', toks := tk' } := X₁.otherX xb2 hLs rfl rfl
    have OD₂ : OwnAt hb s₀ σ { s with heap := h'', toks := tk' } D := OD₁.otherX xb2 hDl
    have OI₂ : OwnAt hb s₀ σ { s with heap := h'', toks := tk' } it := OI₁.otherX xb2 hil
    have hD₂ : h''.get? D = some (lstOf vs k) := xb2 D _ hDl hD₁
    have kf2 : ∀ b o, h'.get? b = some o → fixedO o → h''.get? b = some o := fun b o e f => xb2 b o (fun z => by subst z; exact nf2 _ e f) e
    have rs₂ : RepL h'' Ws vs := rs₁.keep kf2
    have hit₂ : IterOk src it (i + 1) all h'' := hit'.keep kf2 fun o e => xb2 it o hil e
    refine wpG_bind (wpG_mono (hi _ hA' env _ _ _ _ E₂ I₂ q2) fun ok s₃ p => ?_)
    obtain ⟨σ₃, q3, I₃, X₃⟩ := p
    have E₃ := E₂.keep I₂ X₃
    have OD₃ := OD₂.keep X₃
    have OI₃ := OI₂.keep X₃
    have hD₃ : s₃.heap.get? D = some (lstOf vs k) := X₃.keep D _ hD₂ OD₂.2.2.1
    have rs₃ := X₃.repL I₂ rs₂
    have hit₃ : IterOk src it (i + 1) all s₃.heap := hit₂.keep (X₃.fixed I₂) fun o e => X₃.keep it o e OI₂.2.2.1
    have hle' : i + 1 ≤ all.length := by have := (List.getElem?_eq_some_iff.mp hV).1; lia
    have hρ' : ∀ v, (ρ.set top (some V)).set top v = ρ.set top v := fun v => List.set_set ..
    induction ok using Bool.casesOn with
    | false =>
      simp only [Bool.false_eq_true, if_false] at q3 ⊢
      exact wpG_pure ⟨rfl, ih (i + 1) Ws vs k _ σ₃ s₃ hr' hle' hρ' q3 E₃ I₃ (X₂.trans X₃) OD₃ OI₃ hit₃ hD₃ rs₃⟩
    | true =>
      simp only [if_true] at q3 ⊢
      refine wpG_bind (wpG_bind (he.then_ hA' E₃ I₃ q3 fun u s₄ W σ₄ q4 ru I₄ X₄ E₄ => wpG_bind ?_))
      obtain ⟨hl, q4⟩ := q4
      have OD₄ := OD₃.keep X₄
      have OI₄ := OI₃.keep X₄
      have hD₄ : s₄.heap.get? D = some (lstOf vs k) := X₄.keep D _ hD₃ OD₃.2.2.1
      have rs₄ := X₄.repL I₃ rs₃
      have hit₄ : IterOk src it (i + 1) all s₄.heap := hit₃.keep (X₄.fixed I₃) fun o e => X₄.keep it o e OI₃.2.2.1
      refine push_raw hD₄ (by rw [rs₄.length]; exact hl) fun h5 k5 hD5 hs5 => wpG_pure (wpG_pure ⟨rfl, ?_⟩)
      have xb5 := hs5.extBut
      have nf5 := lst_nofix hD₄
      have kf5 : ∀ b o, s₄.heap.get? b = some o → fixedO o → h5.get? b = some o := fun b o e f => xb5 b o (fun z => by subst z; exact nf5 _ e f) e
      have OD5 : OwnAt hb s₀ σ₄ { s₄ with heap := h5 } D := ⟨OD₄.1, OD₄.2.1, OD₄.2.2.1, _, hD5⟩
      refine ih (i + 1) (Ws ++ [W]) (vs ++ [u]) k5 _ σ₄ { s₄ with heap := h5 } hr' hle' hρ' q4 (E₄.otherX xb5 hDl hDc nf5) (I₄.otherX xb5 OD₄.1 OD₄.2.2.1 nf5) (((X₂.trans X₃).trans X₄).otherX xb5 OD₄.2.1 rfl rfl) OD5 (OI₄.otherX xb5 (Ne.symm hDi)) ?_ hD5 ?_
      · exact hit₄.keep kf5 fun o e => xb5 it o (Ne.symm hDi) e
      · exact (rs₄.keep kf5).append (by exact ⟨u, [], rfl, ru.keep kf5, by rfl⟩)
end
end Mine
end
section
set_option tactic.hygienic false
set_option backward.match.sparseCases false
open PySem PySem.W PyProof.Rows PySem.Calls
open PySem.Sem (wp)
set_option maxRecDepth 100000
namespace Mine
section
variable {prog : Program} {w : World} {A : Around} {hb : Heap} {σ : Hp} {s s₀ : Shared} {c : Cx} {env : Env} {ρ : Rho} {K : Frag} {T : Tab} {C : Calls} {n : Nat} {σ₀ : Hp}

theorem folded_of {k : Nat} {e : PySem.Expr} {x : E} (h : compE c k e = some x) (env : Env) (v : Value) : foldedSetIterable e env v = pure v := by
  induction k using Nat.casesOn with
  | zero => exact noneSome h
  | succ k => induction e using PySem.Expr.casesOn <;> first | rfl | exact noneSome h

/-- a comprehension runs -/
theorem comp_run {sc : Scope} {x : PySem.Str} {elt iter : PySem.Expr} {px : Pos} {ifs : List PySem.Expr} {pos : Pos} {y it : E} {ys : List E} {Qf : List V → Hp → Prop} {use : Option (Value → Sem Unit)} {Qo : Value → Shared → Prop}
    (hok : compOk c sc x = true) (hfold : ∀ v, foldedSetIterable iter env v = pure v) (hit : SE prog w hb T C n c iter it) (he : SE prog w hb T C n (c.comp sc x) elt y) (hi : SAs prog w hb T C n (c.comp sc x) ifs ys) (hA : RoomE n A)
    (E : EnvOk hb c env σ ρ s) (I : Inv hb σ s)
    (q : wpE T C it ρ σ fun s σ => ∃ all, itemsOf σ s = some all ∧ all.length ≤ lim ∧
      compLoop s all (fun v σ Q => wpA T C ys (ρ.set c.top (some v)) σ Q) (fun v σ Q => wpE T C y (ρ.set c.top (some v)) σ Q) all [] σ Qf)
    (hfin : ∀ D L Ws σ' s' vs k, Qf Ws σ' → RepL s'.heap Ws vs → s'.heap.get? D = some (lstOf vs k) → Inv hb σ' s' → Ext σ s σ' s' → OwnAt hb s σ' s' D → (∃ m, s'.heap.Ns L m) → OwnAt hb s σ' s' L → D ≠ L → compPostG (model prog w) A use Qo (.ref D) L s') :
    wpG (model prog w) A (comprehension (.ListComp elt [⟨.Name x px, iter, ifs, 0⟩] sc pos) sc env (firstIterPos [⟨.Name x px, iter, ifs, 0⟩] pos) (newList []) false (eval iter env) use) Qo s := by
  have FC := compFacts hok
  have hf : ∀ p ∈ sc.names, p.2 = .free → ∃ a, env.cells.lookup p.1 = some a := fun p hp hfr => by
    obtain ⟨_, _, h3⟩ := FC.free p hp hfr
    exact (E.celn _ h3).2.1
  obtain ⟨cl, hcl, h1, h2⟩ := closureFor_sound hf
  refine comp_G rfl hfold hcl FC.kind FC.locals (hit.then_ hA E I q fun v s₁ src σ₁ q rv I₁ X₁ E₁ => ?_)
  obtain ⟨all, ha, hl, q⟩ := q
  refine iter_sound I₁ rv ha hl fun o hof hiter => ?_
  generalize hs₂ : ({ s₁ with heap := s₁.heap.push o } : Shared) = s₂ at hiter ⊢
  have k₂ : ∀ b o', s₁.heap.get? b = some o' → s₂.heap.get? b = some o' := by subst hs₂; exact push_keep _ _
  have g₂ : s₂.gens = s₁.gens := by subst hs₂; rfl
  have o₂ : s₂.os = s₁.os := by subst hs₂; rfl
  have sz₂ : s₂.heap.objs.size = s₁.heap.objs.size + 1 := by subst hs₂; exact Heap.size_push ..
  have fresh : ∀ a, s₁.heap.objs.size ≤ a → s₁.heap.get? a = none := fun a ha => by
    induction e : s₁.heap.get? a using Option.casesOn with
    | none => rfl
    | some o' => exact absurd (Heap.lt_size e) (Nat.not_lt.mpr ha)
  have before : ∀ a, s₁.heap.get? a = none → s.heap.get? a = none := fun a ha => by
    induction e : s.heap.get? a using Option.casesOn with
    | none => rfl
    | some o' => obtain ⟨o, e'⟩ := X₁.ex a o' e; rw [ha] at e'; cases e'
  -- what is new behind the source is new altogether
  have newer : ∀ a, s₁.heap.get? a = none → hb.get? a = none ∧ ¬ Foot σ₁ a := fun a ha => by
    refine ⟨?_, I₁.not_foot_free ha⟩
    induction e9 : hb.get? a using Option.casesOn with
    | none => rfl
    | some o => have := I₁.base _ _ e9; rw [ha] at this; cases this
  refine wpG_of_any (wpAny_newObj_type ?_ (by show (#[] : Array Value).size ≤ sizeLine; rw [sizeLine_eq]; exact Nat.zero_le _))
  generalize hs₃ : ({ s₂ with heap := s₂.heap.push { cls := .type "list", data := .seq ([] : List Value).toArray } } : Shared) = s₃
  have k₃ : ∀ b o', s₂.heap.get? b = some o' → s₃.heap.get? b = some o' := by subst hs₃; exact push_keep _ _
  have g₃ : s₃.gens = s₂.gens := by subst hs₃; rfl
  have o₃ : s₃.os = s₂.os := by subst hs₃; rfl
  have sz₃ : s₃.heap.objs.size = s₂.heap.objs.size + 1 := by subst hs₃; exact Heap.size_push ..
  have hD₃ : s₃.heap.get? s₂.heap.objs.size = some (lstOf [] 0) := by subst hs₃; exact Heap.get?_push_size _ rfl
  refine wpG_of_any (wpAny_newFunctionEnv FC.nocell (by intro y hy; simp at hy) (fun h₄ hn₄ hs₄ => ?_) FC.kind)
  have k₄ : ∀ b o', s₃.heap.get? b = some o' → h₄.get? b = some o' := fun b o' e => hs₄.extBut b o' (Nat.ne_of_lt (Heap.lt_size e)) (push_keep _ _ b o' e)
  have hn₄ : h₄.Ns s₃.heap.objs.size fun _ => none := hn₄
  have kk : ∀ b o', s₁.heap.get? b = some o' → h₄.get? b = some o' := fun b o' e => k₄ _ _ (k₃ _ _ (k₂ _ _ e))
  have hL : s₁.heap.get? s₃.heap.objs.size = none := fresh _ (by lia)
  have hDf : s₁.heap.get? s₂.heap.objs.size = none := fresh _ (by lia)
  have hIf : s₁.heap.get? s₁.heap.objs.size = none := fresh _ (Nat.le_refl _)
  generalize hs4 : ({ s₃ with heap := h₄, toks := s₃.toks + ([] : List (PySem.Str × Value)).length } : Shared) = s₄
  have e4 : s₄.heap = h₄ := by subst hs4; rfl
  have g4 : s₄.gens = s₁.gens := by subst hs4; exact g₃.trans g₂
  have o4 : s₄.os = s₁.os := by subst hs4; exact o₃.trans o₂
  have k4 : ∀ b o', s₁.heap.get? b = some o' → s₄.heap.get? b = some o' := fun b o' e => e4 ▸ kk b o' e
  have I₄ : Inv hb σ₁ s₄ := I₁.grow k4
  have X₄ : Ext σ₁ s₁ σ₁ s₄ := .grow k4 g4 o4
  have En : EnvOk hb (c.comp sc x) (compEnvC sc cl s₃.heap.objs.size env) σ₁ (ρ.set c.top none) s₄ := by
    have := E₁.comp (tk := s₁.toks) I₁ FC h1 h2 hL hn₄ kk (I₁.not_foot_free hL)
    exact this.keep (I₁.grow (s' := { s₁ with heap := h₄, toks := s₁.toks }) kk) (.heap e4 g4 o4)
  have hit4 : IterOk src s₁.heap.objs.size 0 all s₄.heap := by
    have hix : ∀ o, s₂.heap.get? s₁.heap.objs.size = some o → s₄.heap.get? s₁.heap.objs.size = some o := fun o e => e4 ▸ k₄ _ _ (k₃ _ _ e)
    exact hiter.keep (fun b o e _ => e4 ▸ k₄ _ _ (k₃ _ _ e)) hix
  have ownI : ∀ a, s₁.heap.get? a = none → (∃ o, s₄.heap.get? a = some o) → OwnAt hb s₁ σ₁ s₄ a := fun a ha ho => ⟨(newer a ha).1, ha, (newer a ha).2, ho⟩
  have hiO : ∃ o, s₄.heap.get? s₁.heap.objs.size = some o := by
    unfold IterOk at hit4
    split at hit4
    · obtain ⟨o, e, _⟩ := hit4; exact ⟨o, e⟩
    · obtain ⟨_, _, _, _, ⟨o, e, _⟩, _⟩ := hit4; exact ⟨o, e⟩
    · exact ⟨_, hit4.2⟩
    · exact hit4.elim
  have hD4 : s₄.heap.get? s₂.heap.objs.size = some (lstOf [] 0) := e4 ▸ k₄ _ _ hD₃
  have cells_old : ∀ m a, cl.lookup m = some a → s₁.heap.get? a ≠ none := fun m a e => by
    obtain ⟨_, _, o, e⟩ := E₁.own a (.inr ⟨m, h1 _ _ e⟩)
    rw [e]; simp
  refine compStart_G hit4 ?_
  refine compLoop_G (cx := c.comp sc x) (top := c.top) (env := compEnvC sc cl s₃.heap.objs.size env) (σ₀ := σ₁) (s₀ := s₁) (ρ := ρ) (Qf := Qf) ?_ ?_ he hi hA ?_ ?_ ?_ ?_ ?_ hL ?_ all 0 [] [] 0 (ρ.set c.top none) σ₁ s₄ rfl (Nat.zero_le _) (fun v => List.set_set ..) q En I₄ X₄ (ownI _ hDf ⟨_, hD4⟩) (ownI _ hIf hiO) hit4 hD4 rfl
  · unfold Cx.slot
    rw [show (c.comp sc x).sc.names.lookup x = some .local from FC.loc]
    unfold Cx.comp; simp
  · exact lookup_relabel_local FC.loc
  · show s₂.heap.objs.size ≠ s₁.heap.objs.size; lia
  · show s₂.heap.objs.size ≠ s₃.heap.objs.size; lia
  · show s₁.heap.objs.size ≠ s₃.heap.objs.size; lia
  · exact fun m e => cells_old m _ e hDf
  · exact fun m e => cells_old m _ e hIf
  · intro Ws σ' s' vs k qf rs hD I' X' OD hns OL
    have conv : ∀ a, OwnAt hb s₁ σ' s' a → OwnAt hb s σ' s' a := fun a O => ⟨O.1, before a O.2.1, O.2.2.1, O.2.2.2⟩
    exact hfin _ _ Ws σ' s' vs k qf rs hD I' (X₁.trans X') (conv _ OD) hns (conv _ OL) (by show s₂.heap.objs.size ≠ s₃.heap.objs.size; lia)
end
end Mine
end
section
set_option tactic.hygienic false
set_option backward.match.sparseCases false
open PySem PySem.W PyProof.Rows PySem.Calls
open PySem.Sem (wp)
set_option maxRecDepth 100000
namespace Mine
section
variable {prog : Program} {w : World} {A : Around} {hb : Heap} {σ : Hp} {s s₀ : Shared} {c : Cx} {env : Env} {ρ : Rho} {K : Frag} {T : Tab} {C : Calls} {n : Nat} {σ₀ : Hp}

/-- an own object is taken into σ -/
theorem Inv.take {σ' : Hp} (I : Inv hb σ' s) {D : Addr} (O : OwnAt hb s₀ σ' s D) {Ws : List V} (R : RepO s.heap D (.lst Ws)) (X : Ext σ s₀ σ' s) : Inv hb (upd σ' D (.lst Ws)) s ∧ Ext σ s₀ (upd σ' D (.lst Ws)) s := by
  have ff : ∀ b, Foot (upd σ' D (.lst Ws)) b → Foot σ' b ∨ b = D := fun b f => by
    rcases foot_upd f with f | f | ⟨_, _, e, _⟩
    · exact .inl f
    · exact .inr f
    · cases e
  refine ⟨⟨I.base, fun a o e => ?_, fun b f => ?_⟩, ⟨fun b f => ?_, X.keep, X.gens, X.os, X.ex⟩⟩
  · by_cases h : a = D
    · subst h; rw [upd_self] at e; cases e; exact R
    · rw [upd_other _ _ h] at e; exact I.rep a o e
  · rcases ff b f with f | rfl
    · exact I.new b f
    · exact O.1
  · rcases ff b f with f | rfl
    · exact X.foot b f
    · exact .inr O.2.1
theorem OwnAt.none {σ' : Hp} {D : Addr} (O : OwnAt hb s₀ σ' s D) : σ' D = none := by
  induction e : σ' D using Option.casesOn with
  | none => rfl
  | some o => exact absurd ⟨D, o, e, .inl rfl⟩ O.2.2.1
theorem SE_comp {sc : Scope} {x : PySem.Str} {elt iter : PySem.Expr} {px : Pos} {ifs : List PySem.Expr} {pos : Pos} {y it : E} {ys : List E}
    (hok : compOk c sc x = true) (hfold : ∀ env v, foldedSetIterable iter env v = pure v) (hit : SE prog w hb T C n c iter it) (he : SE prog w hb T C n (c.comp sc x) elt y) (hi : SAs prog w hb T C n (c.comp sc x) ifs ys) :
    SE prog w hb T C n c (.ListComp elt [⟨.Name x px, iter, ifs, 0⟩] sc pos) (.comp y c.top it ys) := fun A hA env ρ σ s Q E I q => by
  rw [eval_ListComp]
  refine comp_run (use := none) hok (hfold env) hit he hi hA E I q fun D L Ws σ' s' vs k qf rs hD I' X' OD hns OL hDL => ?_
  obtain ⟨m, hn⟩ := hns
  refine ⟨m, hn, fun h' hs' => ?_⟩
  have xb := hs'.extBut
  have nf := ns_nofix hn
  have kf : ∀ b o, s'.heap.get? b = some o → fixedO o → h'.get? b = some o := fun b o e f => xb b o (fun z => by subst z; exact nf _ e f) e
  obtain ⟨I2, X2⟩ := (I'.otherX (s' := { s' with heap := h' }) xb OL.1 OL.2.2.1 nf).take (OD.otherX xb hDL) (Ws := Ws) ⟨vs, k, xb D _ hDL hD, rs.keep kf⟩ (X'.otherX xb OL.2.1 rfl rfl)
  exact ⟨_, _, qf D OD.none, by rfl, I2, X2⟩

theorem SB_of_false {e : PySem.Expr} {x : E} (h : ∀ ρ σ Q, wpB T C x ρ σ Q → False) : SB prog w hb T C n c e x := fun _ _ _ _ _ _ _ _ _ q => (h _ _ _ q).elim
theorem slice_no {k : Nat} {e : PySem.Expr} {x : E} (h : compE c k e = some x) : ∀ a b d, e ≠ .Slice a b none d := by
  intro a b d he
  subst he
  induction k using Nat.casesOn <;> exact noneSome h
/-- a part, by a slice or by an index -/
theorem sub_of {k : Nat} {v i : PySem.Expr} {p : Pos} {x : E} (h : compE c (k + 1) (.Subscript v i p) = some x) : (∃ lo hi p', i = .Slice lo hi none p' ∧ ((compE c k v).bind fun a => (compO c k lo).bind fun l => (compO c k hi).map fun h => E.slc a l h) = some x) ∨ ((compE c k v).bind fun a => (compE c k i).map fun b => E.idx a b) = some x := by
  induction i using PySem.Expr.casesOn with
  | Slice lo hi st p' =>
    induction st using Option.casesOn with
    | none => exact .inl ⟨lo, hi, p', rfl, h⟩
    | some _ => exact .inr h
  | _ => exact .inr h
theorem neg_of {k : Nat} {v : PySem.Expr} {p : Pos} {x : E} (h : compE c (k + 1) (.UnaryOp .USub v p) = some x) : ∃ i t q, v = .Constant (.int i) t q ∧ E.int (-i) = x := by
  induction v using PySem.Expr.casesOn with
  | Constant u t q =>
    induction u using PySem.Const.casesOn with
    | int i => exact ⟨i, t, q, rfl, Option.some.inj h⟩
    | _ => exact noneSome h
  | _ => exact noneSome h
theorem call_of {k : Nat} {f : PySem.Expr} {args : List PySem.Expr} {ks : List Keyword} {pos : Pos} {x : E} (h : compE c (k + 1) (.Call f args ks pos) = some x) : ks = [] ∧ ((∃ v n apos, f = .Attribute v n apos ∧ (if (apos.endLine == pos.line && decide (args.length < 30)) = true then
        (attrId n).bind fun m => (compE c k v).bind fun a => (compEs c k args).map fun es => E.meth a m es else none) = some x) ∨ ∃ n p, f = .Name n p ∧ (if (n == ("__debug__" : PySem.Str) || n == ("super" : PySem.Str) || decide (30 ≤ args.length)) = true then none else match c.glob n with
      | some (.fn a) => (compEs c k args).map (E.call a)
      | some (.cls a) => (compEs c k args).map (E.new a)
      | some (.bi b) => (compEs c k args).map (E.bi b)
      | _ => none) = some x) := by
  induction f using PySem.Expr.casesOn with
  | Attribute v n apos =>
    induction ks using List.casesOn with
    | nil => exact ⟨rfl, .inl ⟨v, n, apos, rfl, h⟩⟩
    | cons _ _ => exact noneSome h
  | Name n p =>
    induction ks using List.casesOn with
    | nil => exact ⟨rfl, .inr ⟨n, p, rfl, h⟩⟩
    | cons _ _ => exact noneSome h
  | _ => exact noneSome h
theorem comp_of {k : Nat} {elt : PySem.Expr} {gs : List Comprehension} {sc : Scope} {pos : Pos} {x : E} (h : compE c (k + 1) (.ListComp elt gs sc pos) = some x) : ∃ y p iter ifs, gs = [⟨.Name y p, iter, ifs, 0⟩] ∧ compOk c sc y = true ∧ ((compE c k iter).bind fun it => (compE (c.comp sc y) k elt).bind fun el => (compEs (c.comp sc y) k ifs).map fun cs => E.comp el c.top it cs) = some x := by
  rcases gs with _ | ⟨⟨t, iter, ifs, as⟩, _ | ⟨_, _⟩⟩
  · exact noneSome h
  · induction t using PySem.Expr.casesOn with
    | Name y p =>
      by_cases ha : as = 0
      · subst ha
        replace h : (if compOk c sc y = true then _ else none) = some x := h
        by_cases ho : compOk c sc y = true
        · rw [if_pos ho] at h
          exact ⟨y, p, iter, ifs, rfl, ho, h⟩
        · rw [if_neg ho] at h
          exact noneSome h
      · exfalso
        rcases as with (_ | _) | _
        · exact ha rfl
        · exact noneSome h
        · exact noneSome h
    | _ => exact noneSome h
  · induction t using PySem.Expr.casesOn <;> first | exact noneSome h | (rcases as with (_ | _) | _ <;> exact noneSome h)
theorem bindE {α β : Type} {o : Option α} {f : α → Option β} {b : β} {G : Prop} (h : o.bind f = some b) (g : ∀ a, o = some a → f a = some b → G) : G := by
  rcases o with _ | a
  · exact noneSome h
  · exact g a rfl h
structure SEB (prog : Program) (w : World) (hb : Heap) (T : Tab) (C : Calls) (n : Nat) (c : Cx) (e : PySem.Expr) (x : E) : Prop where
  se : SE prog w hb T C n c e x
  sb : SB prog w hb T C n c e x
structure SEL (prog : Program) (w : World) (hb : Heap) (T : Tab) (C : Calls) (n : Nat) (c : Cx) (es : List PySem.Expr) (xs : List E) : Prop where
  l : SL prog w hb T C n c es xs
  o : SO prog w hb T C n c es xs
  b : SBs prog w hb T C n c es xs
  a : SAs prog w hb T C n c es xs
  nil : es = [] ↔ xs = []
  star : ∀ env, (starEach es env).any (·.1) = false
theorem mapE {α : Type} {o : Option α} {f : α → E} {x : E} {e : PySem.Expr} (h : o.map f = some x) (g : ∀ a, o = some a → SEB prog w hb T C n c e (f a)) : SEB prog w hb T C n c e x := by
  rcases o with _ | a
  · exact noneSome h
  · obtain rfl := Option.some.inj h; exact g a rfl
theorem SEB.no {e : PySem.Expr} {x : E} (h : SE prog w hb T C n c e x) (g : ∀ ρ σ Q, wpB T C x ρ σ Q → False) : SEB prog w hb T C n c e x := ⟨h, SB_of_false g⟩
theorem ifE {α : Type} {p : Bool} {o : Option α} {x : α} {G : Prop} (h : (if p = true then o else none) = some x) (g : p = true → o = some x → G) : G := by
  rcases p with _ | _
  · exact noneSome h
  · exact g rfl h
theorem ifN {α : Type} {p : Bool} {o : Option α} {x : α} {G : Prop} (h : (if p = true then none else o) = some x) (g : p = false → o = some x → G) : G := by
  rcases p with _ | _
  · exact g rfl h
  · exact noneSome h
theorem sound (B : Base prog w hb K T C n) : ∀ k,
    (∀ c e x, c.K = K → compE c k e = some x → SEB prog w hb T C n c e x) ∧
    (∀ c es xs, c.K = K → compEs c k es = some xs → SEL prog w hb T C n c es xs) ∧
    (∀ c e x, c.K = K → compO c k e = some x → SOpt prog w hb T C n c e x) := by
  intro k
  induction k with
  | zero => exact ⟨fun c e x _ h => noneSome h, fun c es xs _ h => noneSome h, fun c e x _ h => noneSome h⟩
  | succ k ih =>
    obtain ⟨ihE, ihL, ihO⟩ := ih
    refine ⟨fun c e x hK h => ?_, fun c es xs hK h => ?_, fun c e x hK h => ?_⟩
    · induction e using PySem.Expr.casesOn with
      | Constant v t p =>
        induction v using PySem.Const.casesOn with
        | int i => obtain rfl := Option.some.inj h; exact .no (SE_int _ _ _) fun _ _ _ q => q
        | bytes b => obtain rfl := Option.some.inj h; exact .no (SE_bytes _ _ _) fun _ _ _ q => q
        | none => obtain rfl := Option.some.inj h; exact .no (SE_none _ _) fun _ _ _ q => q
        | bool b => obtain rfl := Option.some.inj h; exact ⟨SE_bool _ _ _, SB_val (fun _ => rfl) (SE_bool _ _ _) fun ρ σ Q q => q⟩
        | _ => exact noneSome h
      | Name m p =>
        refine ifN (p := m == ("__debug__" : PySem.Str)) h fun hd h => ?_
        clear ihE ihL ihO
        rcases hy : c.slot m with _ | y
        · rw [hy] at h
          rcases hi : c.glob m with _ | g
          · rw [hi] at h; exact noneSome h
          · rw [hi] at h
            rcases g with _ | _ | i | _
            · exact noneSome h
            · exact noneSome h
            · obtain rfl := Option.some.inj h
              exact .no (SE_gint B.F hK _ hd hi) fun _ _ _ q => q
            · exact noneSome h
        · rw [hy] at h
          obtain rfl := Option.some.inj h
          exact ⟨SE_var _ hd hy, SB_val (fun _ => rfl) (SE_var _ hd hy) fun ρ σ Q q => q⟩
      | BinOp l op r p =>
        exact bindE h fun o h1 h => bindE h fun a h2 h => mapE h fun b h3 => .no (SE_bin _ h1 (ihE _ _ _ hK h2).se (ihE _ _ _ hK h3).se) fun _ _ _ q => q
      | Compare l ops rs p =>
        rcases ops with _ | ⟨op, _ | ⟨_, _⟩⟩
        · exact noneSome h
        · rcases rs with _ | ⟨r, _ | ⟨_, _⟩⟩
          · exact noneSome h
          · exact bindE h fun o h1 h => bindE h fun a h2 h => mapE h fun b h3 => ⟨SE_cmp _ h1 (noMarks h3) (ihE _ _ _ hK h2).se (ihE _ _ _ hK h3).se, SB_cmp _ h1 (noMarks h3) (ihE _ _ _ hK h2).se (ihE _ _ _ hK h3).se⟩
          · exact noneSome h
        · rcases rs with _ | ⟨r, _ | ⟨_, _⟩⟩ <;> exact noneSome h
      | BoolOp op es p =>
        induction op using PySem.BoolOp.casesOn with
        | And => exact mapE h fun a h2 => ⟨SE_bop _ true (ihL _ _ _ hK h2).o, SB_bop _ true (ihL _ _ _ hK h2).b⟩
        | Or => exact mapE h fun a h2 => ⟨SE_bop _ false (ihL _ _ _ hK h2).o, SB_bop _ false (ihL _ _ _ hK h2).b⟩
      | UnaryOp op e p =>
        induction op using PySem.UnaryOp.casesOn with
        | Not => exact mapE h fun a h2 => ⟨SE_not _ (ihE _ _ _ hK h2).se, SB_not _ (ihE _ _ _ hK h2).sb⟩
        | USub =>
          obtain ⟨i, t, q, rfl, rfl⟩ := neg_of h
          exact .no (SE_neg _ _ _ _) fun _ _ _ q => q
        | _ => exact noneSome h
      | Attribute v m p =>
        refine bindE h fun f h1 h => mapE h fun a h2 => ?_
        obtain rfl := (attrId_name h1).1
        have := SE_attr B (f := f) p (plainBase_of h2) (ihE _ _ _ hK h2).se
        exact ⟨this, SB_val (fun _ => rfl) this fun ρ σ Q q => q⟩
      | Subscript v i p =>
        have g := sub_of h
        clear h
        rcases g with ⟨lo, hi, p', rfl, h⟩ | h
        · exact bindE h fun a h1 h => bindE h fun l h2 h => mapE h fun r h3 => .no (SE_slc B _ _ (ihE _ _ _ hK h1).se (ihO _ _ _ hK h2) (ihO _ _ _ hK h3)) fun _ _ _ q => q
        · exact bindE h fun a h1 h => mapE h fun r h3 => .no (SE_idx _ (slice_no h3) (ihE _ _ _ hK h1).se (ihE _ _ _ hK h3).se) fun _ _ _ q => q
      | List es p => exact mapE h fun a h2 => .no (SE_list _ (ihL _ _ _ hK h2).l) fun _ _ _ q => q
      | Tuple es t p => exact mapE h fun a h2 => .no (SE_tup _ _ (ihL _ _ _ hK h2).l) fun _ _ _ q => q
      | Call f args ks pos =>
        have g := call_of h
        clear h
        obtain ⟨rfl, g⟩ := g
        rcases g with ⟨v, m, apos, rfl, h⟩ | ⟨m, p, rfl, h⟩
        · refine ifE h fun hc h => bindE h fun m h1 h => bindE h fun a h2 h => mapE h fun es h3 => ?_
          rw [Bool.and_eq_true, decide_eq_true_eq] at hc
          obtain rfl := (attrId_name h1).1
          have := SE_meth B (m := m) _ _ (plainBase_of h2) hc.1 hc.2 (ihE _ _ _ hK h2).se (ihL _ _ _ hK h3).l (ihL _ _ _ hK h3).star
          exact ⟨this, SB_val (fun _ => rfl) this fun ρ σ Q q => q⟩
        · refine ifN h fun hd h => ?_
          rw [Bool.or_eq_false_iff, Bool.or_eq_false_iff] at hd
          rcases hg : c.glob m with _ | g
          · rw [hg] at h; exact noneSome h
          · rw [hg] at h
            rcases g with a | a | i | a
            · refine mapE h fun es h3 => ?_
              have this := SE_call B hK p pos hd.1.1 hg (ihL _ _ _ hK h3).l (ihL _ _ _ hK h3).star
              exact ⟨this, SB_val (fun _ => rfl) this fun ρ σ Q q => q⟩
            · exact mapE h fun es h3 => .no (SE_new B hK _ _ hd.1.1 hg (ihL _ _ _ hK h3).l (ihL _ _ _ hK h3).star) fun _ _ _ q => q
            · exact noneSome h
            · exact mapE h fun es h3 => .no (SE_bi B hK _ _ hd.1.1 hg (ihL _ _ _ hK h3).l (ihL _ _ _ hK h3).star) fun _ _ _ q => q
      | ListComp elt gs sc pos =>
        have g := comp_of h
        clear h
        obtain ⟨y, p, iter, ifs, rfl, hok, h⟩ := g
        exact bindE h fun it h1 h => bindE h fun el h2 h => mapE h fun cs h3 => .no (SE_comp hok (folded_of h1) (ihE _ _ _ hK h1).se (ihE (c.comp _ _) _ _ hK h2).se (ihL (c.comp _ _) _ _ hK h3).a) fun _ _ _ q => q
      | _ => exact noneSome h
    · rcases es with _ | ⟨e, es⟩
      · obtain rfl := Option.some.inj h
        exact ⟨SL_nil, SO_nil, SBs_nil, SAs_nil, ⟨fun _ => rfl, fun _ => rfl⟩, fun _ => rfl⟩
      · refine bindE h fun a h1 h => ?_
        rcases h2 : compEs c k es with _ | as
        · rw [h2] at h; exact noneSome h
        · rw [h2] at h
          obtain rfl := Option.some.inj h
          have l := ihL _ _ _ hK h2
          have e1 := ihE _ _ _ hK h1
          refine ⟨SL_cons (starE h1 es) e1.se l.l, SO_cons e1.se l.o l.nil, SBs_cons e1.sb l.b, SAs_cons e1.sb l.a, ⟨fun h => (nomatch h), fun h => (nomatch h)⟩, fun env => ?_⟩
          rw [starE h1 es env]
          exact l.star env
    · rcases e with _ | e
      · obtain rfl := Option.some.inj h; rfl
      · exact (ihE _ _ _ hK h).se
end
end Mine
end
section
set_option backward.match.sparseCases false
open PySem PySem.W PyProof.Rows PySem.Calls
open PySem.Sem (wp)
set_option maxRecDepth 100000
namespace Mine

/-- an address of the block's own -/
noncomputable def Ours (env : Env) (b : Addr) : Prop := b = env.locals ∨ ∃ n, env.cells.lookup n = some b
/-- what a statement may do -/
structure ExtE (env : Env) (σ : Hp) (s : Shared) (σ' : Hp) (s' : Shared) : Prop where
  foot : ∀ b, Foot σ' b → Foot σ b ∨ s.heap.get? b = none
  keep : ∀ b o, s.heap.get? b = some o → ¬ Foot σ b → ¬ Ours env b → s'.heap.get? b = some o
  gens : s'.gens = s.gens
  os : s'.os = s.os
  ex : ∀ b o, s.heap.get? b = some o → ∃ o', s'.heap.get? b = some o'
theorem Ext.e {env : Env} {σ s σ' s'} (X : Ext σ s σ' s') : ExtE env σ s σ' s' := ⟨X.foot, fun b o e n _ => X.keep b o e n, X.gens, X.os, X.ex⟩
theorem ExtE.refl (env : Env) (σ : Hp) (s : Shared) : ExtE env σ s σ s := (Ext.refl σ s).e
theorem ExtE.trans {env : Env} {σ₀ s₀ σ₁ s₁ σ₂ s₂} (X : ExtE env σ₀ s₀ σ₁ s₁) (Y : ExtE env σ₁ s₁ σ₂ s₂) : ExtE env σ₀ s₀ σ₂ s₂ := by
  have none_of : ∀ b, s₁.heap.get? b = none → s₀.heap.get? b = none := fun b h => by
    induction e : s₀.heap.get? b using Option.casesOn with
    | none => rfl
    | some o => obtain ⟨o', e'⟩ := X.ex b o e; rw [h] at e'; cases e'
  refine ⟨fun b h => ?_, fun b o e n h => ?_, Y.gens.trans X.gens, Y.os.trans X.os, fun b o e => ?_⟩
  · rcases Y.foot b h with h | h
    · exact X.foot b h
    · exact .inr (none_of b h)
  · refine Y.keep b o (X.keep b o e n h) (fun hF => ?_) h
    rcases X.foot b hF with h | h
    · exact n h
    · rw [e] at h; cases h
  · obtain ⟨o', e'⟩ := X.ex b o e
    exact Y.ex b o' e'
theorem ExtE.sub {env : Env} {σ s σ' s' τ} (X : ExtE env σ s σ' s') (h : Sub τ σ') : ExtE env σ s τ s' := ⟨fun b f => X.foot b (h.foot f), X.keep, X.gens, X.os, X.ex⟩
theorem ExtE.own {env : Env} {σ : Hp} {s s' : Shared} {b : Addr} (hs : Heap.SameBut b s.heap s'.heap) (ho : Ours env b) (hex : ∃ o, s'.heap.get? b = some o) (hg : s'.gens = s.gens) (h' : s'.os = s.os) : ExtE env σ s σ s' :=
  ⟨fun _ h => .inl h, fun c o e _ n => (hs.2 c (fun z => n (z ▸ ho))).trans e, hg, h', fun c o e => by
    by_cases h : c = b
    · subst h; exact hex
    · exact ⟨o, (hs.2 c h).trans e⟩⟩
theorem ExtE.otherX {env : Env} {σ₀ σ : Hp} {s₀ s s' : Shared} (X : ExtE env σ₀ s₀ σ s) {b : Addr} (hs : Heap.ExtBut b s.heap s'.heap) (h0 : s₀.heap.get? b = none) (hg : s'.gens = s.gens) (ho : s'.os = s.os) : ExtE env σ₀ s₀ σ s' :=
  ⟨X.foot, fun c o e n h => hs c o (fun z => by rw [z, h0] at e; cases e) (X.keep c o e n h), hg.trans X.gens, ho.trans X.os, fun c o e => by
    obtain ⟨o', e'⟩ := X.ex c o e
    exact ⟨o', hs c o' (fun z => by rw [z, h0] at e; cases e) e'⟩⟩

noncomputable def FlRep (h : Heap) : Fl → Flow → Prop
  | .next, f => f = .next
  | .ret V, f => ∃ v, f = .ret v ∧ Rep h V v
noncomputable def NoFree (c : Cx) (env : Env) : Prop := ∀ n x, c.slot n = some x → env.kindOf n ≠ some .free
noncomputable def PostS (hb : Heap) (c : Cx) (env : Env) (σ : Hp) (s : Shared) (Q : K2) : Flow → Shared → Prop := fun f s' => ∃ F ρ' σ', Q F ρ' σ' ∧ FlRep s'.heap F f ∧ EnvOk hb c env σ' ρ' s' ∧ Inv hb σ' s' ∧ ExtE env σ s σ' s'
theorem PostS.after {hb c env σ s σ' s' Q f s''} (X : ExtE env σ s σ' s') (p : PostS hb c env σ' s' Q f s'') : PostS hb c env σ s Q f s'' := by
  obtain ⟨F, ρ, τ, a, b, d, e, g⟩ := p; exact ⟨F, ρ, τ, a, b, d, e, X.trans g⟩
section
variable (prog : Program) (w : World) (hb : Heap) (T : Tab) (C : Calls) (n : Nat) (c : Cx)
noncomputable def SS (st : PySem.Stmt) (x : S) : Prop := ∀ A, RoomE n A → ∀ env ρ σ s Q, NoFree c env → EnvOk hb c env σ ρ s → Inv hb σ s → wpS T C x ρ σ Q → wpG (model prog w) A (exec st env) (PostS hb c env σ s Q) s
noncomputable def SSs (st : List PySem.Stmt) (x : List S) : Prop := ∀ A, RoomE n A → ∀ env ρ σ s Q, NoFree c env → EnvOk hb c env σ ρ s → Inv hb σ s → wpSs T C x ρ σ Q → wpG (model prog w) A (execs st env) (PostS hb c env σ s Q) s
end
section
variable {prog : Program} {w : World} {A : Around} {hb : Heap} {σ : Hp} {s s₀ : Shared} {c : Cx} {env : Env} {ρ : Rho} {K : Frag} {T : Tab} {C : Calls} {n : Nat} {σ₀ : Hp}

theorem wr_ours {m : PySem.Str} {b : Addr} (h : Wr env m b) : Ours env b := by
  rcases h with h | h
  · exact .inl h.2
  · exact .inr ⟨m, h.2⟩
/-- a name is bound -/
theorem bind_sound (E : EnvOk hb c env σ ρ s) (I : Inv hb σ s) (hN : NoFree c env) {m : PySem.Str} {x : Nat} {W : V} {v : Value} {Q : Unit → Shared → Prop} (hs : c.slot m = some x) (r : Rep s.heap W v)
    (h : ∀ s', EnvOk hb c env σ (ρ.set x (some W)) s' → Inv hb σ s' → ExtE env σ s σ s' → (∀ V u, Rep s.heap V u → Rep s'.heap V u) → Q () s') : wpG (model prog w) A (bindName env m v) Q s := by
  refine wpG_bind (wpG_holding (wpG_point (wpG_bind (store_sound E I hs (hN _ _ hs) r fun h' tk b hw hs' E' I' => wpG_point ?_))))
  obtain ⟨h1, h2, o, h3⟩ := E'.own b (wr_ours hw)
  refine h _ E' I' (.own hs' (wr_ours hw) ⟨o, h3⟩ rfl rfl) fun V u ru => ru.other hs' ?_
  rcases hw with ⟨_, rfl⟩ | ⟨hk, hc⟩
  · obtain ⟨m0, hn0, _⟩ := E.loc
    exact ns_nofix hn0
  · obtain ⟨_, a, ov, k2, k3, _⟩ := E.cel m x hs (by rw [hk]; simp)
    rw [hc] at k2; cases k2
    exact cell_nofix k3
theorem assign_sound (E : EnvOk hb c env σ ρ s) (I : Inv hb σ s) (hN : NoFree c env) {m : PySem.Str} {p : Pos} {x : Nat} {W : V} {v : Value} {Q : Unit → Shared → Prop} (hs : c.slot m = some x) (r : Rep s.heap W v)
    (h : ∀ s', EnvOk hb c env σ (ρ.set x (some W)) s' → Inv hb σ s' → ExtE env σ s σ s' → (∀ V u, Rep s.heap V u → Rep s'.heap V u) → Q () s') : wpG (model prog w) A (assign (.Name m p) env v) Q s := by
  rw [arm_assign_Name]
  exact wpG_bind (wpG_standAt (bind_sound E I hN hs r h))
theorem RepL.map {h h' : Heap} (k : ∀ V u, Rep h V u → Rep h' V u) : ∀ {Ws vs}, RepL h Ws vs → RepL h' Ws vs
  | [], _, r => r
  | W :: Ws, _, r => by
    obtain ⟨v, l, e, a, b⟩ := r
    exact ⟨v, l, e, k _ _ a, RepL.map k b⟩
/-- names are bound one after the other -/
theorem assigns_sound (hN : NoFree c env) {Q : Unit → Shared → Prop} : ∀ {ts : List PySem.Expr} {xs : List Nat} {Ws : List V} {vs : List Value} {ρ ρ' : Rho} {s : Shared}, slotsOf c ts = some xs → setAll xs Ws ρ = some ρ' → EnvOk hb c env σ ρ s → Inv hb σ s → RepL s.heap Ws vs →
    (∀ s', EnvOk hb c env σ ρ' s' → Inv hb σ s' → ExtE env σ s σ s' → Q () s') → wpG (model prog w) A (assignInOrder ((assignEach ts env).map (·.2)) vs) Q s
  | [], xs, Ws, vs, ρ, ρ', s, hs, ha, E, I, r, h => by
    simp only [slotsOf, Option.some.injEq] at hs
    subst hs
    induction Ws using List.casesOn with
    | nil =>
      unfold setAll at ha; cases ha
      exact wpG_pure (h s E I (.refl _ _ _))
    | cons _ _ => simp [setAll] at ha
  | t :: ts, xs, Ws, vs, ρ, ρ', s, hs, ha, E, I, r, h => by
    unfold slotsOf at hs
    split at hs
    · rename_i he; cases he
    · rename_i m p es he
      cases he
      obtain ⟨x, h1, hs⟩ := Option.bind_eq_some_iff.mp hs
      obtain ⟨ys, h2, rfl⟩ := Option.map_eq_some_iff.mp hs
      induction Ws using List.casesOn with
      | nil => simp [setAll] at ha
      | cons W Ws =>
        unfold setAll at ha
        obtain ⟨v, l, rfl, rv, rl⟩ := r
        show wpG _ _ (holding l (assign (.Name m p) env v) >>= fun _ => assignInOrder ((assignEach ts env).map (·.2)) l) _ _
        refine wpG_bind (wpG_holding (assign_sound E I hN h1 rv fun s₁ E₁ I₁ X₁ k₁ => ?_))
        exact assigns_sound hN h2 ha E₁ I₁ (rl.map k₁) fun s₂ E₂ I₂ X₂ => h s₂ E₂ I₂ (X₁.trans X₂)
    · cases hs
theorem slotsOf_each : ∀ {ts : List PySem.Expr} {xs : List Nat}, slotsOf c ts = some xs → (assignEach ts env).length = ts.length ∧ (assignEach ts env).findIdx? (·.1) = none ∧ xs.length = ts.length
  | [], xs, h => by simp only [slotsOf, Option.some.injEq] at h; subst h; exact ⟨rfl, rfl, rfl⟩
  | t :: ts, xs, h => by
    unfold slotsOf at h
    split at h
    · rename_i he; cases he
    · rename_i m p es he
      cases he
      obtain ⟨x, h1, h⟩ := Option.bind_eq_some_iff.mp h
      obtain ⟨ys, h2, rfl⟩ := Option.map_eq_some_iff.mp h
      obtain ⟨a, b, d⟩ := slotsOf_each h2
      refine ⟨?_, ?_, ?_⟩
      · show (assignEach ts env).length + 1 = _; rw [a]; rfl
      · show ((false, assign (.Name m p) env) :: assignEach ts env).findIdx? (·.1) = none
        rw [List.findIdx?_cons, b]; rfl
      · simp [d]
    · cases h
theorem setAll_length : ∀ {xs : List Nat} {Ws : List V} {ρ ρ' : Rho}, setAll xs Ws ρ = some ρ' → xs.length = Ws.length
  | [], [], _, _, _ => rfl
  | [], _ :: _, _, _, h => by simp [setAll] at h
  | _ :: _, [], _, _, h => by simp [setAll] at h
  | x :: xs, W :: Ws, ρ, ρ', h => by unfold setAll at h; simp [setAll_length h]
/-- a tuple is taken apart -/
theorem unpack_sound (hh : A.handled = none) (E : EnvOk hb c env σ ρ s) (I : Inv hb σ s) (hN : NoFree c env) {ts : List PySem.Expr} {k : Nat} {pos : Pos} {xs : List Nat} {Ws : List V} {v : Value} {ρ' : Rho} {Q : Unit → Shared → Prop}
    (hs : slotsOf c ts = some xs) (ha : setAll xs Ws ρ = some ρ') (r : Rep s.heap (.tup Ws) v) (h : ∀ s', EnvOk hb c env σ ρ' s' → Inv hb σ s' → ExtE env σ s σ s' → Q () s') : wpG (model prog w) A (assign (.Tuple ts k pos) env v) Q s := by
  obtain ⟨a, vs, m, rfl, g, rl⟩ := r
  obtain ⟨e1, e2, e3⟩ := slotsOf_each (env := env) hs
  have e4 := setAll_length ha
  have e5 := rl.length
  rw [arm_assign_Tuple]
  refine wpG_bind (wpG_standAt ?_)
  have hu : ∀ {Q' : List Value → Shared → Prop}, (∀ h', Heap.ExtBut s.heap.objs.size s.heap h' → Q' vs { s with heap := h' }) → wpG (model prog w) A (unpackItems (.ref a) (assignEach ts env).length ((assignEach ts env).findIdx? (·.1))) Q' s := fun {Q'} hq => by
    rw [e2, show (assignEach ts env).length = vs.toArray.size by rw [e1, List.size_toArray]; lia]
    exact wpG_of_any (wpAny_unpackItems_tuple hh (isTuple_of g) hq)
  unfold unpack
  refine wpG_bind (wpG_holding (hu fun h' hs' => ?_))
  have kk : ∀ b o, s.heap.get? b = some o → h'.get? b = some o := fun b o e => hs' b o (Nat.ne_of_lt (Heap.lt_size e)) e
  have X : Ext σ s σ { s with heap := h' } := .grow kk rfl rfl
  refine assigns_sound hN hs ha (E.keep I X) (I.grow (s' := { s with heap := h' }) kk) (rl.keep fun b o e _ => kk b o e) fun s' E' I' X' => h s' E' I' (X.e.trans X')
theorem notfn (E : EnvOk hb c env σ ρ s) : interactive env = false := by unfold interactive; rw [E.fn]; rfl

/-! assignments -/
theorem noSwap {e : PySem.Expr} {t : Option PySem.Expr} {l : Nat} (h : isComp e = false) : swapsWith e t l env = pure false := by
  induction e using PySem.Expr.casesOn <;> first | rfl | cases h
theorem noSwapA {e o : PySem.Expr} {m : PySem.Str} {p : Pos} {l : Nat} : swapsWith e (some (.Attribute o m p)) l env = pure false := by induction e using PySem.Expr.casesOn <;> rfl
theorem noSwapI {e o i : PySem.Expr} {p : Pos} {l : Nat} : swapsWith e (some (.Subscript o i p)) l env = pure false := by induction e using PySem.Expr.casesOn <;> rfl
theorem swapSole {t v : PySem.Expr} {l : Nat} : swapsWithSole [t] v l env = swapsWith v (some t) l env := rfl
theorem noSwapped {m : PySem.Str} {p : Pos} {v : PySem.Expr} : swappedStores [.Name m p] v env = pure none := by induction v using PySem.Expr.casesOn <;> rfl
theorem noSwappedA {o : PySem.Expr} {m : PySem.Str} {p : Pos} {v : PySem.Expr} : swappedStores [.Attribute o m p] v env = pure none := by induction v using PySem.Expr.casesOn <;> rfl
theorem noSwappedI {o i : PySem.Expr} {p : Pos} {v : PySem.Expr} : swappedStores [.Subscript o i p] v env = pure none := by induction v using PySem.Expr.casesOn <;> rfl
theorem swap_comp {elt : PySem.Expr} {gens sc pos} {m : PySem.Str} {p : Pos} {l : Nat} : ∃ b, swapsWith (.ListComp elt gens sc pos) (some (.Name m p)) l env = pure b := ⟨_, rfl⟩

section
variable {R : K2} {e l i : E} {x f : Nat} {xs : List Nat} {op : BOp} {a b : List S} {G : K1}
theorem d_asg (h : wpS T C (.asg x e) ρ σ R) : wpE T C e ρ σ fun v σ => R .next (ρ.set x (some v)) σ := h
theorem d_comp {es : List E} (h : wpE T C (.comp e x i es) ρ σ G) : wpE T C i ρ σ fun s σ => ∃ all, itemsOf σ s = some all ∧ all.length ≤ lim ∧
      compLoop s all (fun v σ Q => wpA T C es (ρ.set x (some v)) σ Q) (fun v σ Q => wpE T C e (ρ.set x (some v)) σ Q) all [] σ
        fun vs σ => ∀ r, σ r = Option.none → G (.ref r) (upd σ r (.lst vs)) := h
theorem d_asgT (h : wpS T C (.asgT xs e) ρ σ R) : wpE T C e ρ σ fun v σ => match v with
      | .tup vs => ∃ ρ', setAll xs vs ρ = some ρ' ∧ R .next ρ' σ
      | _ => False := h
theorem d_asgA (h : wpS T C (.asgA l f e) ρ σ R) : wpE T C e ρ σ fun v σ => wpE T C l ρ σ fun a σ => match a with
      | .ref x => (match σ x with
        | some (.inst c fs) => T.fld c f = true ∧ fs.length ≤ 100 ∧ R .next ρ (upd σ x (.inst c (setF f v fs)))
        | _ => False)
      | _ => False := h
theorem d_aug (h : wpS T C (.aug x op e) ρ σ R) : ∃ u, ρ.get x = some u ∧ wpE T C e ρ σ fun v σ => match u, v with
      | .int i, .int j => intOp op i j fun k => R .next (ρ.set x (some (.int k))) σ
      | _, _ => False := h
theorem d_augA (h : wpS T C (.augA l f op e) ρ σ R) : wpE T C l ρ σ fun a σ => attrP T a f σ fun u => wpE T C e ρ σ fun v σ => match u, v, a with
      | .int i, .int j, .ref x => intOp op i j fun k => (match σ x with
        | some (.inst c fs) => T.fld c f = true ∧ fs.length ≤ 100 ∧ R .next ρ (upd σ x (.inst c (setF f (.int k) fs)))
        | _ => False)
      | _, _, _ => False := h
theorem d_ex (h : wpS T C (.ex e) ρ σ R) : wpE T C e ρ σ fun _ σ => R .next ρ σ := h
theorem d_ret (h : wpS T C (.ret e) ρ σ R) : wpE T C e ρ σ fun v σ => R (.ret v) ρ σ := h
theorem d_ite (h : wpS T C (.ite e a b) ρ σ R) : wpB T C e ρ σ fun t σ => if t = true then wpSs T C a ρ σ R else wpSs T C b ρ σ R := h
theorem d_cons {z : S} (h : wpSs T C (z :: a) ρ σ R) : wpS T C z ρ σ fun f ρ σ => match f with
      | .next => wpSs T C a ρ σ R
      | .ret r => R (.ret r) ρ σ := h
end
section
variable {a u v : V}
theorem aI {P : Int → Int → Prop} (q : match u, v with
      | .int i, .int j => P i j
      | _, _ => False) : ∃ i j, u = .int i ∧ v = .int j ∧ P i j := by
  refine Classical.byContradiction fun hn => ?_
  induction u using V.casesOn with
  | int i =>
    induction v using V.casesOn with
    | int j => exact hn ⟨i, j, rfl, rfl, q⟩
    | _ => exact q
  | _ => exact q
theorem aIR {P : Int → Int → Nat → Prop} (q : match u, v, a with
      | .int i, .int j, .ref x => P i j x
      | _, _, _ => False) : ∃ i j x, u = .int i ∧ v = .int j ∧ a = .ref x ∧ P i j x := by
  refine Classical.byContradiction fun hn => ?_
  induction u using V.casesOn with
  | int i =>
    induction v using V.casesOn with
    | int j =>
      induction a using V.casesOn with
      | ref x => exact hn ⟨i, j, x, rfl, rfl, rfl, q⟩
      | _ => exact q
    | _ => exact q
  | _ => exact q
theorem aX {x : Nat} {P : Nat → List (Nat × V) → Prop} (q : match σ x with
      | some (.inst c fs) => P c fs
      | _ => False) : ∃ c fs, σ x = some (.inst c fs) ∧ P c fs := by
  refine Classical.byContradiction fun hn => ?_
  rcases e : σ x with _ | o
  · rw [e] at q; exact q
  · rw [e] at q
    rcases o with _ | ⟨c, fs⟩ | _
    · exact q
    · exact hn ⟨c, fs, e, q⟩
    · exact q
theorem aR {P : Nat → Prop} (q : match a with
      | .ref x => P x
      | _ => False) : ∃ x, a = .ref x ∧ P x := by
  refine Classical.byContradiction fun hn => ?_
  induction a using V.casesOn with
  | ref x => exact hn ⟨x, rfl, q⟩
  | _ => exact q
theorem aT {P : List V → Prop} (q : match a with
      | .tup vs => P vs
      | _ => False) : ∃ vs, a = .tup vs ∧ P vs := by
  refine Classical.byContradiction fun hn => ?_
  induction a using V.casesOn with
  | tup x => exact hn ⟨x, rfl, q⟩
  | _ => exact q
end
theorem SS_asg {v : PySem.Expr} {x : E} {m : PySem.Str} {y : Nat} (p pos : Pos) (hy : c.slot m = some y) (hn : isComp v = false) (h : SE prog w hb T C n c v x) : SS prog w hb T C n c (.Assign [.Name m p] v pos) (.asg y x) := fun A hA env ρ σ s Q hN E I q => by
  replace q := d_asg q
  rw [arm_exec_Assign]
  refine wpG_bind (wpG_standAt ?_)
  rw [swapSole, noSwap hn]
  refine wpG_bind (wpG_pure ?_)
  rw [if_neg Bool.false_ne_true]
  refine h.bind hA E I q fun v' s₁ W σ₁ q rv I₁ X₁ E₁ => ?_
  rw [noSwapped]
  refine wpG_bind (wpG_pure ?_)
  show wpG _ _ (assign (.Name m p) env v' >>= fun _ => pure Flow.next) _ _
  exact wpG_bind (assign_sound E₁ I₁ hN hy rv fun s₂ E₂ I₂ X₂ k₂ => wpG_pure ⟨.next, _, _, q, rfl, E₂, I₂, X₁.e.trans X₂⟩)
/-- the list of a comprehension is stored while its block still stands -/
theorem SS_asgC {sc : Scope} {x : PySem.Str} {elt iter : PySem.Expr} {px : Pos} {ifs : List PySem.Expr} {pos : Pos} {y it : E} {ys : List E} {m : PySem.Str} {z : Nat} (p spos : Pos) (hz : c.slot m = some z)
    (hok : compOk c sc x = true) (hfold : ∀ env v, foldedSetIterable iter env v = pure v) (hit : SE prog w hb T C n c iter it) (he : SE prog w hb T C n (c.comp sc x) elt y) (hi : SAs prog w hb T C n (c.comp sc x) ifs ys) :
    SS prog w hb T C n c (.Assign [.Name m p] (.ListComp elt [⟨.Name x px, iter, ifs, 0⟩] sc pos) spos) (.asg z (.comp y c.top it ys)) := fun A hA env ρ σ s Q hN E I q => by
  obtain ⟨b, hsw⟩ := swap_comp (elt := elt) (gens := [⟨.Name x px, iter, ifs, 0⟩]) (sc := sc) (pos := pos) (m := m) (p := p) (l := spos.line) (env := env)
  replace q := d_asg q
  rw [arm_exec_Assign]
  refine wpG_bind (wpG_standAt ?_)
  rw [swapSole, hsw]
  refine wpG_bind (wpG_pure ?_)
  induction b using Bool.casesOn with
  | false =>
    rw [if_neg Bool.false_ne_true]
    refine (SE_comp (px := px) (pos := pos) hok hfold hit he hi).bind hA E I q fun v' s₁ W σ₁ q rv I₁ X₁ E₁ => ?_
    rw [noSwapped]
    refine wpG_bind (wpG_pure ?_)
    show wpG _ _ (assign (.Name m p) env v' >>= fun _ => pure Flow.next) _ _
    exact wpG_bind (assign_sound E₁ I₁ hN hz rv fun s₂ E₂ I₂ X₂ k₂ => wpG_pure ⟨.next, _, _, q, rfl, E₂, I₂, X₁.e.trans X₂⟩)
  | true =>
    rw [if_pos rfl]
    replace q := d_comp q
    rw [arm_evalThenUse_ListComp]
    refine wpG_bind (wpG_bind ?_)
    refine comp_run (use := some _) (Qo := fun _ s' => wpG (model prog w) A (pure PUnit.unit : Sem Unit) (fun _ s'' => wpG (model prog w) A (pure .next : Sem Flow) (PostS hb c env σ s Q) s'') s') hok (hfold env) hit he hi hA E I q fun D L Ws σ' s' vs k qf rs hD I' X' OD hns OL hDL => ?_
    obtain ⟨I2, X2⟩ := I'.take OD (Ws := Ws) ⟨vs, k, hD, rs⟩ X'
    have E2 := E.keep I X2
    show wpG _ _ (assign (.Name m p) env (.ref D)) _ _
    refine assign_sound E2 I2 hN hz (W := .ref D) rfl fun s₃ E₃ I₃ X₃ k₃ => ?_
    obtain ⟨m0, hn0⟩ := hns
    have hLo : ¬ Ours env L := fun ho => by
      obtain ⟨_, _, o, e⟩ := E.own L ho
      rw [OL.2.1] at e; cases e
    have hLF : ¬ Foot (upd σ' D (.lst Ws)) L := fun hF => by
      rcases foot_upd hF with f | f | ⟨_, _, f, _⟩
      · exact OL.2.2.1 f
      · exact hDL f.symm
      · cases f
    have hn1 : s₃.heap.Ns L m0 := hn0.at fun o e => X₃.keep L o e hLF hLo
    refine ⟨m0, hn1, fun h' hs' => ?_⟩
    have xb := hs'.extBut
    have nf := ns_nofix hn1
    have hLl : L ≠ env.locals ∧ ∀ n, env.cells.lookup n ≠ some L := ⟨fun q => hLo (.inl q), fun n q => hLo (.inr ⟨n, q⟩)⟩
    exact wpG_pure (wpG_pure ⟨.next, _, _, qf D OD.none, rfl, E₃.otherX xb hLl.1 hLl.2 nf, I₃.otherX xb OL.1 hLF nf, (X2.e.trans X₃).otherX xb OL.2.1 rfl rfl⟩)
theorem SS_asgT {v : PySem.Expr} {x : E} {ts : List PySem.Expr} {ys : List Nat} {k : Nat} (p pos : Pos) (hy : slotsOf c ts = some ys) (hv : ∃ f as ks q, v = .Call f as ks q) (h : SE prog w hb T C n c v x) : SS prog w hb T C n c (.Assign [.Tuple ts k p] v pos) (.asgT ys x) := fun A hA env ρ σ s Q hN E I q => by
  obtain ⟨f, as, ks, cp, rfl⟩ := hv
  replace q := d_asgT q
  rw [arm_exec_Assign]
  refine wpG_bind (wpG_standAt ?_)
  rw [swapSole, noSwap rfl]
  refine wpG_bind (wpG_pure ?_)
  rw [if_neg Bool.false_ne_true]
  refine h.bind hA E I q fun v' s₁ W σ₁ q rv I₁ X₁ E₁ => ?_
  refine wpG_bind (wpG_of_eq (a := none) rfl ?_)
  show wpG _ _ (assign (.Tuple ts k p) env v' >>= fun _ => pure Flow.next) _ _
  obtain ⟨Ws, rfl, ρ', ha, q⟩ := aT q
  · exact wpG_bind (unpack_sound hA.1 E₁ I₁ hN hy ha rv fun s₂ E₂ I₂ X₂ => wpG_pure ⟨.next, _, _, q, rfl, E₂, I₂, X₁.e.trans X₂⟩)
theorem SS_asgA (B : Base prog w hb K T C n) {v o : PySem.Expr} {x y : E} {f : Nat} (p pos : Pos) (h : SE prog w hb T C n c v x) (ho : SE prog w hb T C n c o y) : SS prog w hb T C n c (.Assign [.Attribute o (attrName f) p] v pos) (.asgA y f x) := fun A hA env ρ σ s Q hN E I q => by
  replace q := d_asgA q
  rw [arm_exec_Assign]
  refine wpG_bind (wpG_standAt ?_)
  rw [swapSole, noSwapA]
  refine wpG_bind (wpG_pure ?_)
  rw [if_neg Bool.false_ne_true]
  refine h.bind hA E I q fun v' s₁ W σ₁ q rv I₁ X₁ E₁ => ?_
  rw [noSwappedA]
  refine wpG_bind (wpG_pure ?_)
  show wpG _ _ (assign (.Attribute o (attrName f) p) env v' >>= fun _ => pure Flow.next) _ _
  rw [arm_assign_Attribute]
  refine wpG_bind (wpG_bind (wpG_holding (ho.then_ hA E₁ I₁ q fun ov s₂ O σ₂ q ro I₂ X₂ E₂ => wpG_bind (wpG_standAt ?_))))
  obtain ⟨a, rfl, q⟩ := aR q
  obtain ⟨C', fs, e, ht, hl, q⟩ := aX q
  obtain rfl : ov = .ref a := ro
  refine wpG_bind (wpG_holding (set_sound B.F B.TO I₂ e ht hl (X₂.rep I₁ rv) fun h' tk I₃ X₃ => wpG_release (wpG_pure ?_)))
  exact ⟨.next, _, _, q, rfl, E₂.keep I₂ X₃, I₃, (X₁.trans (X₂.trans X₃)).e⟩
theorem SS_aug {v : PySem.Expr} {x : E} {m : PySem.Str} {y : Nat} {op : Operator} {o : BOp} (p pos : Pos) (hop : bopOf op = some o) (hy : c.slot m = some y) (h : SE prog w hb T C n c v x) : SS prog w hb T C n c (.AugAssign (.Name m p) op v pos) (.aug y o x) := fun A hA env ρ σ s Q hN E I q => by
  replace q := d_aug q
  obtain ⟨u, hu, q⟩ := q
  rw [arm_exec_AugAssign]
  refine wpG_bind (wpG_standAt (wpG_bind (name_sound E hy hu fun old ro => ?_)))
  refine wpG_bind (wpG_holding (h.then_ hA E I q fun v' s₁ W σ₁ q rv I₁ X₁ E₁ => wpG_bind (wpG_standAt (wpG_bind (wpG_operate ?_)))))
  obtain ⟨i, j, rfl, rfl, q⟩ := aI q
  obtain ⟨t, rfl⟩ := ro
  obtain ⟨t', rfl⟩ := rv
  rw [← opOf_of hop]
  refine iint_sound q fun k tk tk' q => wpG_bind (wpG_standAt (wpG_bind ?_))
  have X : Ext σ₁ s₁ σ₁ { s₁ with toks := tk' } := .heap rfl rfl rfl
  exact bind_sound (E₁.keep I₁ X) (I₁.heap rfl) hN hy (W := .int k) ⟨_, rfl⟩ fun s₂ E₂ I₂ X₂ k₂ => wpG_pure ⟨.next, _, _, q, rfl, E₂, I₂, (X₁.trans X).e.trans X₂⟩
theorem SS_augA (B : Base prog w hb K T C n) {v o : PySem.Expr} {x y : E} {f : Nat} {op : Operator} {b : BOp} (p pos : Pos) (hop : bopOf op = some b) (ho : SE prog w hb T C n c o y) (h : SE prog w hb T C n c v x) : SS prog w hb T C n c (.AugAssign (.Attribute o (attrName f) p) op v pos) (.augA y f b x) := fun A hA env ρ σ s Q hN E I q => by
  replace q := d_augA q
  rw [arm_exec_AugAssign_2]
  refine wpG_bind (wpG_standAt (ho.bind hA E I q fun ov s₁ O σ₁ q ro I₁ X₁ E₁ => ?_))
  refine wpG_bind (wpG_holding (wpG_bind (wpG_standAt (wpG_bind (attr_sound B.F B.TO I₁ ro q fun U u q ru => ?_)))))
  have X : Ext σ₁ s₁ σ₁ { s₁ with toks := s₁.toks + 1 } := .heap rfl rfl rfl
  refine wpG_bind (wpG_holding (h.then_ hA (E₁.keep I₁ X) (I₁.heap (s' := { s₁ with toks := s₁.toks + 1 }) rfl) q fun v' s₂ W σ₂ q rv I₂ X₂ E₂ => wpG_bind (wpG_standAt (wpG_operate ?_))))
  obtain ⟨i, j, a, rfl, rfl, rfl, q⟩ := aIR q
  obtain ⟨t, rfl⟩ := ru
  obtain ⟨t', rfl⟩ := rv
  obtain rfl : ov = .ref a := ro
  rw [← opOf_of hop]
  refine iint_sound q fun k tk tk' q => ?_
  obtain ⟨C', fs, e, ht, hl, q⟩ := aX q
  have X' : Ext σ₂ s₂ σ₂ { s₂ with toks := tk' } := .heap rfl rfl rfl
  refine wpG_bind (wpG_standAt (wpG_bind (wpG_holding (set_sound B.F B.TO (s := { s₂ with toks := tk' }) (I₂.heap rfl) e ht hl (W := .int k) ⟨_, rfl⟩ fun h' tk I₃ X₃ => wpG_bind (wpG_release (wpG_pure ?_))))))
  exact ⟨.next, _, _, q, rfl, (E₂.keep I₂ X').keep (I₂.heap rfl) X₃, I₃, (X₁.trans (X.trans (X₂.trans (X'.trans X₃)))).e⟩
theorem SS_ex {v : PySem.Expr} {x : E} (pos : Pos) (hn : isComp v = false) (h : SE prog w hb T C n c v x) : SS prog w hb T C n c (.Expr v pos) (.ex x) := fun A hA env ρ σ s Q hN E I q => by
  replace q := d_ex q
  rw [arm_exec_Expr, notfn E, noSwap hn]
  refine wpG_bind (wpG_standAt ?_)
  rw [if_neg Bool.false_ne_true]
  refine wpG_bind (wpG_pure ?_)
  rw [if_neg Bool.false_ne_true]
  refine h.bind hA E I q fun v' s₁ W σ₁ q rv I₁ X₁ E₁ => wpG_of_any (wpAny_dropValue ?_)
  exact ⟨.next, _, _, q, rfl, E₁, I₁, X₁.e⟩
theorem SS_ret {v : PySem.Expr} {x : E} (pos : Pos) (h : SE prog w hb T C n c v x) : SS prog w hb T C n c (.Return (some v) pos) (.ret x) := fun A hA env ρ σ s Q hN E I q => by
  replace q := d_ret q
  rw [arm_exec_Return]
  refine wpG_bind (wpG_standAt ?_)
  refine h.bind hA E I q fun v' s₁ W σ₁ q rv I₁ X₁ E₁ => wpG_pure ?_
  exact ⟨.ret W, _, _, q, ⟨_, rfl, rv⟩, E₁, I₁, X₁.e⟩
theorem SS_raise {st : PySem.Stmt} : SS prog w hb T C n c st .raise := fun A hA env ρ σ s Q hN E I q => q.elim
theorem SS_ite {t : PySem.Expr} {a b : List PySem.Stmt} {x : E} {y z : List S} (pos : Pos) (h : SB prog w hb T C n c t x) (ha : SSs prog w hb T C n c a y) (hb' : SSs prog w hb T C n c b z) : SS prog w hb T C n c (.If t a b pos) (.ite x y z) := fun A hA env ρ σ s Q hN E I q => by
  replace q := d_ite q
  rw [arm_exec_If]
  refine wpG_bind (wpG_standAt (wpG_bind (h.then_ hA E I q fun b s₁ σ₁ q I₁ X₁ E₁ => ?_)))
  induction b using Bool.casesOn with
  | true => exact wpG_mono (ha A hA env ρ σ₁ s₁ Q hN E₁ I₁ q) fun f s₂ p => PostS.after X₁.e p
  | false => exact wpG_mono (hb' A hA env ρ σ₁ s₁ Q hN E₁ I₁ q) fun f s₂ p => PostS.after X₁.e p
theorem SSs_nil : SSs prog w hb T C n c [] [] := fun A hA env ρ σ s Q hN E I q => by
  exact wpG_pure ⟨.next, _, _, q, rfl, E, I, .refl _ _ _⟩
theorem SSs_cons {st : PySem.Stmt} {x : S} {ss : List PySem.Stmt} {xs : List S} (h : SS prog w hb T C n c st x) (hs : SSs prog w hb T C n c ss xs) : SSs prog w hb T C n c (st :: ss) (x :: xs) := fun A hA env ρ σ s Q hN E I q => by
  replace q := d_cons q
  rw [arm_execs_cons]
  refine wpG_bind (wpG_mono (h A hA env ρ σ s _ hN E I q) fun f s₁ p => ?_)
  obtain ⟨F, ρ₁, σ₁, q, r, E₁, I₁, X₁⟩ := p
  induction F using Mine.Fl.casesOn with
  | next =>
    have r : f = .next := r
    subst r
    exact wpG_mono (hs A hA env ρ₁ σ₁ s₁ Q hN E₁ I₁ q) fun f s₂ p => PostS.after X₁ p
  | ret V =>
    obtain ⟨v, rfl, rv⟩ := r
    exact wpG_pure ⟨.ret V, _, _, q, ⟨v, rfl, rv⟩, E₁, I₁, X₁⟩
theorem SS_try {a : List PySem.Stmt} {y : List S} {hd : List ExceptHandler} (pos : Pos) (ha : SSs prog w hb T C n c a y) : SS prog w hb T C n c (.Try a hd [] [] pos) (.tr y) := fun A hA env ρ σ s Q hN E I q => by
  rw [arm_exec_Try]
  refine wpG_bind (wpG_standAt ?_)
  unfold tryStmt
  simp only [List.isEmpty_nil, if_true]
  refine wpG_bind (wpG_attempt (wpG_mono (ha A hA env ρ σ s Q hN E I q) fun f s₁ p => ?_))
  obtain ⟨F, ρ₁, σ₁, q, r, E₁, I₁, X₁⟩ := p
  induction F using Mine.Fl.casesOn with
  | next =>
    have r : f = .next := r
    subst r
    exact wpG_pure ⟨.next, _, _, q, rfl, E₁, I₁, X₁⟩
  | ret V =>
    obtain ⟨v, rfl, rv⟩ := r
    exact wpG_pure ⟨.ret V, _, _, q, ⟨v, rfl, rv⟩, E₁, I₁, X₁⟩
end
end Mine
end
section
set_option tactic.hygienic false
set_option backward.match.sparseCases false
open PySem PySem.W PyProof.Rows PySem.Calls
open PySem.Sem (wp)
set_option maxRecDepth 100000
namespace Mine
section
variable {prog : Program} {w : World} {A : Around} {hb : Heap} {σ : Hp} {s s₀ : Shared} {c : Cx} {env : Env} {ρ : Rho} {K : Frag} {T : Tab} {C : Calls} {n : Nat} {σ₀ : Hp}

theorem setItem_list {l : Addr} {vs : List Value} {m : Nat} {k : Int} {t : Tok} {v : Value} {Q : Unit → Shared → Prop} (ho : s.heap.get? l = some (lstOf vs m))
    (h0 : 0 ≤ k) (hfit : k < 2 ^ 63) (hn : k.toNat < vs.length)
    (hQ : ∀ h' m', h'.get? l = some (lstOf (vs.set k.toNat v) m') → Heap.SameBut l s.heap h' → Q () { s with heap := h' }) :
    wpG (model prog w) A (setItem (.ref l) (.int k t) v) Q s := by
  refine wpG_of_any ?_
  have hl := isList_of ho
  unfold setItem
  try with_reducible refine wpAny_holding ?_
  first | refine wpAny_bind (wpAny_pure ?_) | skip
  refine wpAny_bind (wpAny_sequenceKey hl.typeIs (by decide) ?_)
  refine wpAny_bind (wpAny_callSpecial?_slot (name := PySem.Str.ofString "__setitem__") hl.typeIs slot_list_setitem
    (wpAny_call_entry slot_list_setitem hl.typeIs entry_list_setitem ?_ (args_list_setitem _ _ _)))
  show wpAny _ _ (Builtin.List.listSubscript? (.int k t) >>= _) _ _ s
  refine wpAny_bind (wpAny_listSubscript_int (fitsIndex_of h0 hfit) ?_)
  clear hfit
  obtain ⟨j, rfl⟩ := Int.eq_ofNat_of_zero_le h0
  have hj : j < vs.toArray.size := by simpa using hn
  have hx' : vs.toArray[j]? = some vs.toArray[j] := Array.getElem?_eq_getElem hj
  show wpAny _ _ ((seqItemAt l j >>= fun r => pure (r.map (j, ·))) >>= _) _ _ s
  refine wpAny_bind (wpAny_bind (wpAny_seqItemAt ho rfl (wpAny_pure ?_)))
  rw [hx']
  show wpAny _ _ (setSeqItemAt l j v >>= _) _ _ s
  have hfin : (s.heap.update l (Obj.mapSeq (·.setIfInBounds j v))).get? l = some (lstOf (vs.set j v) m) := by
    rw [Heap.get?_update_self _ ho rfl]; simp [Obj.mapSeq]
  refine wpAny_bind (wpAny_setSeqItemAt ho rfl ?_)
  first
    | exact wpAny_bind (wpAny_pure (wpAny_pure ⟨.none, rfl, wpAny_pure (hQ _ m hfin (Heap.SameBut.update ..))⟩))
    | exact wpAny_pure ⟨.none, rfl, wpAny_pure (hQ _ m hfin (Heap.SameBut.update ..))⟩

theorem asgI_inv {O J : V} {P : Nat → Int → List V → Prop} (q : match O, J with
      | .ref x, .int k => (match σ x with
        | some (.lst vs) => P x k vs
        | _ => False)
      | _, _ => False) : ∃ x k vs, O = .ref x ∧ J = .int k ∧ σ x = some (.lst vs) ∧ P x k vs := by
  refine Classical.byContradiction fun hn => ?_
  induction O using V.casesOn with
  | ref x =>
    induction J using V.casesOn with
    | int k =>
      replace q : (match σ x with
        | some (.lst vs) => P x k vs
        | _ => False) := q
      rcases e : σ x with _ | o
      · rw [e] at q; exact q
      · rw [e] at q
        rcases o with vs | _ | _
        · exact hn ⟨x, k, vs, rfl, rfl, e, q⟩
        · exact q
        · exact q
    | _ => exact q
  | _ => exact q
theorem SS_asgI {v o i : PySem.Expr} {x y z : E} (p pos : Pos) (h : SE prog w hb T C n c v x) (ho : SE prog w hb T C n c o y) (hi : SE prog w hb T C n c i z) : SS prog w hb T C n c (.Assign [.Subscript o i p] v pos) (.asgI y z x) := fun A hA env ρ σ s Q hN E I q => by
  rw [arm_exec_Assign]
  refine wpG_bind (wpG_standAt ?_)
  rw [swapSole, noSwapI]
  refine wpG_bind (wpG_pure ?_)
  rw [if_neg Bool.false_ne_true]
  refine h.bind hA E I q fun v' s₁ W σ₁ q rv I₁ X₁ E₁ => ?_
  rw [noSwappedI]
  refine wpG_bind (wpG_pure ?_)
  show wpG _ _ (assign (.Subscript o i p) env v' >>= fun _ => pure Flow.next) _ _
  rw [arm_assign_Subscript]
  refine wpG_bind (wpG_bind (wpG_holding (ho.then_ hA E₁ I₁ q fun ov s₂ O σ₂ q ro I₂ X₂ E₂ => wpG_bind (wpG_holding (hi.then_ hA E₂ I₂ q fun iv s₃ J σ₃ q rj I₃ X₃ E₃ => wpG_bind (wpG_standAt ?_))))))
  obtain ⟨a, k, vs, rfl, rfl, e, hl, h0, h1, q⟩ := asgI_inv q
  obtain rfl : ov = .ref a := ro
  obtain ⟨t, rfl⟩ := rj
  obtain ⟨us, m, g, rl⟩ := I₃.rep _ _ e
  have hlen := rl.length
  have rv3 := X₃.rep I₂ (X₂.rep I₁ rv)
  refine wpG_bind (wpG_holding (setItem_list g h0 (by unfold lim at hl; lia) (by lia) fun h' m' hg hs' => wpG_release (wpG_pure ?_)))
  obtain ⟨I₄, X₄⟩ := I₃.write (x := a) (ao' := .lst (vs.set k.toNat W)) (h' := h') (tk := s₃.toks) e (.inl rfl) (fun b hb => hs'.2 b hb) ⟨_, hg⟩ (fun kf => ⟨_, m', hg, (rl.keep kf).set _ (rv3.keep kf)⟩) (fun _ _ e => nomatch e) (fun _ _ e => nomatch e)
  exact ⟨.next, _, _, q, rfl, E₃.keep I₃ X₄, I₄, (X₁.trans (X₂.trans (X₃.trans X₄))).e⟩

/-! loops -/
theorem block_nil {R : Flow → Shared → Prop} (h : R .next s) : codeG (model prog w) A (.block [] env) R s := by
  refine codeG_of_tree rfl ?_
  show wpG _ _ (((execs [] env).onRaise (fun x => do noteFrame x env; theTreesLotGoes x)) >>= fun f => pure (Fin.done f)) _ s
  exact wpG_bind (wpG_onRaise (wpG_pure (wpG_pure h)))
theorem under_while {t : PySem.Expr} {b o : List PySem.Stmt} (hA : RoomE n A) : RoomE n (A.under (.whileLoop t b o env)) := ⟨hA.1, hA.2.1, hA.2.2⟩
theorem under_for {t : PySem.Expr} {it : Value} {b o : List PySem.Stmt} (hA : RoomE n A) : RoomE n (A.under (.forLoop t it b o env)) := ⟨hA.1, hA.2.1, hA.2.2⟩

theorem while_G {t : PySem.Expr} {b : List PySem.Stmt} {x : E} {y : List S} {Q : K2} (hA : RoomE n A) (hN : NoFree c env) (h : SB prog w hb T C n c t x) (hb' : SSs prog w hb T C n c b y) :
    ∀ (m : Nat) (ρ : Rho) (σ : Hp) (s : Shared), EnvOk hb c env σ ρ s → Inv hb σ s → whileLoop (fun ρ σ Q => wpB T C x ρ σ Q) (fun ρ σ Q => wpSs T C y ρ σ Q) m ρ σ Q →
      codeG (model prog w) A (.whileLoop t b [] env) (PostS hb c env σ s Q) s := by
  intro m
  induction m with
  | zero => intro ρ σ s E I q; exact q.elim
  | succ m ih =>
    intro ρ σ s E I q
    refine codeG_of_tree rfl ?_
    show wpG _ _ ((whileTurn t b [] env).onRaise (fun x => do noteFrame x env; theTreesLotGoes x)) _ s
    have hA' := under_while (t := t) (b := b) (o := []) (env := env) hA
    refine wpG_onRaise ?_
    refine wpG_bind (h.then_ hA' E I q fun k s₁ σ₁ q I₁ X₁ E₁ => ?_)
    induction k using Bool.casesOn with
    | false =>
      rw [if_neg Bool.false_ne_true]
      exact wpG_bind (wpG_pure (wpG_pure ⟨.next, _, _, q, rfl, E₁, I₁, X₁.e⟩))
    | true =>
      rw [if_pos rfl]
      refine wpG_bind (wpG_mono (hb' _ hA' env ρ σ₁ s₁ _ hN E₁ I₁ q) fun f s₂ p => ?_)
      obtain ⟨F, ρ₂, σ₂, q, r, E₂, I₂, X₂⟩ := p
      induction F using Mine.Fl.casesOn with
      | next =>
        have r : f = .next := r
        subst r
        obtain ⟨τ, hτ, q⟩ := q
        refine wpG_pure ⟨rfl, codeG_mono (ih ρ₂ τ s₂ (E₂.sub hτ) (I₂.sub hτ) q) fun f s₃ p => PostS.after (X₁.e.trans (X₂.sub hτ)) p⟩
      | ret V =>
        obtain ⟨v, rfl, rv⟩ := r
        exact wpG_pure ⟨.ret V, _, _, q, ⟨v, rfl, rv⟩, E₂, I₂, X₁.e.trans X₂⟩
theorem SS_while {t : PySem.Expr} {b : List PySem.Stmt} {x : E} {y : List S} (pos : Pos) (h : SB prog w hb T C n c t x) (hb' : SSs prog w hb T C n c b y) : SS prog w hb T C n c (.While t b [] pos) (.whl x y) := fun A hA env ρ σ s Q hN E I q => by
  obtain ⟨m, q⟩ := q
  rw [arm_exec_While]
  exact wpG_bind (wpG_standAt (wpG_runOwn (while_G hA hN h hb' m ρ σ s E I q)))

theorem OwnAt.keepE {b : Addr} {σ' : Hp} {s' : Shared} (O : OwnAt hb s₀ σ s b) (X : ExtE env σ s σ' s') (hn : ¬ Ours env b) : OwnAt hb s₀ σ' s' b := by
  obtain ⟨h1, h2, h3, o, h4⟩ := O
  refine ⟨h1, h2, fun hF => ?_, o, X.keep b o h4 h3 hn⟩
  rcases X.foot b hF with f | f
  · exact h3 f
  · rw [h4] at f; cases f
theorem ExtE.fixed {σ' : Hp} {s' : Shared} (X : ExtE env σ s σ' s') (I : Inv hb σ s) (E : EnvOk hb c env σ ρ s) : ∀ b o, s.heap.get? b = some o → fixedO o → s'.heap.get? b = some o := fun b o e f => by
  exact X.keep b o e (I.not_foot_fixed e f) fun ho => E.nfx b ho o e f
end
end Mine
end
section
set_option tactic.hygienic false
open PySem PySem.W PyProof.Rows PySem.Calls
open PySem.Sem (wp)
set_option maxRecDepth 100000
namespace Mine
section
variable {prog : Program} {w : World} {A : Around} {hb : Heap} {σ : Hp} {s s₀ : Shared} {c : Cx} {env : Env} {ρ : Rho} {K : Frag} {T : Tab} {C : Calls} {n : Nat} {σ₀ : Hp}

theorem owned_sound {src : V} {it : Addr} {i : Nat} {all : List V} {target : PySem.Expr} {v : Value} {Q : Unit → Shared → Prop} (x : IterOk src it i all s.heap) (h : Q () s) : wpG (model prog w) A (letOwnedTupleGo target (.ref it) v) Q s := by
  have key : ∃ o n fs, s.heap.get? it = some o ∧ o.cls = .type n ∧ o.data = .fields fs ∧ ["enumerate", "zip", "dict_itemiterator", "dict_reverseitemiterator", "odict_iterator", "itertools.zip_longest", "itertools.pairwise"].contains n = false := by
    unfold IterOk at x
    split at x
    · obtain ⟨o, a, b, d⟩ := x; exact ⟨o, _, _, a, b, d, by decide +kernel⟩
    · obtain ⟨_, _, _, _, ⟨o, a, b, d⟩, _⟩ := x; exact ⟨o, _, _, a, b, d, by decide +kernel⟩
    · exact ⟨_, _, _, x.2, rfl, rfl, by decide +kernel⟩
    · exact x.elim
  obtain ⟨o, m, fs, e1, e2, e3, e4⟩ := key
  have body : ∀ a : Addr, wpG (model prog w) A (do
      let o ← load it
      match o.cls, o.data with
      | .type n, .fields vs =>
        if ["enumerate", "zip", "dict_itemiterator", "dict_reverseitemiterator", "odict_iterator", "itertools.zip_longest", "itertools.pairwise"].contains n && vs[0]? == some (rawInt a) then
          rule "for.unpacks-the-owned-tuple"
          updateField it 0 .none
      | _, _ => pure () : Sem Unit) Q s := fun a => by
    refine wpG_bind (wpG_load e1 ?_)
    rw [e2, e3]
    dsimp only
    rw [e4]
    exact wpG_pure h
  induction target using PySem.Expr.casesOn <;> first | exact wpG_pure h | (induction v using PySem.Value.casesOn <;> first | exact wpG_pure h | exact body _)

theorem for_G {target : PySem.Expr} {body : List PySem.Stmt} {src : V} {all : List V} {it : Addr} {turn : V → Rho → Hp → K2 → Prop} {Q : K2} (hA : RoomE n A)
    (hturn : ∀ A, RoomE n A → ∀ ρ σ s V v Qk, EnvOk hb c env σ ρ s → Inv hb σ s → Rep s.heap V v → turn V ρ σ Qk → wpG (model prog w) A (assign target env v) (fun _ s₁ => wpG (model prog w) A (execs body env) (PostS hb c env σ s Qk) s₁) s) :
    ∀ (rest : List V) (i : Nat) (ρ : Rho) (σ : Hp) (s : Shared), rest = all.drop i → i ≤ all.length → forLoop src all turn rest ρ σ Q → EnvOk hb c env σ ρ s → Inv hb σ s → ExtE env σ₀ s₀ σ s → OwnAt hb s₀ σ s it → ¬ Ours env it → IterOk src it i all s.heap →
      codeG (model prog w) A (.forLoop target (.ref it) body [] env) (PostS hb c env σ₀ s₀ Q) s := by
  intro rest
  induction rest with
  | nil =>
    intro i ρ σ s hr hle q E I X OI hO hit
    obtain ⟨q1, q2⟩ := q
    have hin : i = all.length := by
      have := congrArg List.length hr
      simp at this; lia
    subst hin
    refine codeG_of_tree rfl ?_
    show wpG _ _ ((forTurn target (.ref it) body [] env).onRaise (fun x => do noteFrame x env; theTreesLotGoes x)) _ s
    refine wpG_onRaise ?_
    have nf := hit.nofix
    refine wpG_bind (wpG_standAt (wpG_bind (wpG_onRaise (next_end_sound hA.1 I hit q1 fun h' hs' => wpG_pure ⟨rfl, block_nil ?_⟩))))
    have hl : it ≠ env.locals ∧ ∀ n, env.cells.lookup n ≠ some it := ⟨fun q => hO (.inl q), fun n q => hO (.inr ⟨n, q⟩)⟩
    exact ⟨.next, _, _, q2, rfl, E.otherX hs' hl.1 hl.2 nf, I.otherX hs' OI.1 OI.2.2.1 nf, X.otherX hs' OI.2.1 rfl rfl⟩
  | cons V rest ih =>
    intro i ρ σ s hr hle q E I X OI hO hit
    obtain ⟨hV, hr'⟩ := drop_cons hr
    obtain ⟨q1, q2⟩ := q
    refine codeG_of_tree rfl ?_
    show wpG _ _ ((forTurn target (.ref it) body [] env).onRaise (fun x => do noteFrame x env; theTreesLotGoes x)) _ s
    refine wpG_onRaise ?_
    have hA' := under_for (t := target) (it := .ref it) (b := body) (o := []) (env := env) hA
    have nf := hit.nofix
    have hl : it ≠ env.locals ∧ ∀ n, env.cells.lookup n ≠ some it := ⟨fun q => hO (.inl q), fun n q => hO (.inr ⟨n, q⟩)⟩
    refine wpG_bind (wpG_standAt (wpG_bind (wpG_onRaise (next_sound I hit q1 hV OI.2.2.1 fun v h' tk hs' hit' rv => ?_))))
    have xb := hs'.extBut
    have I₁ : Inv hb σ { s with heap := h', toks := tk } := I.otherX xb OI.1 OI.2.2.1 nf
    have X₁ : ExtE env σ₀ s₀ σ { s with heap := h', toks := tk } := X.otherX xb OI.2.1 rfl rfl
    have E₁ : EnvOk hb c env σ ρ { s with heap := h', toks := tk } := E.otherX xb hl.1 hl.2 nf
    have OI₁ : OwnAt hb s₀ σ { s with heap := h', toks := tk } it := by
      obtain ⟨a1, a2, a3, o, a4⟩ := OI
      refine ⟨a1, a2, a3, ?_⟩
      unfold IterOk at hit'
      split at hit'
      · obtain ⟨o, e, _⟩ := hit'; exact ⟨o, e⟩
      · obtain ⟨_, _, _, _, ⟨o, e, _⟩, _⟩ := hit'; exact ⟨o, e⟩
      · exact ⟨_, hit'.2⟩
      · exact hit'.elim
    refine wpG_bind (owned_sound (s := { s with heap := h', toks := tk }) hit' (wpG_bind (wpG_mono (hturn _ hA' ρ σ _ V v _ E₁ I₁ rv q2) fun _ s₂ p => ?_)))
    refine wpG_bind (wpG_mono p fun f s₃ p => ?_)
    obtain ⟨F, ρ₃, σ₃, q, r, E₃, I₃, X₃⟩ := p
    have hle' : i + 1 ≤ all.length := by have := (List.getElem?_eq_some_iff.mp hV).1; lia
    cases F with
    | next =>
      have r : f = .next := r
      subst r
      obtain ⟨τ, hτ, q⟩ := q
      have hit₃ : IterOk src it (i + 1) all s₃.heap := hit'.keep (X₃.fixed I₁ E₁) fun o e => X₃.keep it o e OI₁.2.2.1 hO
      refine wpG_pure ⟨rfl, ih (i + 1) ρ₃ τ s₃ hr' hle' q (E₃.sub hτ) (I₃.sub hτ) ((X₁.trans X₃).sub hτ) ((OI₁.keepE X₃ hO).sub hτ) hO hit₃⟩
    | ret W =>
      obtain ⟨u, rfl, ru⟩ := r
      exact wpG_pure ⟨.ret W, _, _, q, ⟨u, rfl, ru⟩, E₃, I₃, X₁.trans X₃⟩

theorem for_sound {iter : PySem.Expr} {target : PySem.Expr} {body : List PySem.Stmt} {x : E} {pos : Pos} {turn : V → Rho → Hp → K2 → Prop} {Q : K2} (hfold : ∀ env v, foldedSetIterable iter env v = pure v) (h : SE prog w hb T C n c iter x) (hA : RoomE n A)
    (E : EnvOk hb c env σ ρ s) (I : Inv hb σ s)
    (hturn : ∀ A, RoomE n A → ∀ ρ σ s V v Qk, EnvOk hb c env σ ρ s → Inv hb σ s → Rep s.heap V v → turn V ρ σ Qk → wpG (model prog w) A (assign target env v) (fun _ s₁ => wpG (model prog w) A (execs body env) (PostS hb c env σ s Qk) s₁) s)
    (q : wpE T C x ρ σ fun v σ => ∃ all, itemsOf σ v = some all ∧ all.length ≤ lim ∧ forLoop v all turn all ρ σ Q) : wpG (model prog w) A (exec (.For target iter body [] pos) env) (PostS hb c env σ s Q) s := by
  rw [arm_exec_For]
  refine wpG_bind (wpG_standAt ?_)
  refine h.bind hA E I q fun v s₁ src σ₁ q rv I₁ X₁ E₁ => ?_
  obtain ⟨all, ha, hl, q⟩ := q
  rw [hfold]
  refine wpG_bind (wpG_pure (wpG_bind (wpG_standAt (wpG_bind (wpG_holding (iter_sound I₁ rv ha hl fun o hof hiter => ?_))))))
  have k₂ : ∀ b o', s₁.heap.get? b = some o' → (s₁.heap.push o).get? b = some o' := push_keep _ _
  have hfree : s₁.heap.get? s₁.heap.objs.size = none := size_free _
  have X₂ : Ext σ₁ s₁ σ₁ { s₁ with heap := s₁.heap.push o } := .grow k₂ rfl rfl
  have hO : ¬ Ours env s₁.heap.objs.size := fun ho => by
    obtain ⟨_, _, o, e⟩ := E₁.own _ ho
    rw [hfree] at e; cases e
  have OI : OwnAt hb s₁ σ₁ { s₁ with heap := s₁.heap.push o } s₁.heap.objs.size := by
    refine ⟨?_, hfree, I₁.not_foot_free hfree, ⟨o, Heap.get?_push_size _ hof⟩⟩
    cases e9 : hb.get? s₁.heap.objs.size with
    | none => rfl
    | some o => have := I₁.base _ _ e9; rw [hfree] at this; cases this
  refine wpG_runOwn (codeG_mono (for_G (σ₀ := σ₁) (s₀ := s₁) hA hturn all 0 ρ σ₁ { s₁ with heap := s₁.heap.push o } rfl (Nat.zero_le _) q (E₁.keep I₁ X₂) (I₁.grow (s' := { s₁ with heap := s₁.heap.push o }) k₂) X₂.e OI hO hiter) fun f s₂ p => PostS.after X₁.e p)
theorem SS_for1 {iter : PySem.Expr} {m : PySem.Str} {p : Pos} {body : List PySem.Stmt} {x : E} {y : Nat} {ys : List S} (pos : Pos) (hfold : ∀ env v, foldedSetIterable iter env v = pure v) (hy : c.slot m = some y) (h : SE prog w hb T C n c iter x) (hs : SSs prog w hb T C n c body ys) :
    SS prog w hb T C n c (.For (.Name m p) iter body [] pos) (.for1 y x ys) := fun A hA env ρ σ s Q hN E I q => by
  refine for_sound hfold h hA E I (fun A hA ρ σ s V v Qk E I rv q => ?_) q
  exact assign_sound E I hN hy rv fun s₂ E₂ I₂ X₂ k₂ => wpG_mono (hs A hA env _ σ s₂ Qk hN E₂ I₂ q) fun f s₃ p => PostS.after X₂ p
theorem SS_forT {iter : PySem.Expr} {ts : List PySem.Expr} {k : Nat} {p : Pos} {body : List PySem.Stmt} {x : E} {xs : List Nat} {ys : List S} (pos : Pos) (hfold : ∀ env v, foldedSetIterable iter env v = pure v) (hy : slotsOf c ts = some xs) (h : SE prog w hb T C n c iter x) (hs : SSs prog w hb T C n c body ys) :
    SS prog w hb T C n c (.For (.Tuple ts k p) iter body [] pos) (.forT xs x ys) := fun A hA env ρ σ s Q hN E I q => by
  refine for_sound hfold h hA E I (fun A hA ρ σ s V v Qk E I rv q => ?_) q
  split at q
  · obtain ⟨ρ', ha, q⟩ := q
    exact unpack_sound hA.1 E I hN hy ha rv fun s₂ E₂ I₂ X₂ => wpG_mono (hs A hA env _ σ s₂ Qk hN E₂ I₂ q) fun f s₃ p => PostS.after X₂ p
  · exact q.elim
end
end Mine
end
section
set_option tactic.hygienic false
set_option backward.match.sparseCases false
open PySem PySem.W PyProof.Rows PySem.Calls
open PySem.Sem (wp)
set_option maxRecDepth 100000
namespace Mine
section
variable {prog : Program} {w : World} {A : Around} {hb : Heap} {σ : Hp} {s s₀ : Shared} {c : Cx} {env : Env} {ρ : Rho} {K : Frag} {T : Tab} {C : Calls} {n : Nat} {σ₀ : Hp}

theorem SS_asg0 (B : Base prog w hb K T C n) (hK : c.K = K) {k : Nat} {v : PySem.Expr} {x : E} {m : PySem.Str} {y : Nat} (p pos : Pos) (hy : c.slot m = some y) (h : compE c k v = some x) : SS prog w hb T C n c (.Assign [.Name m p] v pos) (.asg y x) := by
  by_cases hc : isComp v = true
  · induction k using Nat.casesOn with
    | zero => exact noneSome h
    | succ k =>
      obtain ⟨ihE, ihL, ihO⟩ := sound B k
      induction v using PySem.Expr.casesOn with
      | ListComp elt gs sc pos =>
        have g := comp_of h
        clear h
        obtain ⟨y, p, iter, ifs, rfl, hok, h⟩ := g
        obtain ⟨it, h1, h⟩ := Option.bind_eq_some_iff.mp h
        obtain ⟨el, h2, h⟩ := Option.bind_eq_some_iff.mp h
        obtain ⟨cs, h3, rfl⟩ := Option.map_eq_some_iff.mp h
        exact SS_asgC _ _ hy hok (folded_of h1) (ihE _ _ _ hK h1).se (ihE (c.comp _ _) _ _ hK h2).se (ihL (c.comp _ _) _ _ hK h3).a
      | SetComp _ _ _ _ => exact noneSome h
      | DictComp _ _ _ _ _ => exact noneSome h
      | _ => exact absurd hc Bool.false_ne_true
  · exact SS_asg _ _ hy (Bool.not_eq_true _ ▸ hc) ((sound B k).1 _ _ _ hK h).se
theorem for_of {k : Nat} {t it : PySem.Expr} {a b : List Stmt} {p : Pos} {x : S} (h : compS c (k + 1) (.For t it a b p) = some x) : b = [] ∧ ((∃ m q, t = .Name m q ∧ ((c.slot m).bind fun x => (compE c k it).bind fun e => (compSs c k a).map fun b => S.for1 x e b) = some x) ∨ ∃ ts u q, t = .Tuple ts u q ∧ ((slotsOf c ts).bind fun xs => (compE c k it).bind fun e => (compSs c k a).map fun b => S.forT xs e b) = some x) := by
  induction t using PySem.Expr.casesOn with
  | Name m q =>
    induction b using List.casesOn with
    | nil => exact ⟨rfl, .inl ⟨m, q, rfl, h⟩⟩
    | cons _ _ => exact noneSome h
  | Tuple ts u q =>
    induction b using List.casesOn with
    | nil => exact ⟨rfl, .inr ⟨ts, u, q, rfl, h⟩⟩
    | cons _ _ => exact noneSome h
  | _ => exact noneSome h
theorem tupAsg_of {k : Nat} {ts : List PySem.Expr} {u : Nat} {q : Pos} {v : PySem.Expr} {p : Pos} {x : S} (h : compS c (k + 1) (.Assign [.Tuple ts u q] v p) = some x) : (∃ f as ks p', v = .Call f as ks p') ∧ ((slotsOf c ts).bind fun xs => (compE c k v).map fun e => S.asgT xs e) = some x := by
  induction v using PySem.Expr.casesOn with
  | Call f as ks p' => exact ⟨⟨f, as, ks, p', rfl⟩, h⟩
  | _ => exact noneSome h

theorem mapS {α : Type} {o : Option α} {f : α → S} {x : S} {e : PySem.Stmt} (h : o.map f = some x) (g : ∀ a, o = some a → SS prog w hb T C n c e (f a)) : SS prog w hb T C n c e x := by
  rcases o with _ | a
  · exact noneSome h
  · obtain rfl := Option.some.inj h; exact g a rfl
theorem soundS (B : Base prog w hb K T C n) : ∀ k, (∀ c e x, c.K = K → compS c k e = some x → SS prog w hb T C n c e x) ∧ (∀ c es xs, c.K = K → compSs c k es = some xs → SSs prog w hb T C n c es xs) := by
  intro k
  induction k with
  | zero => exact ⟨fun c e x _ h => noneSome h, fun c es xs _ h => noneSome h⟩
  | succ k ih =>
    obtain ⟨ihS, ihL⟩ := ih
    have ihE := (sound B k).1
    refine ⟨fun c e x hK h => ?_, fun c es xs hK h => ?_⟩
    · induction e using PySem.Stmt.casesOn with
      | Assign ts v p =>
        rcases ts with _ | ⟨t, _ | ⟨_, _⟩⟩
        · exact noneSome h
        · induction t using PySem.Expr.casesOn with
          | Name m q => exact bindE h fun y h1 h => mapS h fun a h2 => SS_asg0 B hK _ _ h1 h2
          | Tuple ts u q =>
            have g := tupAsg_of h
            clear h
            exact bindE g.2 fun y h1 h => mapS h fun a h2 => SS_asgT _ _ h1 g.1 (ihE _ _ _ hK h2).se
          | Attribute o m q =>
            refine bindE h fun f h1 h => bindE h fun a h2 h => mapS h fun b h3 => ?_
            obtain rfl := (attrId_name h1).1
            exact SS_asgA B _ _ (ihE _ _ _ hK h2).se (ihE _ _ _ hK h3).se
          | Subscript o i q => exact bindE h fun f h1 h => bindE h fun a h2 h => mapS h fun b h3 => SS_asgI _ _ (ihE _ _ _ hK h1).se (ihE _ _ _ hK h2).se (ihE _ _ _ hK h3).se
          | _ => exact noneSome h
        · induction t using PySem.Expr.casesOn <;> exact noneSome h
      | AugAssign t op v p =>
        induction t using PySem.Expr.casesOn with
        | Name m q => exact bindE h fun f h1 h => bindE h fun a h2 h => mapS h fun b h3 => SS_aug _ _ h1 h2 (ihE _ _ _ hK h3).se
        | Attribute o m q =>
          refine bindE h fun o h0 h => bindE h fun f h1 h => bindE h fun a h2 h => mapS h fun b h3 => ?_
          obtain rfl := (attrId_name h1).1
          exact SS_augA B _ _ h0 (ihE _ _ _ hK h2).se (ihE _ _ _ hK h3).se
        | _ => exact noneSome h
      | Expr e p =>
        exact ifN (p := isComp e) h fun hn h => mapS h fun b h3 => SS_ex _ hn (ihE _ _ _ hK h3).se
      | If t a b p => exact bindE h fun f h1 h => bindE h fun a h2 h => mapS h fun b h3 => SS_ite _ (ihE _ _ _ hK h1).sb (ihL _ _ _ hK h2) (ihL _ _ _ hK h3)
      | While t a b p =>
        rcases b with _ | ⟨_, _⟩
        · exact bindE h fun f h1 h => mapS h fun b h3 => SS_while _ (ihE _ _ _ hK h1).sb (ihL _ _ _ hK h3)
        · exact noneSome h
      | For t it a b p =>
        have g := for_of h
        clear h
        obtain ⟨rfl, g⟩ := g
        rcases g with ⟨m, q, rfl, h⟩ | ⟨ts, u, q, rfl, h⟩
        · exact bindE h fun f h1 h => bindE h fun a h2 h => mapS h fun b h3 => SS_for1 _ (folded_of h2) h1 (ihE _ _ _ hK h2).se (ihL _ _ _ hK h3)
        · exact bindE h fun f h1 h => bindE h fun a h2 h => mapS h fun b h3 => SS_forT _ (folded_of h2) h1 (ihE _ _ _ hK h2).se (ihL _ _ _ hK h3)
      | Return e p =>
        rcases e with _ | e
        · exact noneSome h
        · exact mapS h fun b h3 => SS_ret _ (ihE _ _ _ hK h3).se
      | Raise _ _ _ => obtain rfl := Option.some.inj h; exact SS_raise
      | Try a hs oe fb p =>
        rcases oe with _ | ⟨_, _⟩
        · rcases fb with _ | ⟨_, _⟩
          · exact mapS h fun b h3 => SS_try _ (ihL _ _ _ hK h3)
          · exact noneSome h
        · exact noneSome h
      | _ => exact noneSome h
    · rcases es with _ | ⟨e, es⟩
      · obtain rfl := Option.some.inj h; exact SSs_nil
      · refine bindE h fun a h1 h => ?_
        rcases h2 : compSs c k es with _ | as
        · rw [h2] at h; exact noneSome h
        · rw [h2] at h
          obtain rfl := Option.some.inj h
          exact SSs_cons (ihS _ _ _ hK h1) (ihL _ _ _ hK h2)
end
end Mine
end
section
set_option tactic.hygienic false
set_option backward.match.sparseCases false
open PySem PySem.W PyProof.Rows PySem.Calls
open PySem.Sem (wp)
set_option maxRecDepth 100000
namespace Mine
theorem zip_lookup {ps : List PySem.Str} {vals : List Value} (hn : ps.Nodup) : ∀ (i : Nat) (n : PySem.Str) (v : Value), ps[i]? = some n → vals[i]? = some v → (ps.zip vals).lookup n = some v := by
  induction ps generalizing vals with
  | nil => intro i n v h; simp at h
  | cons p ps ih =>
    intro i n v h1 h2
    induction vals using List.casesOn with
    | nil => simp at h2
    | cons u us =>
      obtain ⟨hp, hn⟩ := List.nodup_cons.mp hn
      induction i using Nat.casesOn with
      | zero => simp at h1 h2; subst h1; subst h2; simp
      | succ i =>
        simp only [List.getElem?_cons_succ] at h1 h2
        have hne : n ≠ p := fun e => hp (e ▸ List.mem_of_getElem? h1)
        have hb : (n == p) = false := by simpa using hne
        rw [List.zip_cons_cons, List.lookup_cons, hb]
        exact ih hn i n v h1 h2
theorem zip_filterMap : ∀ (ps : List PySem.Str) (W : List Value) (sl : List (PySem.Str × Value)), ps.length = W.length → (∀ (i : Nat) (n : PySem.Str) (v : Value), ps[i]? = some n → W[i]? = some v → sl.lookup n = some v) → ps.filterMap (fun n => (sl.lookup n).map (n, ·)) = ps.zip W
  | [], W, sl, hl, h => by simp
  | p :: ps, [], sl, hl, h => by simp at hl
  | p :: ps, v :: W, sl, hl, h => by
    have h0 := h 0 p v rfl rfl
    rw [List.filterMap_cons, h0]
    simp only [Option.map_some, List.zip_cons_cons]
    rw [zip_filterMap ps W sl (by simpa using hl) fun (i : Nat) n v (a : ps[i]? = some n) (b : W[i]? = some v) => h (i + 1) n v (by simpa using a) (by simpa using b)]
theorem wpAny_no {α : Type} {M : Model} {A : Around} {E : Value → Shared → Prop} {s : Shared} {Q : α → Shared → Prop} {p : Prop} [Decidable p] {a b : Sem α} (h : ¬ p) (g : wpAny M A b Q E s) : wpAny M A (if p then a else b) Q E s := by rw [if_neg h]; exact g
theorem loop_fin {sl fin : List (PySem.Str × Value)} {L' L : List (PySem.Str × Value)} (hL : L' = L) (hf : (L = [] ∧ fin = sl) ∨ ∃ x, L = [x] ∧ fin = if (sl.lookup x.1).isNone = true then sl ++ [x] else sl) :
    (forIn L' sl fun (x : PySem.Str × Value) (r : List (PySem.Str × Value)) => (if (r.lookup x.1).isNone = true then pure (ForInStep.yield (r ++ [(x.1, x.2)])) else pure (ForInStep.yield r) : Sem (ForInStep (List (PySem.Str × Value))))) = pure fin := by
  subst hL
  rcases hf with ⟨rfl, rfl⟩ | ⟨x, rfl, hf⟩
  · rfl
  · rw [List.forIn_cons]
    by_cases c : (sl.lookup x.1).isNone = true
    · rw [if_pos c] at hf ⊢; rw [hf]; rfl
    · rw [if_neg c] at hf ⊢; rw [hf]; rfl
theorem bind_gen {s : Shared} {fd : FuncData} {vals : List Value} {as : List Arg} {kd dd} {o : Option (Array Value)} {ds : List Value} {L fin : List (PySem.Str × Value)} (hp : fd.params = ⟨[], as, none, [], kd, none, dd⟩) (hds : (o.getD #[]).toList = ds)
    (hsq : ∀ M A E Q, Q o s → wpAny M A (seqItems? fd.defaults) Q E s) (hl : vals.length ≤ (as.map fun x : Arg => x.arg).length) (hmiss : (((as.map fun x : Arg => x.arg).take ((as.map fun x : Arg => x.arg).length - (ds.drop (ds.length - (as.map fun x : Arg => x.arg).length)).length)).filter fun n => (((as.map fun x : Arg => x.arg).zip vals).lookup n).isNone) = [])
    (hL : ((as.map fun x : Arg => x.arg).drop ((as.map fun x : Arg => x.arg).length - (ds.drop (ds.length - (as.map fun x : Arg => x.arg).length)).length)).zip (ds.drop (ds.length - (as.map fun x : Arg => x.arg).length)) = L)
    (hf : (L = [] ∧ fin = (as.map fun x : Arg => x.arg).zip vals) ∨ ∃ x, L = [x] ∧ fin = if (((as.map fun x : Arg => x.arg).zip vals).lookup x.1).isNone = true then (as.map fun x : Arg => x.arg).zip vals ++ [x] else (as.map fun x : Arg => x.arg).zip vals) :
    BindsTo s fd ⟨vals, []⟩ ((as.map fun x : Arg => x.arg).filterMap fun n => (fin.lookup n).map (n, ·)) := fun M A E Q q => by
  subst hds
  obtain ⟨f1, f2, f3, f4, f5, f6, f7, f8, f9, f10, f11, f12, f13, f14, f15⟩ := fd
  obtain rfl : f3 = _ := hp
  refine wpAny_bind (wpAny_of_eq (a := ⟨(as.map fun x : Arg => x.arg).zip vals, []⟩) rfl (wpAny_bind (hsq _ _ _ _ ?_)))
  refine wpAny_no (p := (decide (vals.length > (as.map fun x : Arg => x.arg).length) && true) = true) (by rw [Bool.and_true, decide_eq_true_eq]; exact Nat.not_lt.mpr hl) ?_
  refine wpAny_no (p := (!((((as.map fun x : Arg => x.arg).take ((as.map fun x : Arg => x.arg).length - ((o.getD #[]).toList.drop ((o.getD #[]).toList.length - (as.map fun x : Arg => x.arg).length)).length)).filter fun n => (((as.map fun x : Arg => x.arg).zip vals).lookup n).isNone)).isEmpty) = true) (by rw [hmiss]; exact Bool.false_ne_true) ?_
  refine wpAny_bind (wpAny_of_eq (a := fin) (loop_fin hL hf) ?_)
  refine wpAny_bind (wpAny_of_eq (a := ⟨fin, []⟩) rfl ?_)
  refine wpAny_no (p := (!([] : List PySem.Str).isEmpty) = true) Bool.false_ne_true ?_
  refine wpAny_of_eq (a := (as.map fun x : Arg => x.arg).filterMap fun n => (fin.lookup n).map (n, ·)) ?_ q
  show pure (((as.map fun x : Arg => x.arg) ++ []).filterMap (fun n => (fin.lookup n).map (n, ·))) = _
  rw [List.append_nil]
theorem lookup_miss {ps : List PySem.Str} {vals : List Value} {k : Nat} (hn : ps.Nodup) (hk : k ≤ vals.length) : ((ps.take k).filter fun n => ((ps.zip vals).lookup n).isNone) = [] :=
  List.filter_eq_nil_iff.mpr fun n hm e => by
    obtain ⟨i, hi⟩ := List.getElem?_of_mem hm
    rw [List.getElem?_take] at hi
    by_cases hik : i < k
    · rw [if_pos hik] at hi
      rw [zip_lookup hn i n vals[i] hi (List.getElem?_eq_getElem (Nat.lt_of_lt_of_le hik hk))] at e; cases e
    · rw [if_neg hik] at hi; cases hi
theorem bind_none {s : Shared} {fd : FuncData} {vals : List Value} {as : List Arg} {kd dd} {ps : List PySem.Str} (hp : fd.params = ⟨[], as, none, [], kd, none, dd⟩) (hps : as.map (·.arg) = ps) (hd : fd.defaults = .none) (hn : ps.Nodup) (hl : vals.length = ps.length) :
    BindsTo s fd ⟨vals, []⟩ (ps.zip vals) := by
  subst hps
  have b := bind_gen (s := s) (vals := vals) (o := none) (ds := []) (L := []) (fin := (as.map fun x : Arg => x.arg).zip vals) hp rfl (fun M A E Q q => by rw [hd]; exact wpAny_of_eq rfl q) (Nat.le_of_eq hl) (by rw [List.drop_nil]; exact lookup_miss hn (Nat.le_of_eq hl.symm)) (by rw [List.drop_nil, List.zip_nil_right]) (.inl ⟨rfl, rfl⟩)
  rw [zip_filterMap _ vals _ hl.symm fun i n v a b => zip_lookup hn i n v a b] at b
  exact b
theorem bind_one {s : Shared} {fd : FuncData} {vals : List Value} {as : List Arg} {kd dd} {ps : List PySem.Str} {Tt : Addr} {o : Obj} {D0 : Value} {m : Nat} (hp : fd.params = ⟨[], as, none, [], kd, none, dd⟩) (hps : as.map (·.arg) = ps) (hd : fd.defaults = .ref Tt)
    (ho : s.heap.get? Tt = some o) (hod : o.data = .seq #[D0] m) (hn : ps.Nodup) (hl : vals.length = ps.length ∨ vals.length + 1 = ps.length) (hne : 1 ≤ ps.length) :
    BindsTo s fd ⟨vals, []⟩ (ps.zip (vals ++ [D0].drop (1 + vals.length - ps.length))) := by
  subst hps
  obtain ⟨k, hk⟩ : ∃ k, (as.map fun x : Arg => x.arg).length = k + 1 := ⟨_, (Nat.sub_add_cancel hne).symm⟩
  have hlt : k < (as.map fun x : Arg => x.arg).length := by rw [hk]; exact Nat.lt_succ_self k
  have e0 : [D0].drop ([D0].length - (as.map fun x : Arg => x.arg).length) = [D0] := by rw [hk]; show [D0].drop (1 - (k + 1)) = _; rw [Nat.sub_eq_zero_of_le (Nat.le_add_left 1 k)]; rfl
  have hkv : k ≤ vals.length := by rcases hl with h | h <;> lia
  have hlast : (as.map fun x : Arg => x.arg)[k]? = some (as.map fun x : Arg => x.arg)[k] := List.getElem?_eq_getElem hlt
  have b := bind_gen (s := s) (vals := vals) (o := some #[D0]) (ds := [D0]) (L := [((as.map fun x : Arg => x.arg)[k], D0)]) (fin := if (((as.map fun x : Arg => x.arg).zip vals).lookup (as.map fun x : Arg => x.arg)[k]).isNone = true then (as.map fun x : Arg => x.arg).zip vals ++ [((as.map fun x : Arg => x.arg)[k], D0)] else (as.map fun x : Arg => x.arg).zip vals) hp rfl (fun M A E Q q => by rw [hd]; exact wpAny_seqItems ho hod q)
    (by rcases hl with h | h <;> lia) (by rw [e0, hk]; exact lookup_miss hn hkv) (by
      rw [e0, hk]
      show ((as.map fun x : Arg => x.arg).drop k).zip [D0] = _
      rw [List.drop_eq_getElem_cons hlt, List.zip_cons_cons, List.zip_nil_right]) (.inr ⟨_, rfl, rfl⟩)
  rcases hl with hl | hl
  · have e := zip_lookup hn k (as.map fun x : Arg => x.arg)[k] (vals[k]'(by lia)) hlast (List.getElem?_eq_getElem (by lia))
    rw [if_neg (by rw [e]; exact Bool.false_ne_true), zip_filterMap _ vals _ hl.symm fun i n v a b => zip_lookup hn i n v a b] at b
    rw [hl, Nat.add_sub_cancel, show [D0].drop 1 = [] from rfl, List.append_nil]
    exact b
  · have hv : vals.length = k := by lia
    have hnone : ((as.map fun x : Arg => x.arg).zip vals).lookup (as.map fun x : Arg => x.arg)[k] = none := by
      rw [List.lookup_eq_none_iff]
      intro p hp'
      obtain ⟨j, hj⟩ := List.getElem?_of_mem hp'
      rw [List.getElem?_zip_eq_some] at hj
      have hj1 : j < vals.length := (List.getElem?_eq_some_iff.mp hj.2).1
      obtain ⟨hj2, hj3⟩ := List.getElem?_eq_some_iff.mp hj.1
      refine bne_iff_ne.mpr fun e => ?_
      rw [← hj3] at e
      have := (List.getElem_inj hn).mp e
      lia
    rw [if_pos (by rw [hnone]; rfl), zip_filterMap _ (vals ++ [D0]) _ (by rw [List.length_append]; exact hl.symm) fun i n v a g => ?_] at b
    · rw [show 1 + vals.length - (as.map fun x : Arg => x.arg).length = 0 by lia]
      exact b
    · by_cases hi : i < vals.length
      · rw [List.getElem?_append_left hi] at g
        rw [List.lookup_append, zip_lookup hn i n v a g]; rfl
      · obtain rfl : i = k := by have := (List.getElem?_eq_some_iff.mp a).1; lia
        rw [List.getElem?_append_right (Nat.le_of_not_lt hi), hv, Nat.sub_self] at g
        obtain rfl := Option.some.inj g
        rw [hlast] at a
        obtain rfl := Option.some.inj a
        rw [List.lookup_append, hnone, List.lookup_cons, beq_self_eq_true]; rfl
end Mine
end
section
open PySem PySem.W PyProof.Rows PySem.Calls
open PySem.Sem (wp)
set_option maxRecDepth 100000
namespace Mine

noncomputable def dflOk (K : Frag) (fd : FuncData) (d : Def) : Bool := match d.dfl, fd.defaults with
  | [], .none => true
  | [.int i], .ref t => (match K.lookup t with
    | some ⟨_, _, .seq vs _, _⟩ => (match vs.toList with
      | [.int j _] => i == j
      | _ => false)
    | _ => false)
  | _, _ => false
noncomputable def fnFlags (K : Frag) (fd : FuncData) (d : Def) : Bool :=
  fd.scope.kind == .function && !fd.scope.isCoroutine && !fd.scope.isGenerator && fd.globals == mainGlobals && fd.builtins == builtinsNs && fd.closure.isEmpty && codeIn K fd.code fd.qualname &&
  decide ((fd.scope.names.map (·.1)).Nodup) && fd.scope.names.all (fun p => p.2 == .local || p.2 == .cell || p.2 == .globalImplicit) &&
  fd.params.posonlyargs.isEmpty && fd.params.kwonlyargs.isEmpty && fd.params.vararg.isNone && fd.params.kwarg.isNone &&
  (fd.params.args.map (·.arg)) == (ownNames fd.scope).take d.args && fd.params.args.length == d.args && dflOk K fd d && (d.dfl.isEmpty || decide (1 ≤ d.args))
theorem and_l {a b : Bool} (h : (a && b) = true) : a = true := (Bool.and_eq_true_iff.mp h).1
theorem and_r {a b : Bool} (h : (a && b) = true) : b = true := (Bool.and_eq_true_iff.mp h).2
theorem not_f {a : Bool} (h : (!a) = true) : a = false := by rcases a with _ | _; rfl; cases h
structure FF (K : Frag) (fd : FuncData) (d : Def) : Prop where
  f1 : fd.scope.kind = .function
  f2 : fd.scope.isCoroutine = false
  f3 : fd.scope.isGenerator = false
  f4 : fd.globals = mainGlobals
  f5 : fd.builtins = builtinsNs
  f6 : fd.closure.isEmpty = true
  f7 : codeIn K fd.code fd.qualname = true
  f8 : (fd.scope.names.map (·.1)).Nodup
  f9 : fd.scope.names.all (fun p => p.2 == .local || p.2 == .cell || p.2 == .globalImplicit) = true
  f10 : fd.params.posonlyargs.isEmpty = true
  f11 : fd.params.kwonlyargs.isEmpty = true
  f12 : fd.params.vararg.isNone = true
  f13 : fd.params.kwarg.isNone = true
  f14 : fd.params.args.map (·.arg) = (ownNames fd.scope).take d.args
  f15 : fd.params.args.length = d.args
  f16 : dflOk K fd d = true
  f17 : (d.dfl.isEmpty || decide (1 ≤ d.args)) = true
theorem fnFlags_parts {K : Frag} {fd : FuncData} {d : Def} (h : fnFlags K fd d = true) : FF K fd d :=
  ⟨beq_iff_eq.mp ((and_l (and_l (and_l (and_l (and_l (and_l (and_l (and_l (and_l (and_l (and_l (and_l (and_l (and_l (and_l (and_l h))))))))))))))))), not_f (and_r (and_l (and_l (and_l (and_l (and_l (and_l (and_l (and_l (and_l (and_l (and_l (and_l (and_l (and_l (and_l h)))))))))))))))), not_f (and_r (and_l (and_l (and_l (and_l (and_l (and_l (and_l (and_l (and_l (and_l (and_l (and_l (and_l (and_l h))))))))))))))), beq_iff_eq.mp (and_r (and_l (and_l (and_l (and_l (and_l (and_l (and_l (and_l (and_l (and_l (and_l (and_l (and_l h)))))))))))))), beq_iff_eq.mp (and_r (and_l (and_l (and_l (and_l (and_l (and_l (and_l (and_l (and_l (and_l (and_l (and_l h))))))))))))), and_r (and_l (and_l (and_l (and_l (and_l (and_l (and_l (and_l (and_l (and_l (and_l h))))))))))), and_r (and_l (and_l (and_l (and_l (and_l (and_l (and_l (and_l (and_l (and_l h)))))))))), of_decide_eq_true (and_r (and_l (and_l (and_l (and_l (and_l (and_l (and_l (and_l (and_l h)))))))))), and_r (and_l (and_l (and_l (and_l (and_l (and_l (and_l (and_l h)))))))), and_r (and_l (and_l (and_l (and_l (and_l (and_l (and_l h))))))), and_r (and_l (and_l (and_l (and_l (and_l (and_l h)))))), and_r (and_l (and_l (and_l (and_l (and_l h))))), and_r (and_l (and_l (and_l (and_l h)))), beq_iff_eq.mp (and_r (and_l (and_l (and_l h)))), beq_iff_eq.mp (and_r (and_l (and_l h))), and_r (and_l h), and_r h⟩
structure FnOk (K : Frag) (f : Nat) (d : Def) : Prop where
  ex : ∃ oc od fd sl b, K.lookup f = some ⟨oc, od, .func fd, sl⟩ ∧ fd.body = .stmts b ∧ compSs (Cx.ofDef K fd.scope) 40 b = some d.body ∧ fnFlags K fd d = true
noncomputable def ProgOk (K : Frag) (P : Nat → Option Def) : Prop := ∀ f d, P f = some d → FnOk K f d

theorem zipIdx_at {α : Type} [BEq α] [LawfulBEq α] {n : α} {x : Nat} : ∀ {l : List α} {k : Nat}, (l.zipIdx k).lookup n = some x → k ≤ x ∧ l[x - k]? = some n
  | [], k, h => by simp at h
  | a :: r, k, h => by
    rw [List.zipIdx_cons] at h
    by_cases hn : n = a
    · subst hn; simp at h; subst h; simp
    · have hb : (n == a) = false := by simpa using hn
      rw [List.lookup_cons, hb] at h
      obtain ⟨h1, h2⟩ := zipIdx_at h
      refine ⟨by lia, ?_⟩
      rw [show x - k = (x - (k + 1)) + 1 by lia]
      simpa using h2
theorem zipIdx_mem {α : Type} [BEq α] [LawfulBEq α] {n : α} : ∀ {l : List α} {k : Nat}, n ∈ l → ∃ x, (l.zipIdx k).lookup n = some x
  | [], k, h => nomatch h
  | a :: r, k, h => by
    rw [List.zipIdx_cons]
    by_cases hn : n = a
    · subst hn; exact ⟨k, by simp⟩
    · have hb : (n == a) = false := by simpa using hn
      rw [List.lookup_cons, hb]
      exact zipIdx_mem ((List.mem_cons.mp h).resolve_left hn)
theorem cellsFrom_acc {n : PySem.Str} : ∀ (names : List (PySem.Str × NameKind)) (k : Nat) (acc : List (PySem.Str × Addr)), (acc.lookup n).isSome = true → ((cellsFrom k names acc).lookup n).isSome = true
  | [], _, _, h => h
  | (m, kd) :: r, k, acc, h => by
    unfold cellsFrom
    split
    · refine cellsFrom_acc r _ _ ?_
      by_cases hn : n = m
      · subst hn; simp
      · have hb : (n == m) = false := by simpa using hn
        rw [List.lookup_cons, hb]; exact h
    · exact cellsFrom_acc r _ _ h
theorem cellsFrom_mem {n : PySem.Str} : ∀ (names : List (PySem.Str × NameKind)) (k : Nat) (acc : List (PySem.Str × Addr)), (n, NameKind.cell) ∈ names → ((cellsFrom k names acc).lookup n).isSome = true
  | [], _, _, h => nomatch h
  | (m, kd) :: r, k, acc, h => by
    unfold cellsFrom
    rcases List.mem_cons.mp h with e | h
    · cases e
      rw [if_pos (by decide)]
      exact cellsFrom_acc r _ _ (by simp)
    · split
      · exact cellsFrom_mem r _ _ h
      · exact cellsFrom_mem r _ _ h
theorem lookup_nodup {α β : Type} [BEq α] [LawfulBEq α] {n : α} {b : β} : ∀ {l : List (α × β)}, (l.map (·.1)).Nodup → (n, b) ∈ l → l.lookup n = some b
  | [], _, h => nomatch h
  | (m, d) :: r, hn, h => by
    obtain ⟨h1, h2⟩ := List.nodup_cons.mp hn
    rcases List.mem_cons.mp h with e | h'
    · cases e; simp
    · have hne : n ≠ m := fun e => h1 (by subst e; exact List.mem_map_of_mem (f := (·.1)) h')
      have hb : (n == m) = false := by simpa using hne
      rw [List.lookup_cons, hb]; exact lookup_nodup h2 h'
theorem bindL_at {kindOf : PySem.Str → Option NameKind} {n : PySem.Str} {v : Value} (hk : kindOf n = some .local) : ∀ {bs : List (PySem.Str × Value)} {m : PySem.Str → Option Value}, (bs.map (·.1)).Nodup → ((n, v) ∈ bs ∨ ((∀ p ∈ bs, p.1 ≠ n) ∧ m n = some v)) → bindL kindOf bs m n = some v
  | [], m, _, h => by
    rcases h with h | ⟨_, h⟩
    · cases h
    · exact h
  | (a, u) :: r, m, hn, h => by
    obtain ⟨h1, h2⟩ := List.nodup_cons.mp hn
    unfold bindL
    refine bindL_at hk h2 ?_
    rcases h with h | ⟨h, hm⟩
    · rcases List.mem_cons.mp h with e | h
      · cases e
        refine .inr ⟨fun p hp e => h1 (e ▸ List.mem_map_of_mem (f := (·.1)) hp), ?_⟩
        rw [if_pos hk]; simp
      · exact .inl h
    · refine .inr ⟨fun p hp => h p (.tail _ hp), ?_⟩
      have hne : a ≠ n := h (a, u) (.head _)
      split
      · simp [Ne.symm hne, hm]
      · exact hm
theorem bindC_at {kindOf : PySem.Str → Option NameKind} {n : PySem.Str} {v : Value} (hk : kindOf n ≠ some .local) : ∀ {bs : List (PySem.Str × Value)} {m : PySem.Str → Option Value}, (bs.map (·.1)).Nodup → ((n, v) ∈ bs ∨ ((∀ p ∈ bs, p.1 ≠ n) ∧ m n = some v)) → bindC kindOf bs m n = some v
  | [], m, _, h => by
    rcases h with h | ⟨_, h⟩
    · cases h
    · exact h
  | (a, u) :: r, m, hn, h => by
    obtain ⟨h1, h2⟩ := List.nodup_cons.mp hn
    unfold bindC
    refine bindC_at hk h2 ?_
    rcases h with h | ⟨h, hm⟩
    · rcases List.mem_cons.mp h with e | h
      · cases e
        refine .inr ⟨fun p hp e => h1 (e ▸ List.mem_map_of_mem (f := (·.1)) hp), ?_⟩
        rw [if_neg hk]; simp
      · exact .inl h
    · refine .inr ⟨fun p hp => h p (.tail _ hp), ?_⟩
      have hne : a ≠ n := h (a, u) (.head _)
      split
      · exact hm
      · simp [Ne.symm hne, hm]

section
variable {prog : Program} {w : World} {A : Around} {hb : Heap} {σ : Hp} {s s₀ : Shared} {c : Cx} {env : Env} {ρ : Rho} {K : Frag} {T : Tab} {C : Calls} {n : Nat} {σ₀ : Hp} {P : Nat → Option Def}

theorem call_function_G {a : Addr} {args : Args} {o : Obj} {fd : FuncData} {body : List PySem.Stmt} {R : Flow → Shared → Prop} (hroom : A.depth < recursionLimit)
    (ho : s.heap.get? a = some o)
    (hd' : o.data = .func fd) (hco : fd.scope.isCoroutine = false) (hgen : fd.scope.isGenerator = false) (hbody : fd.body = .stmts body) (hcd : s.heap.CodeRec fd.code fd.qualname)
    (h : wpG (model prog w) A.in1 (bindArgs fd args) (fun binds s₁ =>
      wpG (model prog w) A.in1 (newFunctionEnv fd.scope fd.globals fd.closure binds (fd.qualname ++ ".<locals>.") (some a) fd.code none fd.builtins)
        (fun env s₂ => s₂.heap.NoLimit ∧ codeG (model prog w) A (.func body env) R s₂) s₁) s) :
    codeG (model prog w) A (.call (.ref a) args) R s := by
  refine codeG_of_tree rfl ?_
  show wpG _ A.in1 (callAny (.ref a) args) _ s
  simp only [callAny]
  refine wpG_bind (wpG_load ho ?_)
  obtain ⟨c, oc, vs, tq, hc, hoc, hdc, hq⟩ := hcd
  simp only [hd', callFunction, hco, hgen, hbody, hc]
  rw [hc] at h
  refine wpG_bind (m := field (.ref c) 1) (wpG_of_any (wpAny_field hoc hdc hq (wpG_bind (wpG_pure ?_))))
  exact wpG_bind (wpG_mono h fun binds s₁ h₁ => wpG_bind (wpG_mono h₁ fun env s₂ h₂ => wpG_bind (wpG_of_any (wpAny_enterFrame h₂.1 hroom
    (wpG_pure (And.intro rfl h₂.2))))))
theorem func_G {body : List PySem.Stmt} {R : Flow → Shared → Prop} (h : wpG (model prog w) (A.deeper env) (execs body env) (fun f s' => R (.ret (match f with | .ret v => v | _ => .none)) s') s) : codeG (model prog w) A (.func body env) R s := by
  refine codeG_of_tree rfl ?_
  show wpG _ (A.deeper env) (do point; match ← (execs body env).onRaise (leaving env) with | .ret v => ret v | _ => ret .none) _ s
  refine wpG_bind (wpG_point (wpG_bind (wpG_onRaise (wpG_mono h fun f s' h' => ?_))))
  induction f using PySem.Flow.casesOn <;> exact wpG_pure h'

theorem ownNames_mem {sc : Scope} {n : PySem.Str} : n ∈ ownNames sc ↔ ∃ k, (n, k) ∈ sc.names ∧ (k = .local ∨ k = .cell) := by
  unfold ownNames
  simp only [List.mem_map, List.mem_filter, Bool.or_eq_true, beq_iff_eq]
  constructor
  · rintro ⟨⟨m, k⟩, ⟨h1, h2⟩, rfl⟩; exact ⟨k, h1, h2⟩
  · rintro ⟨k, h1, h2⟩; exact ⟨(n, k), ⟨h1, h2⟩, rfl⟩
theorem ownNames_nodup {sc : Scope} (h : (sc.names.map (·.1)).Nodup) : (ownNames sc).Nodup := by
  exact List.Sublist.nodup (List.Sublist.map _ List.filter_sublist) h

/-- the names of a def, as it starts -/
theorem EnvOk.start (I : Inv hb σ s) {fd : FuncData} {d : Def} {a : Addr} {s₁ : Shared} {Ws : List V} {vs : List Value} (hf : fnFlags K fd d = true) (hlen : Ws.length = d.args) (r : RepL s.heap Ws vs)
    (he : env = newEnv fd.scope s.heap.objs.size fd.globals (cellsFrom (s.heap.objs.size + 1) fd.scope.names []) (fd.qualname ++ ".<locals>.") (some a) fd.code none fd.builtins)
    (x : InCallC s env.locals (bindL env.kindOf (((ownNames fd.scope).take d.args).zip vs) fun _ => none) env.cells (bindC env.kindOf (((ownNames fd.scope).take d.args).zip vs) fun _ => none) s₁) :
    EnvOk hb (Cx.ofDef K fd.scope) env σ (Ws.map some ++ List.replicate (d.size - d.args) none) s₁ ∧ NoFree (Cx.ofDef K fd.scope) env ∧ Inv hb σ s₁ ∧ Ext σ s σ s₁ ∧ ∀ b, Ours env b → s.heap.get? b = none := by
  have H := fnFlags_parts hf
  clear hf
  have kk := x.toInCall.keep
  obtain ⟨h₁, tk, e1⟩ := x.toInCall.same
  have g1 : s₁.gens = s.gens := by rw [e1]
  have o1 : s₁.os = s.os := by rw [e1]
  have I₁ : Inv hb σ s₁ := I.grow kk
  have X₁ : Ext σ s σ s₁ := .grow kk g1 o1
  have hloc : env.locals = s.heap.objs.size := by rw [he]; rfl
  have hcells : env.cells = cellsFrom (s.heap.objs.size + 1) fd.scope.names [] := by rw [he]; rfl
  have hkindOf : ∀ m, env.kindOf m = fd.scope.names.lookup m := fun m => by rw [he]; rfl
  have fresh : ∀ a, s.heap.objs.size ≤ a → s.heap.get? a = none := fun a ha => by
    induction e : s.heap.get? a using Option.casesOn with
    | none => rfl
    | some o' => exact absurd (Heap.lt_size e) (Nat.not_lt.mpr ha)
  have ours : ∀ b, Ours env b → s.heap.get? b = none := fun b hb' => by
    rcases hb' with rfl | ⟨m, hm⟩
    · exact fresh _ (by rw [hloc]; exact Nat.le_refl _)
    · have := x.above m b (PySem.mem_of_lookup hm)
      exact fresh _ (by rw [hloc] at this; exact Nat.le_of_lt this)
  have nofr : ∀ m, fd.scope.names.lookup m ≠ some .free := fun m hm => by
    have := List.all_eq_true.mp H.f9 _ (lookup_mem hm)
    cases this
  have slotn : ∀ m y, (Cx.ofDef K fd.scope).slot m = some y → (ownNames fd.scope)[y]? = some m ∧ (fd.scope.names.lookup m = some .local ∨ fd.scope.names.lookup m = some .cell) := by
    intro m y h
    unfold Cx.slot Cx.ofDef at h
    simp only at h
    split at h
    · rename_i q; exact ⟨by have := zipIdx_at h; simpa using this.2, .inl q⟩
    · rename_i q; exact ⟨by have := zipIdx_at h; simpa using this.2, .inr q⟩
    · rename_i q; exact absurd q (nofr m)
    · cases h
  have hps : ((ownNames fd.scope).take d.args).length = d.args := by rw [← H.f14, List.length_map]; exact H.f15
  have hvl := r.length
  have hnd : ((((ownNames fd.scope).take d.args).zip vs).map (·.1)).Nodup := by
    rw [List.map_fst_zip (by rw [hps, hvl, hlen]; exact Nat.le_refl _)]
    exact List.Sublist.nodup (List.take_sublist _ _) (ownNames_nodup H.f8)
  -- an argument
  have arg : ∀ m y W, (ownNames fd.scope)[y]? = some m → Rho.get (Ws.map some ++ List.replicate (d.size - d.args) none) y = some W → ∃ v, (m, v) ∈ ((ownNames fd.scope).take d.args).zip vs ∧ Rep s.heap W v := by
    intro m y W h1 h2
    unfold Rho.get at h2
    by_cases hy : y < Ws.length
    · rw [List.getElem?_append_left (by simpa using hy)] at h2
      simp only [List.getElem?_map] at h2
      rw [List.getElem?_eq_getElem hy] at h2
      simp only [Option.map_some, Option.some.injEq] at h2
      obtain ⟨v, hv, rv⟩ := r.get (i := y) (W := W) (by rw [List.getElem?_eq_getElem hy, h2])
      refine ⟨v, List.mem_of_getElem? (i := y) ?_, rv⟩
      rw [List.getElem?_zip_eq_some]
      exact ⟨by rw [List.getElem?_take, if_pos (by lia)]; exact h1, hv⟩
    · rw [List.getElem?_append_right (by simpa using Nat.not_lt.mp hy)] at h2
      split at h2
      · rename_i o ho
        rw [List.getElem?_replicate] at ho
        split at ho
        · cases ho; cases h2
        · cases ho
      · cases h2
  have kf : ∀ b o, s.heap.get? b = some o → fixedO o → s₁.heap.get? b = some o := fun b o e _ => kk b o e
  refine ⟨⟨?_, ?_, ?_, ?_, ?_, ?_, ⟨_, x.toInCall.ns, ?_⟩, ?_, ?_, ?_, ?_, ?_, ?_⟩, ?_, I₁, X₁, ours⟩
  · rw [he]; exact H.f1
  · rw [he]; exact H.f4
  · rw [he]; exact H.f5
  · intro m hm; rw [hkindOf]; exact hm
  · intro m m' y e1 e2
    have a1 := (slotn m y e1).1
    have a2 := (slotn m' y e2).1
    rw [a1] at a2; exact Option.some.inj a2
  · intro m y h
    have := zipIdx_at (l := ownNames fd.scope) (k := 0) h
    exact (List.getElem?_eq_some_iff.mp (by simpa using this.2)).1
  · intro m y hs hk W hW
    obtain ⟨v, h1, h2⟩ := arg m y W (slotn m y hs).1 hW
    exact ⟨v, bindL_at hk hnd (.inl h1), h2.keep kf⟩
  · intro m y hs hk
    obtain ⟨h1, h2⟩ := slotn m y hs
    rw [hkindOf] at hk
    have hc : fd.scope.names.lookup m = some .cell := h2.resolve_left hk
    refine ⟨.inl (by rw [hkindOf]; exact hc), ?_⟩
    obtain ⟨a', ha'⟩ := Option.isSome_iff_exists.mp (cellsFrom_mem fd.scope.names (s.heap.objs.size + 1) [] (lookup_mem hc))
    refine ⟨a', _, by rw [hcells]; exact ha', x.cell m a' (by rw [hcells]; exact ha'), fun W hW => ?_⟩
    obtain ⟨v, h1, h2⟩ := arg m y W (slotn m y hs).1 hW
    exact ⟨v, bindC_at (by rw [hkindOf]; exact hk) hnd (.inl h1), h2.keep kf⟩
  · intro m hm
    have hm : fd.scope.names.lookup m = some .cell ∨ fd.scope.names.lookup m = some .free := hm
    have hc : fd.scope.names.lookup m = some .cell := hm.resolve_right (nofr m)
    refine ⟨zipIdx_mem (ownNames_mem.mpr ⟨_, lookup_mem hc, .inr rfl⟩), ?_, ?_⟩
    · rw [hcells]; exact Option.isSome_iff_exists.mp (cellsFrom_mem _ _ _ (lookup_mem hc))
    · rw [hkindOf, hc]; simp
  · intro m m' a' e1 e2
    exact name_of_addr x.apart (PySem.mem_of_lookup e1) (PySem.mem_of_lookup e2)
  · intro m a' e1
    exact Nat.ne_of_gt (x.above m a' (PySem.mem_of_lookup e1))
  · intro b hb'
    have hn := ours b hb'
    refine ⟨?_, I.not_foot_free hn, ?_⟩
    · induction e9 : hb.get? b using Option.casesOn with
      | none => rfl
      | some o => have := I.base _ _ e9; rw [hn] at this; cases this
    · rcases hb' with rfl | ⟨m, hm⟩
      · obtain ⟨o, _, _, e, _⟩ := x.toInCall.ns; exact ⟨o, e⟩
      · obtain ⟨o, e, _⟩ := x.cell m b hm; exact ⟨o, e⟩
  · intro b hb'
    rcases hb' with rfl | ⟨m, hm⟩
    · exact ns_nofix x.toInCall.ns
    · exact cell_nofix (x.cell m b hm)
  · intro m y hs
    rw [hkindOf]; exact nofr m
end
end Mine
end
section
open PySem PySem.W PyProof.Rows PySem.Calls
open PySem.Sem (wp)
set_option maxRecDepth 100000
namespace Mine
section
variable {prog : Program} {w : World} {A : Around} {hb : Heap} {σ : Hp} {s s₀ : Shared} {c : Cx} {env : Env} {ρ : Rho} {K : Frag} {T : Tab} {C : Calls} {n : Nat} {σ₀ : Hp} {P : Nat → Option Def}

theorem params_of {p : Arguments} (h1 : p.posonlyargs.isEmpty = true) (h2 : p.kwonlyargs.isEmpty = true) (h3 : p.vararg.isNone = true) (h4 : p.kwarg.isNone = true) : p = ⟨[], p.args, none, [], p.kw_defaults, none, p.defaults⟩ := by
  obtain ⟨a, b, c, d, e, f, g⟩ := p
  simp only [List.isEmpty_iff, Option.isNone_iff_eq_none] at h1 h2 h3 h4
  subst h1; subst h2; subst h3; subst h4; rfl

theorem dflOk_inv {fd : FuncData} {d : Def} (h : dflOk K fd d = true) : (d.dfl = [] ∧ fd.defaults = .none) ∨ ∃ i t a b tk m sl, d.dfl = [.int i] ∧ fd.defaults = .ref t ∧ K.lookup t = some ⟨a, b, .seq #[.int i tk] m, sl⟩ := by
  refine Classical.byContradiction fun hn => ?_
  unfold dflOk at h
  generalize e1 : d.dfl = D at h
  generalize e2 : fd.defaults = W at h
  rcases D with _ | ⟨x, _ | ⟨y, D⟩⟩
  · induction W using Value.casesOn with
    | none => exact hn (.inl ⟨e1, e2⟩)
    | _ => exact Bool.false_ne_true h
  · induction x using V.casesOn with
    | int i =>
      induction W using Value.casesOn with
      | ref t =>
        replace h : (match K.lookup t with
          | some ⟨_, _, .seq vs _, _⟩ => (match vs.toList with
            | [.int j _] => i == j
            | _ => false)
          | _ => false) = true := h
        rcases e : K.lookup t with _ | ⟨a, b, dt, sl⟩
        · rw [e] at h; exact Bool.false_ne_true h
        · rw [e] at h
          induction dt using PySem.Data.casesOn with
          | seq vs m =>
            obtain ⟨l⟩ := vs
            rcases l with _ | ⟨w, _ | ⟨_, _⟩⟩
            · exact Bool.false_ne_true h
            · induction w using Value.casesOn with
              | int j tk =>
                obtain rfl : i = j := beq_iff_eq.mp h
                exact hn (.inr ⟨i, t, a, b, tk, m, sl, e1, e2, e⟩)
              | _ => exact Bool.false_ne_true h
            · induction w using Value.casesOn <;> exact Bool.false_ne_true h
          | _ => exact Bool.false_ne_true h
      | _ => exact Bool.false_ne_true h
    | _ => exact Bool.false_ne_true h
  · induction x using V.casesOn <;> exact Bool.false_ne_true h
theorem drop_one {α : Type} {x : α} {k n : Nat} : [x].drop (1 + k - n) = if n ≤ k then [] else [x] := by
  by_cases h : n ≤ k
  · rw [if_pos h]; exact List.drop_eq_nil_of_le (show 1 ≤ _ by lia)
  · rw [if_neg h, show 1 + k - n = 0 by lia]; rfl
/-- the arguments are bound -/
theorem binds_sound (X : K.In s.heap) {fd : FuncData} {d : Def} {Ws : List V} {vs : List Value} (hf : fnFlags K fd d = true) (h1 : Ws.length ≤ d.args) (h2 : d.args ≤ Ws.length + d.dfl.length) (r : RepL s.heap Ws vs) :
    ∃ us, BindsTo s fd ⟨vs, []⟩ (((ownNames fd.scope).take d.args).zip us) ∧ RepL s.heap (d.fill Ws) us ∧ (d.fill Ws).length = d.args := by
  have H := fnFlags_parts hf
  have hp := params_of H.f10 H.f11 H.f12 H.f13
  have hps : ((ownNames fd.scope).take d.args).length = d.args := by rw [← H.f14, List.length_map]; exact H.f15
  have hnd : ((ownNames fd.scope).take d.args).Nodup := List.Sublist.nodup (List.take_sublist _ _) (ownNames_nodup H.f8)
  have hl := r.length
  rcases dflOk_inv H.f16 with ⟨e1, e2⟩ | ⟨i, t, oc, od, tk, m, sl, e1, e2, ho⟩
  · have e : Ws.length = d.args := Nat.le_antisymm h1 (by rw [e1] at h2; exact h2)
    have ef : d.fill Ws = Ws := by unfold Def.fill; rw [e1, List.drop_nil, List.append_nil]
    rw [ef]
    exact ⟨vs, bind_none hp H.f14 e2 hnd (by rw [hps, hl, e]), r, e⟩
  · have hne : 1 ≤ d.args := (Bool.or_eq_true_iff.mp H.f17).elim (fun q => by rw [e1] at q; cases q) of_decide_eq_true
    have h2' : d.args ≤ Ws.length + 1 := by rw [e1] at h2; exact h2
    have ef : d.fill Ws = Ws ++ if d.args ≤ Ws.length then [] else [V.int i] := by unfold Def.fill; rw [e1]; exact congrArg (Ws ++ ·) drop_one
    rw [ef]
    refine ⟨vs ++ [Value.int i tk].drop (1 + vs.length - ((ownNames fd.scope).take d.args).length), bind_one hp H.f14 e2 (X _ _ ho) rfl hnd (by rw [hps, hl]; lia) (by rw [hps]; exact hne), ?_, ?_⟩
    · rw [hps, hl, drop_one]
      refine r.append ?_
      by_cases c : d.args ≤ Ws.length
      · rw [if_pos c, if_pos c]; rfl
      · rw [if_neg c, if_neg c]; exact ⟨_, [], rfl, ⟨_, rfl⟩, rfl⟩
    · by_cases c : d.args ≤ Ws.length
      · rw [if_pos c, List.append_nil]; exact Nat.le_antisymm h1 c
      · rw [if_neg c, List.length_append]; exact Nat.le_antisymm (Nat.lt_of_not_le c) h2'

theorem callN_sound (F : Fix K hb) (TO : TabOk K T) (CN : ConOk hb T) (PO : ProgOk K P) : ∀ n, CallsOk prog w hb n (callN T P n) := by
  intro n
  induction n with
  | zero => intro A hA f Ws vs σ s Q I r q; exact q.elim
  | succ n ih =>
    intro A hA f Ws vs σ s Q I r q
    replace q : (match P f with
      | some d => Ws.length ≤ d.args ∧ d.args ≤ Ws.length + d.dfl.length ∧ wpSs T (callN T P n) d.body ((d.fill Ws).map some ++ List.replicate (d.size - d.args) none) σ fun fl _ σ' =>
          ∃ τ, Sub τ σ' ∧ Q (match fl with | .ret v => v | .next => .none) τ
      | none => False) := q
    rcases hd : P f with _ | d
    · rw [hd] at q; exact q.elim
    · rw [hd] at q
      obtain ⟨h1, h2, q⟩ := q
      obtain ⟨oc, od, fd, sl, b, ho, hbody, hcomp, hf⟩ := (PO f d hd).ex
      have B : Base prog w hb K T (callN T P n) n := ⟨F, TO, ih, CN⟩
      have X := F.into I
      obtain ⟨us, hbind, ru, hlen⟩ := binds_sound X hf h1 h2 r
      have H := fnFlags_parts hf
      have hroom : A.depth < recursionLimit := by have := hA.2.1; lia
      have hps : ((ownNames fd.scope).take d.args).length = d.args := by rw [← H.f14, List.length_map]; exact H.f15
      refine call_function_G (body := b) hroom (X _ _ ho) rfl H.f2 H.f3 hbody (codeRec_of X H.f7) (wpG_of_any (hbind _ _ _ _ ?_))
      rw [List.isEmpty_iff.mp H.f6]
      refine wpG_of_any (wpAny_newFunctionEnv_cells H.f1 (fun y hy => ?_) fun env he s₁ x => ?_)
      · have hm : y.1 ∈ ownNames fd.scope := List.mem_of_mem_take (List.of_mem_zip hy).1
        obtain ⟨k, hk1, hk2⟩ := ownNames_mem.mp hm
        rcases hk2 with rfl | rfl
        · exact .inl (lookup_nodup H.f8 hk1)
        · exact .inr ⟨lookup_nodup H.f8 hk1, cellsFrom_mem _ _ _ hk1⟩
      · obtain ⟨E, hN, I₁, X₁, ours⟩ := EnvOk.start I hf hlen ru he x
        refine ⟨F.nolimit.keeps I₁.base, func_G ?_⟩
        have hA' : RoomE n (A.deeper env) := by
          obtain ⟨a1, a2, a3⟩ := hA
          refine ⟨a1, ?_, ?_⟩
          · show A.depth + 1 + 4 * n + 6 ≤ _; lia
          · show A.units + 3 + 60 * n + 80 ≤ _; lia
        refine wpG_mono ((soundS B 40).2 _ _ _ rfl hcomp _ hA' env _ σ s₁ _ hN E I₁ q) fun fl s₂ p => ?_
        obtain ⟨G, ρ', σ', ⟨τ, hτ, q⟩, rf, E₂, I₂, X₂⟩ := p
        have X3 : Ext σ s τ s₂ := by
          refine ⟨fun b hb' => ?_, fun b o e n => ?_, X₂.gens.trans X₁.gens, X₂.os.trans X₁.os, fun b o e => ?_⟩
          · rcases X₂.foot b (hτ.foot hb') with h | h
            · exact .inl h
            · refine .inr ?_
              induction e : s.heap.get? b using Option.casesOn with
              | none => rfl
              | some o => obtain ⟨o', e'⟩ := X₁.ex b o e; rw [h] at e'; cases e'
          · exact X₂.keep b o (X₁.keep b o e n) n fun ho => by rw [ours b ho] at e; cases e
          · obtain ⟨o', e'⟩ := X₁.ex b o e
            exact X₂.ex b o' e'
        induction G using Mine.Fl.casesOn with
        | next =>
          have rf : fl = .next := rf
          subst rf
          exact ⟨_, τ, q, by rfl, I₂.sub hτ, X3⟩
        | ret W =>
          obtain ⟨v, rfl, rv⟩ := rf
          exact ⟨_, τ, q, rv, I₂.sub hτ, X3⟩
end
end Mine
end
section
open PySem PySem.W PyProof.Rows PySem.Calls
set_option maxRecDepth 1000000
namespace Mine
/-! ## the top, run at once by the kernel -/
noncomputable def goQ (p : Program) (w : World) (n₀ : Nat) (ann : Option Value) : Nat → SharedT → Thread → Option (SharedT × Thread × Bool)
  | 0, s, t => some (s, t, false)
  | n + 1, s, t => match through t with
    | true => some (s, t, true)
    | false => match PySem.W.Fast.tw6613529449190102663 n₀ ann t with
      | false => none
      | true => match PySem.W.Fast.tw10156331382660048174 (PySem.W.Fast.tw11892475500146522536 PySem.W.Fast.tw14364793385576792824) p w s t with
        | some (s', t') => goQ p w n₀ ann n s' t'
        | none => none
theorem goQ_spec {p : Program} {w : World} {n₀ : Nat} {ann : Option Value} : ∀ (n : Nat) (s : SharedT) (t : Thread) (s' : SharedT) (t' : Thread), goQ p w n₀ ann n s t = some (s', t', true) → topRun treeTable p w n₀ ann n s.abs t = some s'.abs
  | 0, s, t, s', t', h => by simp [goQ] at h
  | n + 1, s, t, s', t', h => by
    unfold goQ at h
    unfold topRun
    cases ht : through t with
    | true => rw [ht] at h; cases h; rfl
    | false =>
      rw [ht] at h
      rw [← PySem.W.Fast.te6613529449190102663, ← PySem.W.Fast.te10156331382660048174, ← PySem.W.Fast.te11892475500146522536, ← PySem.W.Fast.te14364793385576792824] at h
      cases hk : stepOk n₀ ann t with
      | false => rw [hk] at h; cases h
      | true =>
        rw [hk] at h
        cases hs : stepT (denote treeTable) p w s t with
        | none => rw [hs] at h; cases h
        | some r =>
          obtain ⟨s₂, t₂⟩ := r
          rw [hs] at h
          simp only
          rw [stepT_spec hs]
          exact goQ_spec n s₂ t₂ s' t' h
noncomputable def tree0 (p : Params) : BT := (((((((((((BT.nil.ins 0 (boot_o_0 p)).ins 1 (boot_o_1 p)).ins 2 (boot_o_2 p)).ins 3 (boot_o_3 p)).ins 4 (boot_o_4 p)).ins 5 (boot_o_5 p)).ins 6 (boot_o_6 p)).ins 7 (boot_o_7 p)).ins 8 (boot_o_8 p)).ins 9 (boot_o_9 p)).ins 10 (boot_o_10 p))
noncomputable def S0 (w : World) (os : OsState) : SharedT := ⟨tree0 w.params, 11, (boot_heap w.params).life, #[], boot_drawn, boot_toks, os⟩
theorem S0_abs (w : World) (os : OsState) : (S0 w os).abs = ⟨boot_heap w.params, #[], boot_drawn, boot_toks, os⟩ := by kernel_rfl
theorem leftO_of {p q : Program} {loose : List Str} {Xt : Shared → Bool} {α : Type} {Yf : Shared → α} {Ya : World → α} {N m₀ : Nat} {ann : Option Value}
    (open_ : ∀ w : World, (fencedOpening treeTable p w N).map (fun s => (s.heap, s.gens, s.drawn, s.toks)) = some (boot_heap w.params, Array.mk [], boot_drawn, boot_toks))
    (size : ∀ w : World, ((boot_heap w.params).isNs mainGlobals && (Array.mk [] : Array GenState).size == 0, (boot_heap w.params).objs.size, (boot_heap w.params).nsMap mainGlobals "__annotations__") = (true, m₀, ann))
    (run : ∀ (w : World) (os : OsState), ∃ s : Shared, topRun treeTable p w m₀ ann N ⟨boot_heap w.params, Array.mk [], boot_drawn, boot_toks, os⟩ (topStub p) = some s ∧
      (staticsOk (importedModules p.main.body) (boot_heap w.params) s.heap && namesBound p s.heap && gensDone s && laidKept (boot_heap w.params) s.heap) = true ∧ openSeen q loose (importedModules p.main.body) Xt true s = openGood q loose ∧ Yf s = Ya w) : LeftO p q loose Xt Yf Ya N := fun w => by
  obtain ⟨⟨h, gs, d, k, os⟩, e, e'⟩ := Option.map_eq_some_iff.mp (open_ w)
  obtain ⟨rfl, rfl, rfl, rfl⟩ : h = boot_heap w.params ∧ gs = Array.mk [] ∧ d = boot_drawn ∧ k = boot_toks := by simpa using e'
  obtain ⟨z1, z2, z3⟩ : _ ∧ _ ∧ _ := by simpa only [Prod.mk.injEq] using size w
  obtain ⟨s, r, l1, l2, l3⟩ := run w os
  have t : topFrom treeTable p w N ⟨boot_heap w.params, Array.mk [], boot_drawn, boot_toks, os⟩ = some s := by
    unfold topFrom
    dsimp only
    rw [z1, z2, z3, r]
    show (match staticsOk (importedModules p.main.body) (boot_heap w.params) s.heap && namesBound p s.heap && gensDone s && laidKept (boot_heap w.params) s.heap with | true => _ | false => _) = _
    rw [l1]
  unfold openEnds
  rw [e]
  show (topFrom treeTable p w N _).map _ = _
  rw [t]
  exact congrArg some (Prod.ext l2 l3)
end Mine
end
section
open PySem PySem.W PyProof.Rows PySem.Calls
set_option maxRecDepth 1000000
namespace Mine
noncomputable def fragT (s : SharedT) : Frag := [3, 257, 334, 362, 397, 460, 495, 537, 649, 698, 768, 815, 256, 333, 361, 396, 459, 494, 536, 648, 697, 767, 814, 112, 113, 119, 120, 126, 127, 133, 134, 140, 141, 147, 148, 161, 162, 168, 169, 175, 176, 184, 190, 191, 197, 198, 204, 205, 211, 212, 225, 226, 232, 233, 239, 240, 253, 254, 274, 275, 281, 282, 288, 289, 302, 303, 309, 310, 316, 317, 330, 331, 351, 352, 358, 359, 379, 380, 386, 387, 393, 394, 407, 408, 414, 415, 421, 422, 428, 429, 442, 443, 449, 450, 477, 478, 484, 485, 491, 492, 505, 506, 519, 520, 526, 527, 533, 534, 547, 548, 554, 555, 561, 562, 568, 569, 575, 576, 582, 583, 589, 590, 596, 597, 603, 604, 617, 618, 624, 625, 659, 660, 666, 667, 680, 681, 687, 688, 708, 709, 715, 716, 722, 723, 729, 730, 743, 744, 750, 751, 778, 779, 785, 786, 799, 800, 804, 805, 825, 826, 832, 833, 839, 840, 846, 847, 853, 854, 860, 861, 867, 868, 874, 875, 881, 882, 886, 887, 891, 892, 898, 899, 903, 904, 910, 911, 915, 916, 920, 921].filterMap fun a => match Nat.blt a s.n with
  | true => match s.tree.get a with
    | some o => (alive o).map fun o => (a, o)
    | none => none
  | false => none
theorem fragT_in (s : SharedT) : (fragT s).In s.abs.heap := fun a o h => by
  have hm := lookup_mem h
  unfold fragT at hm
  obtain ⟨b, _, hb⟩ := List.mem_filterMap.mp hm
  cases hn : Nat.blt b s.n with
  | false => rw [hn] at hb; cases hb
  | true =>
    rw [hn] at hb
    dsimp only at hb
    cases ho : s.tree.get b with
    | none => rw [ho] at hb; cases hb
    | some o' =>
      rw [ho] at hb
      obtain ⟨x, hx, e⟩ := Option.map_eq_some_iff.mp hb
      cases e
      exact (abs_get (Nat.le_of_ble_eq_true hn) ho).trans hx
noncomputable def flagsOf (K : Frag) (f : Nat) (d : Def) : Bool := match K.lookup f with
  | some ⟨_, _, .func fd, _⟩ => fnFlags K fd d
  | _ => false
noncomputable def factsA (K : Frag) : List (Option (List S)) := defs.map fun p => bodyOf K p.1
noncomputable def factsB (K : Frag) : Option (Option Value) × Bool × Bool × Bool × Bool :=
  (nsIn K mainGlobals (PySem.Str.ofString "law"), defs.all (fun p => flagsOf K p.1 p.2), inits.all (fun p => initOk K p.1 p.2), meths.all (fun p => methOk K p.1.1 p.1.2 p.2), flds.all (fun p => fldOk K p.1 p.2))
noncomputable def Facts (K : Frag) : Prop := factsA K = (defs.map fun p => some p.2.body) ∧ factsB K = (some (some (.ref 921)), true, true, true, true)
end Mine
end
section
open PySem PySem.W PyProof.Rows PySem.Calls
set_option maxRecDepth 1000000
namespace Mine
noncomputable abbrev PW : Program := PySem.Challenge.pw_xw0275_01
noncomputable def QV : Program := view PW [91]
noncomputable def LQ : List PySem.Str := PW.main.scope.names.map (·.1)
noncomputable def XT (s : Shared) : Bool := xlAt QV [] s && recOk (RowW.records (OpenRow.toRowW (OpenLaw.row PySem.Challenge.rw_xw0275_01))) s
noncomputable def RUN (w : World) (os : OsState) : Option (SharedT × Thread × Bool) := goQ PW w 11 (some (.ref 6)) 7200 (S0 w os) (topStub PW)
section
variable (w : World) (os : OsState)
theorem r1 : (RUN w os).map (fun x => ((PySem.W.Fast.tw10880121769531294198 x.1.abs.heap (PySem.W.Fast.tw821141287760084731 QV LQ) ((recsOf QV).map (·.name)) ((litsOf QV).map (·.1)) ((clssOf QV (looseW QV LQ)).map (·.name)), PySem.W.Fast.tw2386780881361962483 QV (looseW QV LQ) x.1.abs), (PySem.W.Fast.tw7369524293546568484 QV LQ x.1.abs, PySem.W.Fast.tw16090120013241838585 QV (drecsOf QV) x.1.abs, PySem.W.Fast.tw11698064438423848299 QV LQ x.1.abs),
    (x.2.2, (staticsOk (importedModules PW.main.body) (boot_heap w.params) x.1.abs.heap && namesBound PW x.1.abs.heap && gensDone x.1.abs && laidKept (boot_heap w.params) x.1.abs.heap), XT x.1.abs, PySem.W.Fast.tw5160383126252970620 ((recsOf QV).map (·.name)) (ownsOf QV) [] { x.1.abs with gens := #[] }),
    (PySem.W.Fast.tw479339242167458305 QV x.1.abs, PySem.W.Fast.tw14722251495701143533 x.1.abs.heap (importedModules PW.main.body), x.1.abs.heap.isNs mainGlobals, x.1.abs.heap.isNs builtinsNs, x.1.abs.gens.size == 0, PySem.W.Fast.tw10994771534591457954 QV x.1.abs.heap), PySem.W.Fast.tw7317090234206586261 QV x.1.abs, x.1.abs.heap.bltView)) =
    some ((true, plainGoodE QV (looseW QV LQ)), (clsGoodW QV LQ, pinGoodD (drecsOf QV), plainGoodD QV LQ), (true, true, true, expectedOf QV), (true, true, true, true, true, true), wideGood QV, bltViewBooted) := by kernel_rfl
theorem r7 : (RUN w os).map (fun x => factsA (fragT x.1)) = some (defs.map fun p => some p.2.body) := by kernel_rfl
theorem r8 : (RUN w os).map (fun x => factsB (fragT x.1)) = some (some (some (.ref 921)), true, true, true, true) := by kernel_rfl
end
end Mine
end
section
open PySem PySem.W PyProof.Rows PySem.Calls
set_option maxRecDepth 1000000
namespace Mine
theorem map_both {α β : Type} {o : Option α} {f : α → β} {b : β} {x : α} (e : o = some x) (h : o.map f = some b) : f x = b := by
  subst e; exact Option.some.inj h
noncomputable def YF (s : Shared) : Prop := ∃ K : Frag, K.In s.heap ∧ Facts K
theorem run_ok (w : World) (os : OsState) : ∃ s : Shared, topRun treeTable PW w 11 (some (.ref 6)) 7200 ⟨boot_heap w.params, Array.mk [], boot_drawn, boot_toks, os⟩ (topStub PW) = some s ∧
      (staticsOk (importedModules PW.main.body) (boot_heap w.params) s.heap && namesBound PW s.heap && gensDone s && laidKept (boot_heap w.params) s.heap) = true ∧ openSeen QV LQ (importedModules PW.main.body) XT true s = openGood QV LQ ∧ YF s = True := by
  obtain ⟨⟨s, t, b⟩, e, _⟩ := Option.map_eq_some_iff.mp (r1 w os)
  have h1 := map_both e (r1 w os)
  have h7 := map_both e (r7 w os)
  have h8 := map_both e (r8 w os)
  simp only [Prod.mk.injEq] at h1
  obtain ⟨⟨h1, h2⟩, ⟨a1, a2, a3⟩, ⟨rfl, b2, b3, b4⟩, ⟨c1, c2, c3, c4, c5, c6⟩, d1, d2⟩ := h1
  rw [← PySem.W.Fast.te10880121769531294198, ← PySem.W.Fast.te821141287760084731] at h1
  rw [← PySem.W.Fast.te2386780881361962483] at h2
  rw [← PySem.W.Fast.te7369524293546568484] at a1
  rw [← PySem.W.Fast.te16090120013241838585] at a2
  rw [← PySem.W.Fast.te11698064438423848299] at a3
  rw [← PySem.W.Fast.te5160383126252970620] at b4
  rw [← PySem.W.Fast.te479339242167458305] at c1
  rw [← PySem.W.Fast.te14722251495701143533] at c2
  rw [← PySem.W.Fast.te10994771534591457954] at c6
  rw [← PySem.W.Fast.te7317090234206586261] at d1
  have R := goQ_spec 7200 _ _ s t e
  rw [S0_abs] at R
  refine ⟨s.abs, R, b2, ?_, eq_true ⟨fragT s, fragT_in s, h7, h8⟩⟩
  unfold openSeen openGood
  rw [b4, d2, h1, c1, a2, h2, a3, d1, a1, c2, c3, c4, c6, b3]
  simp only [Bool.and_self, if_true, c5]
theorem boot1 : opening PW = plainProg PW.main.scope.names := by kernel_rfl
theorem boot2 (s : Shared) : fenceModules? PW s = some s := by kernel_rfl
theorem size0 (w : World) : ((boot_heap w.params).isNs mainGlobals && (Array.mk [] : Array GenState).size == 0, (boot_heap w.params).objs.size, (boot_heap w.params).nsMap mainGlobals "__annotations__") = (true, 11, some (.ref 6)) := by kernel_rfl
theorem left : LeftO PW QV LQ XT YF (fun _ => True) 7200 := leftO_of (boot_open boot1 rfl boot2) size0 run_ok
/-! ## what the facts say -/
theorem FnOk.of {K : Frag} {f : Nat} {d : Def} (h1 : bodyOf K f = some d.body) (h2 : flagsOf K f d = true) : FnOk K f d := by
  unfold bodyOf at h1
  unfold flagsOf at h2
  split at h1
  · rename_i oc od fd sl e
    rw [e] at h2
    split at h1
    · rename_i b eb
      exact ⟨_, _, _, _, b, e, eb, h1, h2⟩
    · cases h1
  · cases h1
theorem map_eq_at {α β : Type} {f g : α → β} {l : List α} (h : l.map f = l.map g) : ∀ x ∈ l, f x = g x := List.map_inj_left.mp h
theorem lookup_all {α β : Type} [BEq α] [LawfulBEq α] {R : α → β → Prop} : ∀ {l : List (α × β)}, (∀ p ∈ l, R p.1 p.2) → ∀ {a b}, l.lookup a = some b → R a b := fun h _ _ e => h _ (lookup_mem e)
section
variable {K : Frag} (h : Facts K)
include h
theorem law_addr : nsIn K mainGlobals (PySem.Str.ofString "law") = some (some (.ref 921)) := congrArg (·.1) h.2
theorem progOk : ProgOk K progP := fun f d e => by
  refine lookup_all (l := defs) (R := FnOk K) (fun p hp => ?_) e
  have hg : defs.all (fun p => flagsOf K p.1 p.2) = true := congrArg (·.2.1) h.2
  exact FnOk.of (map_eq_at h.1 p hp) (List.all_eq_true.mp hg p hp)
theorem tabOk (con : Nat → Option (List V)) : TabOk K (progT con) := by
  have hi : inits.all (fun p => initOk K p.1 p.2) = true := congrArg (·.2.2.1) h.2
  have hm : meths.all (fun p => methOk K p.1.1 p.1.2 p.2) = true := congrArg (·.2.2.2.1) h.2
  have hf : flds.all (fun p => fldOk K p.1 p.2) = true := congrArg (·.2.2.2.2) h.2
  refine ⟨fun C f h => ?_, fun C m f h => ?_, fun C f h => ?_⟩
  · exact List.all_eq_true.mp hf (C, f) (List.contains_iff_mem.mp h)
  · exact List.all_eq_true.mp hm ((C, m), f) (lookup_mem h)
  · exact List.all_eq_true.mp hi (C, f) (lookup_mem h)
end
end Mine
end
section
open PySem PySem.W PyProof.Rows PySem.Calls
open PySem.Sem (wp)
set_option maxRecDepth 100000
namespace Mine
noncomputable def conOf (a : Nat) (l : List Int) : Nat → Option (List V) := fun x => if x = a then some (l.map .int) else none
noncomputable def LawHolds : Prop := ∀ (a : Nat) (l : List Int), l.length ≤ 63 → callN (progT (conOf a l)) progP 40 921 [.ref a] (fun _ => none) fun v _ => v = .bool true
theorem reads_ints {R : WRecords} {cl : PySem.Str → Option Addr} {h : Heap} : ∀ {ns : List Int} {vs : List Value} {as : List Addr}, ReadsAllW R cl h vs (ns.map .int) as → ∀ h', RepL h' (ns.map .int) vs
  | [], vs, as, r, h' => by cases r; simp [RepL]
  | n :: ns, vs, as, r, h' => by
    rw [List.map_cons] at r ⊢
    cases r with
    | cons r1 r2 =>
      cases r1
      unfold RepL
      exact ⟨_, _, rfl, by unfold Rep; exact ⟨_, rfl⟩, reads_ints r2 h'⟩
noncomputable def RW : OpenLaw := PySem.Challenge.rw_xw0275_01
noncomputable def YP (_ : World) (h : Heap) : Prop := ∃ K : Frag, K.In h ∧ Facts K
section
open PySem.W.Fast
theorem said1 : R.filterR (tw13343964577679436407 PW PW.main.body) [{ cps := { toList := [118, 97, 114, 115] } }, { cps := { toList := [100, 105, 114] } }, { cps := { toList := [108, 111, 99, 97, 108, 115] } }] = [] := by kernel_rfl
theorem said2 : tw8377067652309620493 PW = true := by kernel_rfl
theorem said3 : (tw17119622794617984870 PW PW.main.body fun _ n => tw17868728402115742887 n) = true := by kernel_rfl
theorem said4 : tw12908688711261696721 PW = true := by
  unfold tw12908688711261696721
  rw [said1, said2, said3]
  kernel_rfl
theorem rowSaid : OpenLaw.wellSaid PySem.Challenge.rw_xw0275_01 = true := by
  rw [te9446332074065402090]
  unfold tw9446332074065402090 tw17960256430627541270 tw2436336058641802641
  rw [show tw12908688711261696721 (tw2368527892694137696 PySem.Challenge.rw_xw0275_01).prog = true from said4]
  kernel_rfl
end
theorem def_some : (defOf QV PySem.Challenge.rw_xw0275_01.name).isSome = true := by kernel_rfl
theorem def_law : (defOf QV PySem.Challenge.rw_xw0275_01.name).map (fun x => (PW.theDef PySem.Challenge.rw_xw0275_01.name, kwWritten? x.1.params.kwonlyargs x.1.params.kw_defaults)) = (defOf QV PySem.Challenge.rw_xw0275_01.name).map (fun x => (some (x.1.params, x.1.body, x.1.scope), some x.2)) := by kernel_rfl
theorem walk (PL : LawHolds) {d : DefRec} {kwd : List (PySem.Str × PySem.Expr)} (hdef : defOf QV PySem.Challenge.rw_xw0275_01.name = some (d, kwd)) : WalkG QV LQ (XL QV []) YP PySem.Challenge.rw_xw0275_01.row.toRowW d kwd := by
  intro w s₀ s₁ mg mb G Y a o pm cd doc dV kV ho hod hcd hdf hmg hgens args vals as hpre hlay hr hwell has
  obtain ⟨K, X, facts⟩ := Y
  have ea := mg_of X G.T.g (law_addr facts)
  rw [defOf_name hdef] at hmg
  have ea2 : some (Value.ref a) = some (.ref 921) := hmg.symm.trans ea
  obtain rfl : a = 921 := by cases ea2; rfl
  obtain ⟨h1, h2⟩ := pre_splitW hpre
  obtain ⟨d, r, rfl, h3, h4⟩ := hasAllW_cons (show WShape.hasAll _ args [.list .int] = true from h1)
  have := hasAllW_nil h4
  subst this
  obtain ⟨xs, rfl, h5⟩ := hasW_list h3
  obtain ⟨ns, rfl⟩ := items_int h5
  have hlen : ns.length ≤ 63 := by
    have h2' : WTm.holds [] (.and (.not (.lt (.lit (.int 63)) (.len (.arg 0)))) (.lit (.bool true))) { args := [.list (ns.map .int)] } = true := h2
    apply Classical.byContradiction
    intro hn
    clear h3 h5 h1 hod
    simp [WTm.holds, WTm.value] at h2'
    have e : less? (WData.int 63) (WData.int (ns.length : Int)) = some (decide ((63 : Int) < (ns.length : Int))) := rfl
    rw [e] at h2'
    have e2 : decide ((63 : Int) < (ns.length : Int)) = true := decide_eq_true (by omega)
    rw [e2] at h2'
    simp at h2'
  cases hr with
  | cons hr1 hr2 =>
    cases hr2
    cases hr1 with
    | list q1 q2 q3 q4 =>
      rename_i b ob vs m as
      have F : Fix K s₁.heap := by
        have R := topRead_of G.T
        exact ⟨X, R.nolimit, mb, R.b, R.builtins⟩
      have CN : ConOk s₁.heap (progT (conOf b ns)) := fun x us e => by
        have e2 : (if x = b then some (ns.map V.int) else none) = some us := e
        clear e
        by_cases hx : x = b
        · rw [if_pos hx] at e2
          have e3 := Option.some.inj e2
          subst hx; subst e3
          exact ⟨vs.toList, ⟨ob, q1, q2, m, by simpa using q3⟩, reads_ints q4⟩
        · rw [if_neg hx] at e2; cases e2
      have I : Inv s₁.heap (fun _ => none) s₁ := ⟨fun _ _ e => e, (fun _ _ e => nomatch e), fun _ ⟨_, _, e, _⟩ => nomatch e⟩
      have hA : RoomX 40 callerA := ⟨rfl, by decide +kernel, by decide +kernel⟩
      have CS := callN_sound (prog := PySem.Challenge.rw_xw0275_01.row.toRowW.prog) (w := w) F (tabOk facts (conOf b ns)) CN (progOk facts) 40 callerA hA 921 [.ref b] [.ref b] (fun _ => none) s₁ (fun v _ => v = .bool true) I (by unfold RepL; exact ⟨_, [], rfl, by unfold Rep; rfl, by unfold RepL; rfl⟩) (PL b ns hlen)
      refine wpG_mono (wpG_call CS) fun v s' p => ?_
      obtain ⟨W, σ', rfl, rv, I', X'⟩ := p
      unfold Rep at rv; subst rv
      have hkeep : ∀ b o, s₁.heap.get? b = some o → s'.heap.get? b = some o := fun b o e => X'.keep b o e fun ⟨_, _, e, _⟩ => nomatch e
      refine GoodW.toG ⟨.inl ⟨_, .bool true, [], rfl, fun cls => rfl, .bool true, ?_, unshared_nil⟩, hkeep, X'.os, X'.gens.trans hgens⟩
      refine postW_of (r := PySem.Challenge.rw_xw0275_01.row.toRowW) (X := true) (by simp [OpenLaw.row, WShape.has, WShape.arms]) ?_ rfl
      show WTm.value [] (.eq .res (.lit (.bool true))) _ = _
      simp only [WTm.value]
      rw [same_self]

theorem join (PL : LawHolds) : PySem.Challenge.rw_xw0275_01.Holds := by
  refine holds_law rowSaid fun k1 => ?_
  obtain ⟨⟨d, kwd⟩, hdef⟩ := Option.isSome_iff_exists.mp def_some
  have h := def_law
  rw [hdef] at h
  simp only [Option.map_some, Option.some.injEq, Prod.mk.injEq] at h
  exact holds_openG (r := PySem.Challenge.rw_xw0275_01.row) (q := QV) (loose := LQ) (XP := XL QV []) (YP := YP) left (fun w s e => of_eq_true e) (fun w h h' ⟨K, X, f⟩ k => ⟨K, X.keeps k, f⟩)
    (fun s e => xl_of s (Bool.and_eq_true_iff.mp e).1) XL.keeps hdef h.1 h.2 (fun s e => recFacts_of (Bool.and_eq_true_iff.mp e).2) (by rfl) k1 (by kernel_rfl) ⟨rfl, rfl, rfl, rfl, rfl, by decide +kernel⟩ (by w_witness2) (walk PL hdef)
end Mine
end
section
set_option tactic.hygienic false
set_option backward.match.sparseCases false
set_option maxRecDepth 10000
set_option linter.all false
namespace Mine
/-! ## one word of a text at a time -/
section
variable {T : Tab} {C : Calls} {ρ : Rho} {σ : Hp} {Q : K1} {P : List V → Hp → Prop} {B : Bool → Hp → Prop} {R : K2} {e l r i : E} {es e2 : List E} {x m f c : Nat} {xs : List Nat} {op : BOp} {co : COp} {t : Bool} {a b ss : List S} {s : S}
theorem u_int {k : Int} (h : Q (.int k) σ) : wpE T C (.int k) ρ σ Q := h
theorem u_none (h : Q .none σ) : wpE T C .none ρ σ Q := h
theorem u_var (h : ∃ v, ρ.get x = some v ∧ Q v σ) : wpE T C (.var x) ρ σ Q := h
theorem u_bin (h : wpE T C l ρ σ fun a σ => wpE T C r ρ σ fun b σ => binP op a b σ Q) : wpE T C (.bin op l r) ρ σ Q := h
theorem u_attr (h : wpE T C e ρ σ fun a σ => attrP T a f σ fun v => Q v σ) : wpE T C (.attr e f) ρ σ Q := h
theorem u_idx (h : wpE T C e ρ σ fun a σ => wpE T C i ρ σ fun b σ => idxP a b σ fun v => Q v σ) : wpE T C (.idx e i) ρ σ Q := h
theorem u_slc (h : wpE T C e ρ σ fun a σ => wpE T C l ρ σ fun l σ => wpE T C r ρ σ fun h σ => slcP T a l h σ Q) : wpE T C (.slc e l r) ρ σ Q := h
theorem u_list (h : wpL T C es ρ σ fun vs σ => vs.length ≤ lim ∧ ∀ r, σ r = Option.none → Q (.ref r) (upd σ r (.lst vs))) : wpE T C (.list es) ρ σ Q := h
theorem u_tup (h : wpL T C es ρ σ fun vs σ => vs.length ≤ lim ∧ Q (.tup vs) σ) : wpE T C (.tup es) ρ σ Q := h
theorem u_call (h : wpL T C es ρ σ fun vs σ => C f vs σ Q) : wpE T C (.call f es) ρ σ Q := h
theorem u_new (h : wpL T C es ρ σ fun vs σ => newP T C c vs σ Q) : wpE T C (.new c es) ρ σ Q := h
theorem u_meth (h : wpE T C e ρ σ fun a σ₁ => ∃ k, methK T m σ₁ a = some k ∧ wpL T C es ρ σ₁ fun vs σ₂ => methK T m σ₂ a = some k ∧ methP T C a m vs σ₂ Q) : wpE T C (.meth e m es) ρ σ Q := h
theorem u_bi {b : Bi} (h : wpL T C es ρ σ fun vs σ => biP b vs σ Q) : wpE T C (.bi b es) ρ σ Q := h
theorem u_comp (h : wpE T C i ρ σ fun s σ => ∃ all, itemsOf σ s = some all ∧ all.length ≤ lim ∧
      compLoop s all (fun v σ Q => wpA T C es (ρ.set x (some v)) σ Q) (fun v σ Q => wpE T C e (ρ.set x (some v)) σ Q) all [] σ
        fun vs σ => ∀ r, σ r = Option.none → Q (.ref r) (upd σ r (.lst vs))) : wpE T C (.comp e x i es) ρ σ Q := h
theorem ul_nil (h : P [] σ) : wpL T C [] ρ σ P := h
theorem ul_cons (h : wpE T C e ρ σ fun v σ => wpL T C es ρ σ fun vs σ => P (v :: vs) σ) : wpL T C (e :: es) ρ σ P := h
theorem ua_cons (h : wpB T C e ρ σ fun b σ => if b = true then wpA T C es ρ σ B else B false σ) : wpA T C (e :: es) ρ σ B := h
theorem ub_not (h : wpB T C e ρ σ fun b σ => B (!b) σ) : wpB T C (.not e) ρ σ B := h
theorem ub_bop (h : wpBs T C t es ρ σ B) : wpB T C (.bop t es) ρ σ B := h
theorem ub_cmp (h : wpE T C l ρ σ fun a σ => wpE T C r ρ σ fun b σ => cmpP co a b σ fun t => B t σ) : wpB T C (.cmp co l r) ρ σ B := h
theorem ub_call (h : wpL T C es ρ σ fun vs σ => C f vs σ fun v σ => truthP v σ fun t => B t σ) : wpB T C (.call f es) ρ σ B := h
theorem uc_cons (h : wpB T C e ρ σ fun b σ => if b = t then wpBs T C t es ρ σ B else B b σ) : wpBs T C t (e :: es) ρ σ B := h
theorem us_asg (h : wpE T C e ρ σ fun v σ => R .next (ρ.set x (some v)) σ) : wpS T C (.asg x e) ρ σ R := h
theorem us_asgI (h : wpE T C e ρ σ fun v σ => wpE T C l ρ σ fun a σ => wpE T C i ρ σ fun j σ => match a, j with
      | .ref x, .int k => (match σ x with
        | some (.lst vs) => vs.length ≤ lim ∧ 0 ≤ k ∧ k.toNat < vs.length ∧ R .next ρ (upd σ x (.lst (vs.set k.toNat v)))
        | _ => False)
      | _, _ => False) : wpS T C (.asgI l i e) ρ σ R := h
theorem us_ex (h : wpE T C e ρ σ fun _ σ => R .next ρ σ) : wpS T C (.ex e) ρ σ R := h
theorem us_for1 (h : wpE T C i ρ σ fun s σ => ∃ all, itemsOf σ s = some all ∧ all.length ≤ lim ∧
      forLoop s all (fun v ρ σ Q => wpSs T C b (ρ.set x (some v)) σ Q) all ρ σ R) : wpS T C (.for1 x i b) ρ σ R := h
theorem us_ret (h : wpE T C e ρ σ fun v σ => R (.ret v) ρ σ) : wpS T C (.ret e) ρ σ R := h
theorem uss_nil (h : R .next ρ σ) : wpSs T C [] ρ σ R := h
end
/-! ## what the words say of known values -/
section
variable {op : BOp} {T : Tab} {C : Calls} {i j : Int} {σ : Hp} {Q : K1} {QB : Bool → Prop} {QV : V → Prop} {x y : Nat} {xs ys : List V} {bs cs : List Nat} {m : Nat} {vs : List V}
theorem L2 : binP op (.tup xs) (.tup ys) σ Q = (op = .add ∧ xs.length + ys.length ≤ lim ∧ Q (.tup (xs ++ ys)) σ) := rfl
theorem L3 : binP op (.tup xs) (.int i) σ Q = (op = .mul ∧ xs ≠ [] ∧ 2 ≤ i ∧ i ≤ 1000 ∧ xs.length * i.toNat ≤ lim ∧ Q (.tup (repL i.toNat xs)) σ) := rfl
theorem L4 : binP op (.bytes bs) (.int i) σ Q = (op = .mul ∧ bs ≠ [] ∧ 0 ≤ i ∧ i ≤ 1000 ∧ bs.length * i.toNat ≤ lim ∧ Q (.bytes (repL i.toNat bs)) σ) := rfl
theorem L5 : binP op (.ref x) (.int i) σ Q = (match σ x with
    | some (.lst xs) => op = .mul ∧ 0 ≤ i ∧ i ≤ 1000 ∧ xs.length * i.toNat ≤ lim ∧ ∀ r, σ r = none → Q (.ref r) (upd σ r (.lst (repL i.toNat xs)))
    | _ => False) := rfl
theorem L6 : binP op (.ref x) (.ref y) σ Q = (match σ x, σ y with
    | some (.lst xs), some (.lst ys) => op = .add ∧ xs.length + ys.length ≤ lim ∧ ∀ r, σ r = none → Q (.ref r) (upd σ r (.lst (xs ++ ys)))
    | _, _ => False) := rfl
theorem L8 : eqP (.ref x) (.ref y) σ QB = (match σ x, σ y with
    | some (.lst xs), some (.lst ys) => xs = ys ∧ xs.all (pureV 8) = true ∧ QB true
    | _, _ => False) := rfl
theorem L11 {b : Bool} : truthP (.bool b) σ QB = QB b := rfl
theorem L12 : truthP (.ref x) σ QB = (match σ x with
    | some (.lst xs) => xs.length ≤ lim ∧ QB (!xs.isEmpty)
    | _ => False) := rfl
theorem L13 : idxP (.tup xs) (.int i) σ QV = (0 ≤ i ∧ xs.length ≤ lim ∧ ∃ v, xs[i.toNat]? = some v ∧ QV v) := rfl
theorem L15 : idxP (.ref x) (.int i) σ QV = (match σ x with
    | some (.lst vs) => vs.length ≤ lim ∧ ((0 ≤ i ∧ ∃ v, vs[i.toNat]? = some v ∧ QV v) ∨ (i = -1 ∧ ∃ v, vs.getLast? = some v ∧ QV v))
    | _ => False) := rfl
theorem L16 {lo hi : V} : slcP T (.bytes bs) lo hi σ Q = (bs.length ≤ lim ∧ ∃ l h, bnd 0 lo = some l ∧ bnd bs.length hi = some h ∧ Q (.bytes ((bs.take h).drop l)) σ) := rfl
theorem L17 {lo hi : V} : slcP T (.ref x) lo hi σ Q = (match σ x with
    | some (.lst vs) => vs.length ≤ lim ∧ ∃ l h, bnd 0 lo = some l ∧ bnd vs.length hi = some h ∧ ∀ r, σ r = none → Q (.ref r) (upd σ r (.lst ((vs.take h).drop l)))
    | none => (match T.con x with
      | some vs => vs.length ≤ lim ∧ ∃ l h, bnd 0 lo = some l ∧ bnd vs.length hi = some h ∧ ∀ r, σ r = none → Q (.ref r) (upd σ r (.lst ((vs.take h).drop l)))
      | none => False)
    | _ => False) := rfl
theorem L18 : biP .len [.bytes bs] σ Q = (bs.length ≤ lim ∧ Q (.int bs.length) σ) := rfl
theorem L19 : biP .len [.tup xs] σ Q = (xs.length ≤ lim ∧ Q (.int xs.length) σ) := rfl
theorem L20 : biP .len [.ref x] σ Q = (match σ x with
    | some (.lst xs) => xs.length ≤ lim ∧ Q (.int xs.length) σ
    | _ => False) := rfl
theorem L21 : biP .bytes [.int i] σ Q = (0 ≤ i ∧ i ≤ 1000 ∧ Q (.bytes (List.replicate i.toNat 0)) σ) := rfl
theorem L23 : biP .bytes [.ref x] σ Q = (match σ x with
    | some (.lst xs) => xs.length ≤ lim ∧ ∃ l b, allInts xs = some l ∧ bytesOfInts l = some b ∧ Q (.bytes b) σ
    | some (.barr b) => b.length ≤ lim ∧ Q (.bytes b) σ
    | _ => False) := rfl
theorem L25 : biP .range [.int i] σ Q = (i.natAbs < 2 ^ 60 ∧ Q (.range 0 i) σ) := rfl
theorem L26 : biP .range [.int i, .int j] σ Q = (i.natAbs < 2 ^ 60 ∧ j.natAbs < 2 ^ 60 ∧ Q (.range i j) σ) := rfl
theorem L27 : biP .list [.bytes bs] σ Q = (bs.length ≤ lim ∧ ∀ r, σ r = none → Q (.ref r) (upd σ r (.lst (bs.map fun (n : Nat) => V.int (n : Int))))) := rfl
theorem L28 : biP .tuple [.ref x] σ Q = (match σ x with
    | some (.lst xs) => xs.length ≤ lim ∧ Q (.tup xs) σ
    | _ => False) := rfl
theorem L29 : biP .sorted [.ref x] σ Q = (match σ x with
    | some (.lst xs) => xs.length < 64 ∧ ∃ l, allInts xs = some l ∧ ∀ r, σ r = none → Q (.ref r) (upd σ r (.lst ((sortI l).map .int)))
    | _ => False) := rfl
theorem L30 : biP .min [.int i, .int j] σ Q = Q (.int (min i j)) σ := rfl
theorem L31 : methK T m σ (.ref x) = (match σ x with
    | some (.inst c fs) => if (getF m fs).isNone then (T.meth c m).map (· + 3) else none
    | some (.lst _) => if m = 50 then some 0 else none
    | some (.barr _) => if m = 50 then some 1 else if m = 51 then some 2 else none
    | none => none) := rfl
theorem L32 : methP T C (.ref x) m vs σ Q = (match σ x with
    | some (.inst c fs) => (match T.meth c m with
      | some f => (getF m fs).isNone = true ∧ C f (.ref x :: vs) σ Q
      | none => False)
    | some (.lst xs) => (match vs with
      | [v] => m = 50 ∧ xs.length < lim ∧ Q .none (upd σ x (.lst (xs ++ [v])))
      | _ => False)
    | some (.barr b) => (match vs with
      | [.int n] => m = 50 ∧ 0 ≤ n ∧ n < 256 ∧ b.length < lim ∧ Q .none (upd σ x (.barr (b ++ [n.toNat])))
      | [.bytes c] => m = 51 ∧ b.length + c.length ≤ lim ∧ Q .none (upd σ x (.barr (b ++ c)))
      | _ => False)
    | none => False) := rfl
theorem L33 {f : Nat} : attrP T (.ref x) f σ QV = (match σ x with
    | some (.inst c fs) => T.fld c f = true ∧ ∃ v, getF f fs = some v ∧ QV v
    | _ => False) := rfl
theorem L34 : cmpP .eq (.int i) (.int j) σ QB = QB (decide (i = j)) := rfl
theorem L35 : cmpP .ne (.int i) (.int j) σ QB = QB (!decide (i = j)) := rfl
theorem L41 {a b : V} : cmpP .isnt a b σ QB = (b = .none ∧ QB (!a.isNil)) := rfl
theorem L43 : cmpP .ne (.ref x) (.ref y) σ QB = eqP (.ref x) (.ref y) σ fun t => QB (!t) := rfl
theorem L48 : cmpP .notin (.int i) (.ref y) σ QB = (match σ y with
      | some (.lst ys) => match allInts ys with
        | some l => QB (!l.contains i)
        | none => False
      | _ => False) := rfl
end
section
variable {con : Nat → Option (List V)}
theorem M_257_41 : (progT con).meth 257 41 = some 198 := rfl
theorem M_257_42 : (progT con).meth 257 42 = some 205 := rfl
theorem M_257_43 : (progT con).meth 257 43 = some 212 := rfl
theorem M_257_44 : (progT con).meth 257 44 = some 226 := rfl
theorem M_257_45 : (progT con).meth 257 45 = some 233 := rfl
theorem M_257_46 : (progT con).meth 257 46 = some 240 := rfl
theorem M_257_47 : (progT con).meth 257 47 = some 254 := rfl
theorem M_334_42 : (progT con).meth 334 42 = some 282 := rfl
theorem M_334_43 : (progT con).meth 334 43 = some 289 := rfl
theorem M_334_44 : (progT con).meth 334 44 = some 303 := rfl
theorem M_334_45 : (progT con).meth 334 45 = some 310 := rfl
theorem M_334_46 : (progT con).meth 334 46 = some 317 := rfl
theorem M_334_47 : (progT con).meth 334 47 = some 331 := rfl
theorem M_362_48 : (progT con).meth 362 48 = some 359 := rfl
theorem M_397_48 : (progT con).meth 397 48 = some 387 := rfl
theorem M_397_49 : (progT con).meth 397 49 = some 394 := rfl
theorem M_460_48 : (progT con).meth 460 48 = some 450 := rfl
theorem M_495_48 : (progT con).meth 495 48 = some 485 := rfl
theorem M_495_49 : (progT con).meth 495 49 = some 492 := rfl
theorem M_537_48 : (progT con).meth 537 48 = some 527 := rfl
theorem M_537_49 : (progT con).meth 537 49 = some 534 := rfl
theorem M_649_48 : (progT con).meth 649 48 = some 625 := rfl
theorem M_698_48 : (progT con).meth 698 48 = some 688 := rfl
theorem M_768_48 : (progT con).meth 768 48 = some 751 := rfl
theorem M_815_48 : (progT con).meth 815 48 = some 805 := rfl
theorem F_257_0 : (progT con).fld 257 0 = true := rfl
theorem F_257_1 : (progT con).fld 257 1 = true := rfl
theorem F_334_2 : (progT con).fld 334 2 = true := rfl
theorem F_397_7 : (progT con).fld 397 7 = true := rfl
theorem F_397_8 : (progT con).fld 397 8 = true := rfl
theorem F_397_9 : (progT con).fld 397 9 = true := rfl
theorem F_397_10 : (progT con).fld 397 10 = true := rfl
theorem F_397_11 : (progT con).fld 397 11 = true := rfl
theorem F_397_12 : (progT con).fld 397 12 = true := rfl
theorem F_397_13 : (progT con).fld 397 13 = true := rfl
theorem F_397_14 : (progT con).fld 397 14 = true := rfl
theorem F_495_19 : (progT con).fld 495 19 = true := rfl
theorem F_698_26 : (progT con).fld 698 26 = true := rfl
theorem F_698_27 : (progT con).fld 698 27 = true := rfl
theorem F_698_28 : (progT con).fld 698 28 = true := rfl
theorem F_698_29 : (progT con).fld 698 29 = true := rfl
theorem F_698_30 : (progT con).fld 698 30 = true := rfl
theorem F_815_21 : (progT con).fld 815 21 = true := rfl
theorem F_815_32 : (progT con).fld 815 32 = true := rfl
theorem F_815_33 : (progT con).fld 815 33 = true := rfl
theorem F_815_18 : (progT con).fld 815 18 = true := rfl
theorem F_815_34 : (progT con).fld 815 34 = true := rfl
theorem F_815_17 : (progT con).fld 815 17 = true := rfl
theorem F_815_35 : (progT con).fld 815 35 = true := rfl
theorem F_815_36 : (progT con).fld 815 36 = true := rfl
theorem F_815_37 : (progT con).fld 815 37 = true := rfl
theorem F_815_38 : (progT con).fld 815 38 = true := rfl
theorem F_815_39 : (progT con).fld 815 39 = true := rfl
theorem F_815_40 : (progT con).fld 815 40 = true := rfl
end
/-! ## heaps -/
theorem Sub.refl (σ : Hp) : Sub σ σ := fun _ _ h => h
theorem Sub.trans {a b c : Hp} (x : Sub a b) (y : Sub b c) : Sub a c := fun _ _ h => y _ _ (x _ _ h)
theorem Sub.free {σ τ : Hp} (x : Sub σ τ) {r : Nat} (h : τ r = none) : σ r = none := by
  induction e : σ r using Option.casesOn with
  | none => rfl
  | some o => rw [x _ _ e] at h; cases h
/-- a thing that the smaller heap does not know is laid, is changed -/
theorem Sub.put {σ τ : Hp} (x : Sub σ τ) {r : Nat} {o : AObj} (h : σ r = none) : Sub σ (upd τ r o) := fun a o' e => by
  unfold upd
  by_cases q : a = r
  · subst q; rw [h] at e; cases e
  · rw [if_neg q]; exact x _ _ e
/-- a thing that both know -/
theorem Sub.both {σ τ : Hp} (x : Sub σ τ) {r : Nat} {o : AObj} (h : τ r = some o) : Sub (upd σ r o) τ := fun a o' e => by
  unfold upd at e
  by_cases q : a = r
  · subst q; rw [if_pos rfl] at e; cases e; exact h
  · rw [if_neg q] at e; exact x _ _ e
theorem upd_at (σ : Hp) (a : Nat) (o : AObj) : upd σ a o a = some o := by simp [upd]
theorem upd_ne (σ : Hp) {a b : Nat} (o : AObj) (h : b ≠ a) : upd σ a o b = σ b := by simp [upd, h]
theorem upd_upd (σ : Hp) (a : Nat) (o o' : AObj) : upd (upd σ a o) a o' = upd σ a o' := by
  funext b; unfold upd; split <;> rfl
theorem upd_same {σ : Hp} {a : Nat} {o : AObj} (h : σ a = some o) : upd σ a o = σ := by
  funext b; unfold upd; split
  · rename_i e; rw [e, h]
  · rfl
theorem ne_of_free {σ : Hp} {a r : Nat} {o : AObj} (h : σ a = some o) (hr : σ r = none) : a ≠ r := fun e => by subst e; rw [h] at hr; cases hr
theorem ne_of_obj {σ : Hp} {a b : Nat} {o o' : AObj} (h : σ a = some o) (h' : σ b = some o') (hne : o ≠ o') : a ≠ b := fun e => by subst e; rw [h] at h'; cases h'; exact hne rfl

theorem call_intro {T : Tab} {P : Nat → Option Def} {n f : Nat} {Ws : List V} {σ : Hp} {Q : K1} {d : Def} (hd : P f = some d) (h1 : Ws.length ≤ d.args) (h2 : d.args ≤ Ws.length + d.dfl.length)
    (h : wpSs T (callN T P n) d.body ((d.fill Ws).map some ++ List.replicate (d.size - d.args) none) σ fun fl _ σ' => ∃ τ, Sub τ σ' ∧ Q (match fl with | .ret v => v | .next => .none) τ) : callN T P (n + 1) f Ws σ Q := by
  show (match P f with
    | some d => Ws.length ≤ d.args ∧ d.args ≤ Ws.length + d.dfl.length ∧ wpSs T (callN T P n) d.body ((d.fill Ws).map some ++ List.replicate (d.size - d.args) none) σ fun fl _ σ' =>
        ∃ τ, Sub τ σ' ∧ Q (match fl with | .ret v => v | .next => .none) τ
    | none => False)
  rw [hd]
  exact ⟨h1, h2, h⟩

theorem while_turn {test : Rho → Hp → (Bool → Hp → Prop) → Prop} {body : Rho → Hp → K2 → Prop} {m : Nat} {ρ : Rho} {σ : Hp} {Q : K2}
    (h : ∀ R : Rho → Hp → Prop, (∀ ρ τ, R ρ τ = whileLoop test body m ρ τ Q) → test ρ σ fun b σ => if b = true then body ρ σ (fun f ρ σ => match f with
      | .next => ∃ τ, Sub τ σ ∧ R ρ τ
      | .ret r => Q (.ret r) ρ σ) else Q .next ρ σ) : whileLoop test body (m + 1) ρ σ Q := by
  exact h (fun ρ τ => whileLoop test body m ρ τ Q) fun _ _ => rfl
theorem for_turn {src : V} {all : List V} {turn : V → Rho → Hp → K2 → Prop} {v : V} {vs : List V} {ρ : Rho} {σ : Hp} {Q : K2} (hi : itemsOf σ src = some all)
    (h : ∀ R : Rho → Hp → Prop, (∀ ρ τ, R ρ τ = forLoop src all turn vs ρ τ Q) → turn v ρ σ fun f ρ σ => match f with
      | .next => ∃ τ, Sub τ σ ∧ R ρ τ
      | .ret r => Q (.ret r) ρ σ) : forLoop src all turn (v :: vs) ρ σ Q := by
  exact ⟨hi, h (fun ρ τ => forLoop src all turn vs ρ τ Q) fun _ _ => rfl⟩
theorem for_end {src : V} {all : List V} {turn : V → Rho → Hp → K2 → Prop} {ρ : Rho} {σ : Hp} {Q : K2} (hi : itemsOf σ src = some all) (h : Q .next ρ σ) : forLoop src all turn [] ρ σ Q := by
  exact ⟨hi, h⟩

theorem seq_step {T : Tab} {C : Calls} {x : S} {ss : List S} {ρ : Rho} {σ : Hp} {Q : K2}
    (h : ∀ R : Rho → Hp → Prop, (∀ ρ σ, R ρ σ = wpSs T C ss ρ σ Q) → wpS T C x ρ σ fun f ρ σ => match f with
      | .next => R ρ σ
      | .ret r => Q (.ret r) ρ σ) : wpSs T C (x :: ss) ρ σ Q := by
  exact h (fun ρ σ => wpSs T C ss ρ σ Q) fun _ _ => rfl

theorem wpSs_append {T : Tab} {C : Calls} {ss : List S} {Q : K2} : ∀ (a : List S) (ρ : Rho) (σ : Hp), wpSs T C a ρ σ (fun f ρ σ => match f with
      | .next => wpSs T C ss ρ σ Q
      | .ret r => Q (.ret r) ρ σ) = wpSs T C (a ++ ss) ρ σ Q := by
  intro a
  induction a with
  | nil =>
    exact fun ρ σ => rfl
  | cons x a ih =>
    intro ρ σ
    show wpS T C x ρ σ _ = wpS T C x ρ σ _
    refine congrArg (wpS T C x ρ σ) (funext fun f => funext fun ρ' => funext fun σ' => ?_)
    induction f using Mine.Fl.casesOn with
    | next => exact ih ρ' σ'
    | ret r => rfl
/-- a choice whose test is known -/
theorem ite_step {T : Tab} {C : Calls} {c : E} {a b ss : List S} {ρ : Rho} {σ : Hp} {Q : K2} (t : Bool) (hc : ∀ Q : Bool → Hp → Prop, Q t σ → wpB T C c ρ σ Q) (h : wpSs T C ((if t = true then a else b) ++ ss) ρ σ Q) : wpSs T C (.ite c a b :: ss) ρ σ Q := by
  rw [← wpSs_append] at h
  refine hc _ ?_
  induction t using Bool.casesOn <;> exact h
theorem tr_step {T : Tab} {C : Calls} {a ss : List S} {ρ : Rho} {σ : Hp} {Q : K2} (h : wpSs T C (a ++ ss) ρ σ Q) : wpSs T C (.tr a :: ss) ρ σ Q := by
  rw [← wpSs_append] at h
  exact h

/-! ## octets -/
/-- the varint of a number -/
noncomputable def vb (n : Nat) : List Nat := if h : n < 128 then [n] else (n % 128 + 128) :: vb (n / 128)
  termination_by n
  decreasing_by lia
theorem vb_small {n : Nat} (h : n < 128) : vb n = [n] := by rw [vb, dif_pos h]
theorem vb_big {n : Nat} (h : ¬ n < 128) : vb n = (n % 128 + 128) :: vb (n / 128) := by rw [vb, dif_neg h]
theorem vb_len : ∀ (k n : Nat), n < 128 ^ (k + 1) → (vb n).length ≤ k + 1
  | 0, n, h => by rw [vb_small (by simpa using h)]; exact Nat.le_refl 1
  | k + 1, n, h => by
    by_cases hn : n < 128
    · rw [vb_small hn]; simp
    · rw [vb_big hn]
      have := vb_len k (n / 128) (by rw [Nat.div_lt_iff_lt_mul (by decide)]; rw [Nat.pow_succ] at h; exact h)
      simp; lia
theorem vb_pos (n : Nat) : 1 ≤ (vb n).length := by
  by_cases hn : n < 128
  · rw [vb_small hn]; simp
  · rw [vb_big hn]; simp
theorem vb_len10 {n : Nat} (h : n < 2 ^ 64) : (vb n).length ≤ 10 := vb_len 9 n (Nat.lt_of_lt_of_le h (by decide))
theorem vb_len5 {n : Nat} (h : n < 2 ^ 32) : (vb n).length ≤ 5 := vb_len 4 n (Nat.lt_of_lt_of_le h (by decide))

variable {con : Nat → Option (List V)} {C : Calls} {σ : Hp} {Q : K1}
theorem and127 (n : Nat) : n &&& 127 = n % 128 := Nat.and_two_pow_sub_one_eq_mod n 7
theorem or128 {n : Nat} (h : n < 128) : n ||| 128 = n + 128 := by
  have := Nat.two_pow_add_eq_or_of_lt (i := 7) (b := n) h 1
  rw [Nat.or_comm]; simp at this; lia
end Mine
end
section
set_option tactic.hygienic false
set_option backward.match.sparseCases false
set_option maxRecDepth 10000
set_option linter.all false
namespace Mine
/-! ## tests of naturals -/
theorem i_lt {a b : Nat} (h : a < b) : decide ((a : Int) < (b : Int)) = true := decide_eq_true (Int.ofNat_lt.mpr h)
theorem i_nlt {a b : Nat} (h : b ≤ a) : decide ((a : Int) < (b : Int)) = false := decide_eq_false (Int.not_lt.mpr (Int.ofNat_le.mpr h))
theorem i_ngt {a b : Nat} (h : a ≤ b) : decide ((a : Int) > (b : Int)) = false := i_nlt h
theorem i_ge {a b : Nat} (h : b ≤ a) : decide ((a : Int) ≥ (b : Int)) = true := decide_eq_true (Int.ofNat_le.mpr h)
theorem i_nge {a b : Nat} (h : a < b) : decide ((a : Int) ≥ (b : Int)) = false := decide_eq_false (Int.not_le.mpr (Int.ofNat_lt.mpr h))
theorem i_pos (a : Nat) : decide ((a : Int) ≥ 0) = true := decide_eq_true (Int.natCast_nonneg a)
theorem i_neg (a : Nat) : decide ((a : Int) < 0) = false := decide_eq_false (Int.not_lt.mpr (Int.natCast_nonneg a))
/-! ## small words: what an expression comes to -/
section
variable {con : Nat → Option (List V)} {C : Calls} {σ : Hp} {ρ : Rho} {ss : List S}
noncomputable def EV (con : Nat → Option (List V)) (C : Calls) (e : E) (ρ : Rho) (σ : Hp) (v : V) : Prop := ∀ Q : K1, Q v σ → wpE (progT con) C e ρ σ Q
noncomputable def TB (con : Nat → Option (List V)) (C : Calls) (e : E) (ρ : Rho) (σ : Hp) (b : Bool) : Prop := ∀ Q : Bool → Hp → Prop, Q b σ → wpB (progT con) C e ρ σ Q
theorem EV.var {x : Nat} {v : V} (h : ρ.get x = some v) : EV con C (.var x) ρ σ v := fun Q hq => ⟨v, h, hq⟩
theorem EV.int {i : Int} : EV con C (.int i) ρ σ (.int i) := fun Q hq => hq
theorem EV.nat {i : Nat} : EV con C (.int i) ρ σ (.int i) := fun Q hq => hq
theorem EV.bytes {i : List Nat} : EV con C (.bytes i) ρ σ (.bytes i) := fun Q hq => hq
theorem EV.none : EV con C .none ρ σ .none := fun Q hq => hq
theorem EV.bool {b : Bool} : EV con C (.bool b) ρ σ (.bool b) := fun Q hq => hq
theorem EV.attr {e : E} {r f cl : Nat} {fs : List (Nat × V)} {v : V} (he : EV con C e ρ σ (.ref r)) (hr : σ r = some (.inst cl fs)) (hf : (progT con).fld cl f = true) (hg : getF f fs = some v) : EV con C (.attr e f) ρ σ v := fun Q hq => by
  refine he _ ?_
  rw [L33, hr]
  exact ⟨hf, v, hg, hq⟩
/-- an attribute of a name's object -/
theorem ev {x r f cl : Nat} {fs : List (Nat × V)} {v : V} (hx : ρ.get x = some (.ref r)) (hr : σ r = some (.inst cl fs)) (hf : (progT con).fld cl f = true) (hg : getF f fs = some v) : EV con C (.attr (.var x) f) ρ σ v := (EV.var hx).attr hr hf hg
theorem EV.lenB {e : E} {b : List Nat} (he : EV con C e ρ σ (.bytes b)) (hl : b.length ≤ lim) : EV con C (.bi .len [e]) ρ σ (.int b.length) := fun Q hq => he _ ⟨hl, hq⟩
theorem EV.lenL {e : E} {r : Nat} {vs : List V} (he : EV con C e ρ σ (.ref r)) (hr : σ r = some (.lst vs)) (hl : vs.length ≤ lim) : EV con C (.bi .len [e]) ρ σ (.int vs.length) := fun Q hq => he _ (by
  show biP .len [.ref r] σ Q
  rw [L20, hr]
  exact ⟨hl, hq⟩)
theorem EV.idxB {e i : E} {b : List Nat} {k x : Nat} (he : EV con C e ρ σ (.bytes b)) (hi : EV con C i ρ σ (.int k)) (hl : b.length ≤ lim) (hx : b[k]? = some x) : EV con C (.idx e i) ρ σ (.int x) := fun Q hq => he _ (hi _ ⟨Int.natCast_nonneg k, hl, x, by rw [Int.toNat_natCast]; exact hx, hq⟩)
theorem EV.tup2 {a b : E} {u v : V} (h : EV con C a ρ σ u) (h' : EV con C b ρ σ v) : EV con C (.tup [a, b]) ρ σ (.tup [u, v]) := fun Q hq => h _ (h' _ ⟨Nat.le_of_ble_eq_true rfl, hq⟩)
section
variable {a b : E} {i j : Int} (h : EV con C a ρ σ (.int i)) (h' : EV con C b ρ σ (.int j))
include h h'
theorem EV.add : EV con C (.bin .add a b) ρ σ (.int (i + j)) := fun Q hq => h _ (h' _ hq)
theorem EV.sub : EV con C (.bin .sub a b) ρ σ (.int (i - j)) := fun Q hq => h _ (h' _ hq)
theorem EV.shl (h0 : 0 ≤ j) (h1 : j ≤ 1000) (h2 : i.natAbs < 2 ^ 64) : EV con C (.bin .shl a b) ρ σ (.int (i * 2 ^ j.toNat)) := fun Q hq => h _ (h' _ ⟨h0, h1, h2, hq⟩)
theorem EV.shr (h0 : 0 ≤ j) : EV con C (.bin .shr a b) ρ σ (.int (i / 2 ^ j.toNat)) := fun Q hq => h _ (h' _ ⟨h0, hq⟩)
theorem EV.and (h0 : 0 ≤ i) (h1 : 0 ≤ j) : EV con C (.bin .and a b) ρ σ (.int (Int.ofNat (i.toNat &&& j.toNat))) := fun Q hq => h _ (h' _ ⟨h0, h1, hq⟩)
theorem EV.or (h0 : 0 ≤ i) (h1 : 0 ≤ j) : EV con C (.bin .or a b) ρ σ (.int (Int.ofNat (i.toNat ||| j.toNat))) := fun Q hq => h _ (h' _ ⟨h0, h1, hq⟩)
theorem TB.lt {t : Bool} (ht : decide (i < j) = t) : TB con C (.cmp .lt a b) ρ σ t := fun Q hq => h _ (h' _ (by show Q (decide (i < j)) σ; rw [ht]; exact hq))
theorem TB.le {t : Bool} (ht : decide (i ≤ j) = t) : TB con C (.cmp .le a b) ρ σ t := fun Q hq => h _ (h' _ (by show Q (decide (i ≤ j)) σ; rw [ht]; exact hq))
theorem TB.gt {t : Bool} (ht : decide (i > j) = t) : TB con C (.cmp .gt a b) ρ σ t := fun Q hq => h _ (h' _ (by show Q (decide (i > j)) σ; rw [ht]; exact hq))
theorem TB.ge {t : Bool} (ht : decide (i ≥ j) = t) : TB con C (.cmp .ge a b) ρ σ t := fun Q hq => h _ (h' _ (by show Q (decide (i ≥ j)) σ; rw [ht]; exact hq))
theorem TB.eq {t : Bool} (ht : decide (i = j) = t) : TB con C (.cmp .eq a b) ρ σ t := fun Q hq => h _ (h' _ (by show Q (decide (i = j)) σ; rw [ht]; exact hq))
theorem TB.ne {t : Bool} (ht : decide (i = j) = t) : TB con C (.cmp .ne a b) ρ σ (!t) := fun Q hq => h _ (h' _ (by show Q (!decide (i = j)) σ; rw [ht]; exact hq))
theorem EV.eqI : EV con C (.cmp .eq a b) ρ σ (.bool (decide (i = j))) := fun Q hq => h _ (h' _ hq)
end
theorem TB.isnt {a : E} {v : V} {t : Bool} (h : EV con C a ρ σ v) (ht : (!v.isNil) = t) : TB con C (.cmp .isnt a .none) ρ σ t := fun Q hq => h _ ⟨rfl, by rw [ht]; exact hq⟩
theorem EV.isnt {a : E} {v : V} {t : Bool} (h : EV con C a ρ σ v) (ht : (!v.isNil) = t) : EV con C (.cmp .isnt a .none) ρ σ (.bool t) := fun Q hq => h _ ⟨rfl, by rw [ht]; exact hq⟩
theorem TB.is {a : E} {v : V} {t : Bool} (h : EV con C a ρ σ v) (ht : v.isNil = t) : TB con C (.cmp .is a .none) ρ σ t := fun Q hq => h _ ⟨rfl, by rw [ht]; exact hq⟩
theorem TB.var {x : Nat} {t : Bool} (h : ρ.get x = some (.bool t)) : TB con C (.var x) ρ σ t := fun Q hq => ⟨_, h, hq⟩
theorem TB.varL {x r : Nat} {vs : List V} (h : ρ.get x = some (.ref r)) (hr : σ r = some (.lst vs)) (hl : vs.length ≤ lim) : TB con C (.var x) ρ σ (!vs.isEmpty) := fun Q hq => ⟨_, h, by rw [L12, hr]; exact ⟨hl, hq⟩⟩
theorem TB.attr {x r f cl : Nat} {fs : List (Nat × V)} {t : Bool} (hx : ρ.get x = some (.ref r)) (hr : σ r = some (.inst cl fs)) (hf : (progT con).fld cl f = true) (hg : getF f fs = some (.bool t)) : TB con C (.attr (.var x) f) ρ σ t := fun Q hq => ⟨_, hx, by show attrP (progT con) (.ref r) f σ _; rw [L33, hr]; exact ⟨hf, _, hg, hq⟩⟩
/-- or: one that is true ends it; all false -/
theorem TB.and2 {a b : E} {t : Bool} (h : TB con C a ρ σ true) (h' : TB con C b ρ σ t) : TB con C (.bop true [a, b]) ρ σ t := fun Q hq => h _ (by
  rw [if_pos rfl]
  refine h' _ ?_
  induction t using Bool.casesOn with
  | true => rw [if_pos rfl]; exact hq
  | false => rw [if_neg (by decide)]; exact hq)
theorem TB.and0 {a : E} {es : List E} (h : TB con C a ρ σ false) : TB con C (.bop true (a :: es)) ρ σ false := fun Q hq => h _ (by
  rw [if_neg (by decide)]; exact hq)
theorem TB.and3 {a b c : E} {t : Bool} (h : TB con C a ρ σ true) (h' : TB con C b ρ σ true) (h'' : TB con C c ρ σ t) : TB con C (.bop true [a, b, c]) ρ σ t := fun Q hq => h _ (by
  rw [if_pos rfl]
  refine h' _ ?_
  rw [if_pos rfl]
  refine h'' _ ?_
  induction t using Bool.casesOn with
  | true => rw [if_pos rfl]; exact hq
  | false => rw [if_neg (by decide)]; exact hq)
theorem TB.or2 {a b : E} {t : Bool} (h : TB con C a ρ σ false) (h' : TB con C b ρ σ t) : TB con C (.bop false [a, b]) ρ σ t := fun Q hq => h _ (by
  rw [if_pos rfl]
  refine h' _ ?_
  induction t using Bool.casesOn with
  | false => rw [if_pos rfl]; exact hq
  | true => rw [if_neg (by decide)]; exact hq)
theorem TB.or0 {a : E} {es : List E} (h : TB con C a ρ σ true) : TB con C (.bop false (a :: es)) ρ σ true := fun Q hq => h _ (by
  rw [if_neg (by decide)]; exact hq)
/-! ## statements -/
section
variable {Q : K2} {v : V} {e : E}
theorem sAsg {x : Nat} (h : EV con C e ρ σ v) (g : wpSs (progT con) C ss (ρ.set x (some v)) σ Q) : wpSs (progT con) C (.asg x e :: ss) ρ σ Q := h _ g
theorem sRet (h : EV con C e ρ σ v) (g : Q (.ret v) ρ σ) : wpSs (progT con) C (.ret e :: ss) ρ σ Q := h _ g
theorem sIte {c : E} {a b : List S} (t : Bool) (h : TB con C c ρ σ t) (g : wpSs (progT con) C ((if t = true then a else b) ++ ss) ρ σ Q) : wpSs (progT con) C (.ite c a b :: ss) ρ σ Q := ite_step t h g
theorem sAug {x : Nat} {op : BOp} {i j k : Int} (hx : ρ.get x = some (.int i)) (h : EV con C e ρ σ (.int j)) (ho : ∀ Q : Int → Prop, Q k → intOp op i j Q) (g : wpSs (progT con) C ss (ρ.set x (some (.int k))) σ Q) : wpSs (progT con) C (.aug x op e :: ss) ρ σ Q := ⟨_, hx, h _ (ho _ g)⟩
/-- o.f = e -/
theorem sFld {j f r cl : Nat} {fs : List (Nat × V)} (h : EV con C e ρ σ v) (hj : ρ.get j = some (.ref r)) (hr : σ r = some (.inst cl fs)) (hf : (progT con).fld cl f = true) (hl : fs.length ≤ 100) (g : wpSs (progT con) C ss ρ (upd σ r (.inst cl (setF f v fs))) Q) : wpSs (progT con) C (.asgA (.var j) f e :: ss) ρ σ Q := h _ ⟨_, hj, by
  simp only [hr]
  exact ⟨hf, hl, g⟩⟩
end
/-! ## calls -/
section
variable {a b c d : E} {u v x y : V} {f : Nat} {Q : K1}
theorem eCall1 (h : EV con C a ρ σ u) (g : C f [u] σ Q) : wpE (progT con) C (.call f [a]) ρ σ Q := h _ g
theorem eCall2 (h : EV con C a ρ σ u) (h' : EV con C b ρ σ v) (g : C f [u, v] σ Q) : wpE (progT con) C (.call f [a, b]) ρ σ Q := h _ (h' _ g)
theorem eCall4 (h : EV con C a ρ σ u) (h' : EV con C b ρ σ v) (h2 : EV con C c ρ σ x) (h3 : EV con C d ρ σ y) (g : C f [u, v, x, y] σ Q) : wpE (progT con) C (.call f [a, b, c, d]) ρ σ Q := h _ (h' _ (h2 _ (h3 _ g)))
theorem EV.call1 (h : EV con C a ρ σ u) (g : ∀ Q : K1, Q v σ → C f [u] σ Q) : EV con C (.call f [a]) ρ σ v := fun Q hq => h _ (g _ hq)
theorem bnd_big {k d : Nat} (h : k < 1152921504606846976) : bnd d (.int k) = some k := by
  have : (k : Int) < 1152921504606846976 := by lia
  simp [bnd, this]
theorem EV.slcB {l hh : Nat} {bs : List Nat} (h : EV con C a ρ σ (.bytes bs)) (hl : EV con C b ρ σ (.int l)) (hh' : EV con C c ρ σ (.int hh)) (hd : bs.length ≤ lim) (h1 : l < 1152921504606846976) (h2 : hh < 1152921504606846976) : EV con C (.slc a b c) ρ σ (.bytes ((bs.take hh).drop l)) := fun Q hq => h _ (hl _ (hh' _ ⟨hd, l, hh, bnd_big h1, bnd_big h2, hq⟩))
theorem EV.bytesB {p : Nat} {l : List Nat} (h : EV con C a ρ σ (.ref p)) (hp : σ p = some (.barr l)) (hl : l.length ≤ lim) : EV con C (.bi .bytes [a]) ρ σ (.bytes l) := fun Q hq => h _ (by
  show biP .bytes [.ref p] σ Q
  rw [L23, hp]
  exact ⟨hl, hq⟩)
theorem EV.bytesId {l : List Nat} (h : EV con C a ρ σ (.bytes l)) (hl : l.length ≤ lim) : EV con C (.bi .bytes [a]) ρ σ (.bytes l) := fun Q hq => h _ ⟨hl, hq⟩
end
section
variable {Q : K2} {e : E} {x : Nat}
theorem sRetE (h : wpE (progT con) C e ρ σ fun v σ' => Q (.ret v) ρ σ') : wpSs (progT con) C (.ret e :: ss) ρ σ Q := h
theorem sAsgE (h : wpE (progT con) C e ρ σ fun v σ' => wpSs (progT con) C ss (ρ.set x (some v)) σ' Q) : wpSs (progT con) C (.asg x e :: ss) ρ σ Q := h
theorem sExE (h : wpE (progT con) C e ρ σ fun _ σ' => wpSs (progT con) C ss ρ σ' Q) : wpSs (progT con) C (.ex e :: ss) ρ σ Q := h
noncomputable def AsgP (j f : Nat) (ρ : Rho) (G : Hp → Prop) (T : Tab) (v : V) (σ : Hp) : Prop := ∃ a, ρ.get j = some a ∧ match a with
  | .ref x => (match σ x with
    | some (.inst c fs) => T.fld c f = true ∧ fs.length ≤ 100 ∧ G (upd σ x (.inst c (setF f v fs)))
    | _ => False)
  | _ => False
theorem sAsgAE {j f : Nat} (h : wpE (progT con) C e ρ σ (AsgP j f ρ (fun σ' => wpSs (progT con) C ss ρ σ' Q) (progT con))) : wpSs (progT con) C (.asgA (.var j) f e :: ss) ρ σ Q := h
noncomputable def TupP (xs : List Nat) (ρ : Rho) (G : Rho → Hp → Prop) (v : V) (σ : Hp) : Prop := match v with
  | .tup vs => ∃ ρ', setAll xs vs ρ = some ρ' ∧ G ρ' σ
  | _ => False
theorem TupP.mk {xs : List Nat} {ρ ρ' : Rho} {G : Rho → Hp → Prop} {vs : List V} {σ : Hp} (h : setAll xs vs ρ = some ρ') (g : G ρ' σ) : TupP xs ρ G (.tup vs) σ := ⟨ρ', h, g⟩
theorem sAsgTE {xs : List Nat} (h : wpE (progT con) C e ρ σ (TupP xs ρ fun ρ' σ' => wpSs (progT con) C ss ρ' σ' Q)) : wpSs (progT con) C (.asgT xs e :: ss) ρ σ Q := h
end
noncomputable def EVs (con : Nat → Option (List V)) (C : Calls) : List E → Rho → Hp → List V → Prop
  | [], _, _, vs => vs = []
  | e :: es, ρ, σ, v :: vs => EV con C e ρ σ v ∧ EVs con C es ρ σ vs
  | _ :: _, _, _, [] => False
theorem EVs.run : ∀ {es : List E} {vs : List V}, EVs con C es ρ σ vs → ∀ Q : List V → Hp → Prop, Q vs σ → wpL (progT con) C es ρ σ Q
  | [], _, rfl, _, hq => hq
  | _ :: _, _ :: _, ⟨h1, h2⟩, _, hq => h1 _ (h2.run _ hq)
  | _ :: _, [], h, _, _ => h.elim
theorem EVs.tup {es : List E} {vs : List V} (h : EVs con C es ρ σ vs) (hl : vs.length ≤ lim) : EV con C (.tup es) ρ σ (.tup vs) := fun Q hq => h.run _ ⟨hl, hq⟩
theorem eNew {es : List E} {vs : List V} {cl : Nat} {Q : K1} (h : EVs con C es ρ σ vs) (g : newP (progT con) C cl vs σ Q) : wpE (progT con) C (.new cl es) ρ σ Q := h.run _ g
/-! ## methods -/
theorem mK {m r cl f : Nat} {fs : List (Nat × V)} (hr : σ r = some (.inst cl fs)) (h2 : (progT con).meth cl m = some f) (h3 : getF m fs = none) : methK (progT con) m σ (.ref r) = some (f + 3) := by
  rw [L31, hr]; simp [h2, h3]
theorem mP {m r cl f : Nat} {fs : List (Nat × V)} {vs : List V} {Q : K1} (hr : σ r = some (.inst cl fs)) (h2 : (progT con).meth cl m = some f) (h3 : getF m fs = none) (h : C f (.ref r :: vs) σ Q) : methP (progT con) C (.ref r) m vs σ Q := by
  rw [L32, hr]
  simp only [h2]
  exact ⟨by rw [h3]; rfl, h⟩
theorem eMeth0 {e : E} {m r cl f : Nat} {fs : List (Nat × V)} {Q : K1} (he : EV con C e ρ σ (.ref r)) (hr : σ r = some (.inst cl fs)) (h2 : (progT con).meth cl m = some f) (h3 : getF m fs = Option.none) (h : C f [.ref r] σ Q) : wpE (progT con) C (.meth e m []) ρ σ Q := he _ ⟨f + 3, mK hr h2 h3, mK hr h2 h3, mP hr h2 h3 h⟩
/-- a test that calls a method -/
theorem eMethB {x m r cl f : Nat} {fs : List (Nat × V)} {Q : Bool → Hp → Prop} (hr : σ r = some (.inst cl fs)) (h2 : (progT con).meth cl m = some f) (h3 : getF m fs = Option.none) (h : C f [.ref r] σ fun v σ => truthP v σ fun t => Q t σ) (hx : ρ.get x = some (.ref r) := by rfl) : wpB (progT con) C (.meth (.var x) m []) ρ σ Q :=
  ⟨_, hx, f + 3, mK hr h2 h3, mK hr h2 h3, mP hr h2 h3 h⟩
theorem ite_stepH {T : Tab} {c : E} {a b ss : List S} {σ' : Hp} {Q : K2} (t : Bool) (hc : ∀ Q : Bool → Hp → Prop, Q t σ' → wpB T C c ρ σ Q) (h : wpSs T C ((if t = true then a else b) ++ ss) ρ σ' Q) : wpSs T C (.ite c a b :: ss) ρ σ Q := by
  rw [← wpSs_append] at h
  refine hc _ ?_
  induction t using Bool.casesOn <;> exact h
theorem kL {m r : Nat} {vs : List V} (hr : σ r = some (.lst vs)) (h : m = 50) : methK (progT con) m σ (.ref r) = some 0 := by
  subst h; rw [L31, hr]; rfl
theorem kB {r : Nat} {vs : List Nat} (hr : σ r = some (.barr vs)) : methK (progT con) 50 σ (.ref r) = some 1 := by
  rw [L31, hr]; rfl
theorem kX {r : Nat} {vs : List Nat} (hr : σ r = some (.barr vs)) : methK (progT con) 51 σ (.ref r) = some 2 := by
  rw [L31, hr]; rfl
theorem sAddA {j f r cl : Nat} {fs : List (Nat × V)} {i k : Int} {e : E} {Q : K2} (hj : ρ.get j = some (.ref r)) (hr : σ r = some (.inst cl fs)) (hf : (progT con).fld cl f = true) (hg : getF f fs = some (.int i)) (hl : fs.length ≤ 100) (he : EV con C e ρ σ (.int k)) (g : wpSs (progT con) C ss ρ (upd σ r (.inst cl (setF f (.int (i + k)) fs))) Q) : wpSs (progT con) C (.augA (.var j) f .add e :: ss) ρ σ Q :=
  ⟨_, hj, by
    show attrP (progT con) (.ref r) f σ _
    rw [L33, hr]
    refine ⟨hf, _, hg, he _ ?_⟩
    show intOp .add i k _
    simp only [intOp, hr]
    exact ⟨hf, hl, g⟩⟩
/-- bytearray.append, bytearray.extend -/
theorem sPush {p x : Nat} {b : List Nat} {o e : E} {Q : K2} (ho : EV con C o ρ σ (.ref p)) (hp : σ p = some (.barr b)) (he : EV con C e ρ σ (.int x)) (hx : x < 256) (hl : b.length < lim) (g : wpSs (progT con) C ss ρ (upd σ p (.barr (b ++ [x]))) Q) : wpSs (progT con) C (.ex (.meth o 50 [e]) :: ss) ρ σ Q :=
  ho _ ⟨1, kB hp, he _ ⟨kB hp, by
    rw [L32, hp]
    exact ⟨rfl, Int.natCast_nonneg x, Int.ofNat_lt.mpr hx, hl, g⟩⟩⟩
theorem sExt {p : Nat} {b c : List Nat} {o e : E} {Q : K2} (ho : EV con C o ρ σ (.ref p)) (hp : σ p = some (.barr b)) (he : EV con C e ρ σ (.bytes c)) (hl : b.length + c.length ≤ lim) (g : wpSs (progT con) C ss ρ (upd σ p (.barr (b ++ c))) Q) : wpSs (progT con) C (.ex (.meth o 51 [e]) :: ss) ρ σ Q :=
  ho _ ⟨2, kX hp, he _ ⟨kX hp, by
    rw [L32, hp]
    exact ⟨rfl, hl, g⟩⟩⟩
theorem sMeth1 {k m r cl f : Nat} {fs : List (Nat × V)} {v : V} {e : E} {Q : K2} (hk : ρ.get k = some (.ref r)) (hr : σ r = some (.inst cl fs)) (h2 : (progT con).meth cl m = some f) (h3 : getF m fs = Option.none) (he : EV con C e ρ σ v) (g : C f [.ref r, v] σ fun _ σ' => wpSs (progT con) C ss ρ σ' Q) : wpSs (progT con) C (.ex (.meth (.var k) m [e]) :: ss) ρ σ Q :=
  ⟨_, hk, f + 3, mK hr h2 h3, he _ ⟨mK hr h2 h3, mP hr h2 h3 g⟩⟩
theorem sMeth0 {k m r cl f : Nat} {fs : List (Nat × V)} {Q : K2} (hk : ρ.get k = some (.ref r)) (hr : σ r = some (.inst cl fs)) (h2 : (progT con).meth cl m = some f) (h3 : getF m fs = Option.none) (g : C f [.ref r] σ fun _ σ' => wpSs (progT con) C ss ρ σ' Q) : wpSs (progT con) C (.ex (.meth (.var k) m []) :: ss) ρ σ Q :=
  ⟨_, hk, f + 3, mK hr h2 h3, mK hr h2 h3, mP hr h2 h3 g⟩
/-! ## whole constructors, whole rows -/
noncomputable def foldF : List (Nat × V) → List Nat → List V → List (Nat × V)
  | fs, f :: l, v :: vs => foldF (setF f v fs) l vs
  | fs, _, _ => fs
theorem setF_le (f : Nat) (v : V) : ∀ fs : List (Nat × V), (setF f v fs).length ≤ fs.length + 1
  | [] => Nat.le_refl 1
  | (g, u) :: r => by
    unfold setF
    split
    · exact Nat.le_succ _
    · exact Nat.succ_le_succ (setF_le f v r)
theorem initSeq {r cl : Nat} {Q : K2} (h0 : ρ.get 0 = some (.ref r)) : ∀ (ps : List (Nat × Nat)) (vs : List V) (fs : List (Nat × V)), ps.map (fun p => ρ.get p.2) = vs.map some → ps.all (fun p => (progT con).fld cl p.1) = true → fs.length + ps.length ≤ 100 →
    Q .next ρ (upd σ r (.inst cl (foldF fs (ps.map (·.1)) vs))) → wpSs (progT con) C (ps.map fun p => .asgA (.var 0) p.1 (.var p.2)) ρ (upd σ r (.inst cl fs)) Q
  | [], [], fs, _, _, _, hq => hq
  | [], _ :: _, _, h, _, _, _ => by simp at h
  | _ :: _, [], _, h, _, _, _ => by simp at h
  | p :: ps, v :: vs, fs, hv, hf, hl, hq => by
    simp at hv hl
    rw [List.all_cons, Bool.and_eq_true] at hf
    have := setF_le p.1 v fs
    refine sFld (EV.var hv.1) h0 (upd_at ..) hf.1 (by lia) ?_
    rw [upd_upd]
    exact initSeq h0 ps vs _ (by simpa using hv.2) hf.2 (by lia) hq
theorem rowSeq {r cl : Nat} {fs : List (Nat × V)} (h0 : ρ.get 0 = some (.ref r)) (hr : σ r = some (.inst cl fs)) : ∀ (ps : List Nat) (vs : List V), ps.map (fun f => getF f fs) = vs.map some → ps.all (fun f => (progT con).fld cl f) = true → ∀ Q : List V → Hp → Prop, Q vs σ → wpL (progT con) C (ps.map fun f => .attr (.var 0) f) ρ σ Q
  | [], [], _, _, Q, hq => hq
  | [], _ :: _, h, _, _, _ => by simp at h
  | _ :: _, [], h, _, _, _ => by simp at h
  | p :: ps, v :: vs, h, hf, Q, hq => by
    simp at h
    rw [List.all_cons, Bool.and_eq_true] at hf
    show wpE _ _ (.attr (.var 0) p) ρ σ fun v σ => wpL _ _ (ps.map fun f => .attr (.var 0) f) ρ σ fun vs σ => Q (v :: vs) σ
    exact ev h0 hr hf.1 h.1 _ (rowSeq h0 hr ps vs h.2 hf.2 _ hq)
end
end Mine
end
section
set_option tactic.hygienic false
set_option backward.match.sparseCases false
set_option maxRecDepth 10000
set_option linter.all false
namespace Mine
variable {con : Nat → Option (List V)} {C : Calls} {σ : Hp} {Q : K1} {ρ : Rho} {ss : List S}
theorem wg_loop {p : Nat} {most : V} : ∀ (n : Nat) (b : List Nat) (σ : Hp) (Q : K2), σ p = some (.barr b) → b.length + (vb n).length ≤ lim →
    (∀ b' (n' : Nat), n' < 128 → b' ++ [n'] = b ++ vb n → Q .next [some (.int n'), some most, some (.ref p), none] (upd σ p (.barr b'))) →
    ∃ m, whileLoop (fun ρ σ Q => wpB (progT con) C (.cmp .ge (.var 0) (.int 128)) ρ σ Q)
      (fun ρ σ Q => wpSs (progT con) C [.ex (.meth (.var 2) 50 [.bin .or (.bin .and (.var 0) (.int 127)) (.int 128)]), .aug 0 .shr (.int 7)] ρ σ Q) m [some (.int n), some most, some (.ref p), none] σ Q := by
  intro n
  induction n using Nat.strongRecOn with
  | _ n ih =>
    intro b σ Q hp hl hQ
    by_cases hn : n < 128
    · refine ⟨1, while_turn fun R hR => TB.ge (EV.var rfl) EV.nat (i_nge (Nat.lt_of_not_le fun h => Nat.not_le.mpr hn h)) _ ?_⟩
      rw [if_neg (by decide)]
      have := hQ b n hn (by rw [vb_small hn])
      rw [upd_same hp] at this; exact this
    · have hb : vb n = (n % 128 + 128) :: vb (n / 128) := vb_big hn
      rw [hb, List.length_cons] at hl
      obtain ⟨m, hm⟩ := ih (n / 128) (by lia) (b ++ [n % 128 + 128]) (upd σ p (.barr (b ++ [n % 128 + 128]))) Q (upd_at ..) (by rw [List.length_append, List.length_singleton]; lia) (fun b' n' h1 h2 => by
        rw [upd_upd]; exact hQ b' n' h1 (by rw [h2, hb, List.append_assoc]; rfl))
      refine ⟨m + 1, while_turn fun R hR => TB.ge (EV.var rfl) EV.nat (i_ge (Nat.le_of_not_lt hn)) _ ?_⟩
      rw [if_pos rfl]
      have e0 : (n &&& 127) ||| 128 = n % 128 + 128 := by rw [and127]; exact or128 (Nat.mod_lt _ (by decide))
      have ee : EV con C (.bin .or (.bin .and (.var 0) (.int 127)) (.int 128)) [some (.int n), some most, some (.ref p), none] σ (.int ((n % 128 + 128 : Nat) : Int)) := by
        rw [← e0]
        exact EV.or (i := ((n &&& 127 : Nat) : Int)) (EV.and (EV.var rfl) EV.int (Int.natCast_nonneg n) (by decide)) EV.int (Int.natCast_nonneg _) (by decide)
      refine sPush (EV.var rfl) hp ee (by lia) (by lia) ?_
      refine sAug (k := ((n / 128 : Nat) : Int)) rfl EV.int (fun Q h => ⟨by decide, h⟩) ⟨_, Sub.refl _, ?_⟩
      rw [hR]; exact hm
/-- write_groups -/
theorem c_113 {n : Nat} {x most : Nat} (hx : x ≤ most) (h64 : x < 2 ^ 64) (h : Q (.bytes (vb x)) σ) : callN (progT con) progP (n + 1) 113 [.int x, .int most] σ Q := by
  refine call_intro (d := ⟨2, 4, b_113, []⟩) rfl (Nat.le_refl 2) (Nat.le_refl 2) ?_
  refine sIte false (TB.or2 (TB.lt (EV.var rfl) EV.int (i_neg x)) (TB.gt (EV.var rfl) (EV.var rfl) (i_ngt hx))) ?_
  refine fun p hp => ?_
  have hl := vb_len10 h64
  refine seq_step fun R hR => ?_
  refine wg_loop x [] (upd σ p (.barr [])) _ (upd_at ..) (by unfold lim; rw [List.length_nil]; lia) fun b n' hn e => ?_
  show R _ _
  rw [hR, upd_upd]; clear hR R
  have e : b ++ [n'] = vb x := e
  have hb2 : (b ++ [n']).length ≤ lim := by rw [e]; unfold lim; lia
  have hb : b.length < lim := by rw [List.length_append] at hb2; exact hb2
  refine sPush (EV.var rfl) (upd_at ..) (EV.var rfl) (by lia) hb ?_
  rw [upd_upd]
  rw [e]
  exact sRet (EV.bytesB (EV.var rfl) (upd_at ..) (by rw [← e]; exact hb2)) ⟨σ, Sub.put (Sub.refl _) hp, h⟩
theorem orShift {a b k : Nat} (h : a < 2 ^ k) : a ||| (b * 2 ^ k) = a + b * 2 ^ k := by
  have := Nat.two_pow_add_eq_or_of_lt h b
  rw [Nat.or_comm, Nat.mul_comm b, ← this]; lia
theorem at_of_drop {α : Type} {l : List α} {a : Nat} {x : α} {r : List α} (h : l.drop a = x :: r) : l[a]? = some x ∧ l.drop (a + 1) = r ∧ a < l.length := by
  have hlt : a < l.length := by
    apply Classical.byContradiction; intro hn
    rw [List.drop_eq_nil_of_le (by lia)] at h; cases h
  rw [List.drop_eq_getElem_cons hlt] at h
  obtain ⟨h1, h2⟩ := List.cons.inj h
  exact ⟨by rw [List.getElem?_eq_getElem hlt, h1], h2, hlt⟩
theorem castShift (r k : Nat) : (r : Int) * 2 ^ k = ((r * 2 ^ k : Nat) : Int) := by simp
noncomputable abbrev rgBody : List S := [.ite (.cmp .ge (.var 1) (.bi .len [.var 0])) [.raise] [], .asg 7 (.idx (.var 0) (.var 1)), .aug 1 .add (.int 1), .aug 4 .or (.bin .shl (.bin .and (.var 7) (.int 127)) (.var 5)), .ite (.cmp .lt (.var 7) (.int 128)) [.ite (.cmp .gt (.var 4) (.var 3)) [.raise] [], .ret (.tup [.var 4, .var 1])] [], .aug 5 .add (.int 7)]
/-- one octet x, of which y counts -/
theorem rg_turn {data : List Nat} {oc : V} {most a acc k x y : Nat} {v : V} {o7 : Option V} {Q : K2} (hd : data.length ≤ lim) (ha : a < data.length) (hx : data[a]? = some x) (hy : x &&& 127 = y) (hk : k ≤ 1000) (hyb : y < 2 ^ 64) (hacc : acc < 2 ^ k)
    (h : wpSs (progT con) C (rgBody.drop 4) [some (.bytes data), some (.int ((a + 1 : Nat) : Int)), some oc, some (.int most), some (.int ((acc + y * 2 ^ k : Nat) : Int)), some (.int k), some v, some (.int x), none] σ Q) :
    wpSs (progT con) C rgBody [some (.bytes data), some (.int a), some oc, some (.int most), some (.int acc), some (.int k), some v, o7, none] σ Q := by
  refine sIte false (TB.ge (EV.var rfl) (EV.lenB (EV.var rfl) hd) (i_nge ha)) ?_
  refine sAsg (EV.idxB (EV.var rfl) (EV.var rfl) hd hx) ?_
  refine sAug (k := ((a + 1 : Nat) : Int)) rfl EV.int (fun Q h => h) ?_
  have es : EV con C (.bin .shl (.bin .and (.var 7) (.int 127)) (.var 5)) [some (.bytes data), some (.int ((a + 1 : Nat) : Int)), some oc, some (.int most), some (.int acc), some (.int k), some v, some (.int x), none] σ (.int ((y * 2 ^ k : Nat) : Int)) := by
    rw [← castShift, ← hy]
    exact EV.shl (i := ((x &&& 127 : Nat) : Int)) (j := (k : Int)) (EV.and (EV.var rfl) EV.int (Int.natCast_nonneg x) (by decide)) (EV.var rfl) (Int.natCast_nonneg k) (by lia) (by rw [hy]; exact hyb)
  refine sAug (k := ((acc + y * 2 ^ k : Nat) : Int)) rfl es (fun Q h => ⟨Int.natCast_nonneg acc, Int.natCast_nonneg _, ?_⟩) h
  rw [← orShift hacc] at h
  exact h
theorem rg_loop {data tl : List Nat} {src oc : V} {all : List V} {most : Nat} (hd : data.length ≤ lim) : ∀ (rem : Nat) (rest : List V) (a acc k : Nat) (o6 o7 : Option V) (σ : Hp) (Q : K2), itemsOf σ src = some all → data.drop a = vb rem ++ tl → (vb rem).length ≤ rest.length → acc < 2 ^ k → acc + rem * 2 ^ k ≤ most → k + 7 * (vb rem).length ≤ 70 →
    (∀ ρ', Q (.ret (.tup [.int ((acc + rem * 2 ^ k : Nat) : Int), .int ((a + (vb rem).length : Nat) : Int)])) ρ' σ) →
    forLoop src all (fun v ρ σ Q => wpSs (progT con) C rgBody (ρ.set 6 (some v)) σ Q)
      rest [some (.bytes data), some (.int a), some oc, some (.int most), some (.int acc), some (.int k), o6, o7, none] σ Q := by
  intro rem
  induction rem using Nat.strongRecOn with
  | _ rem ih =>
    intro rest a acc k o6 o7 σ Q hit hdr hlen hacc hmost hi hQ
    have hp := vb_pos rem
    induction rest using List.casesOn with
    | nil => exact absurd hlen (by rw [List.length_nil]; lia)
    | cons v rest =>
      refine for_turn hit fun R hR => ?_
      by_cases hn : rem < 128
      · rw [vb_small hn] at hdr hlen hQ
        obtain ⟨d1, d2, d3⟩ := at_of_drop (r := tl) hdr
        have e1 : rem &&& 127 = rem := by rw [and127]; exact Nat.mod_eq_of_lt hn
        refine rg_turn hd d3 d1 e1 (by lia) (by lia) hacc ?_
        refine sIte true (TB.lt (EV.var rfl) EV.nat (i_lt hn)) ?_
        refine sIte false (TB.gt (EV.var rfl) (EV.var rfl) (i_ngt hmost)) ?_
        exact sRet (EV.tup2 (EV.var rfl) (EV.var rfl)) (hQ _)
      · have hb := vb_big hn
        generalize hr : rem % 128 = r at hb
        generalize hq : rem / 128 = q at hb
        have hrem : rem = 128 * q + r := by lia
        rw [hb] at hdr hlen hQ hi
        obtain ⟨d1, d2, d3⟩ := at_of_drop (r := vb q ++ tl) hdr
        have e1 : (r + 128) &&& 127 = r := by rw [and127]; lia
        have ep : 2 ^ (k + 7) = 128 * 2 ^ k := by rw [Nat.pow_add]; lia
        have esum : acc + r * 2 ^ k + q * 2 ^ (k + 7) = acc + rem * 2 ^ k := by
          rw [ep, show q * (128 * 2 ^ k) = (128 * q) * 2 ^ k by rw [← Nat.mul_assoc, Nat.mul_comm q], Nat.add_assoc, ← Nat.add_mul, hrem]
          congr 2; lia
        have hlt : acc + r * 2 ^ k < 2 ^ (k + 7) := by
          rw [ep]
          have : r * 2 ^ k ≤ 127 * 2 ^ k := Nat.mul_le_mul_right _ (by lia)
          lia
        have hi2 : k + 7 * ((vb q).length + 1) ≤ 70 := hi
        refine rg_turn hd d3 d1 e1 (by lia) (by lia) hacc ?_
        refine sIte false (TB.lt (EV.var rfl) EV.nat (i_nlt (Nat.le_add_left ..))) ?_
        refine sAug (k := ((k + 7 : Nat) : Int)) rfl EV.int (fun Q h => h) ⟨_, Sub.refl _, ?_⟩
        rw [hR]
        refine ih q (by lia) rest (a + 1) (acc + r * 2 ^ k) (k + 7) (some v) (some (.int (r + 128 : Nat))) σ Q hit d2 (Nat.le_of_succ_le_succ hlen) hlt (by rw [esum]; exact hmost) (by lia) fun ρ' => ?_
        rw [esum, show a + 1 + (vb q).length = a + ((vb q).length + 1) by lia]
        exact hQ ρ'
/-- read_groups -/
theorem c_120 {n : Nat} {data tl : List Nat} {a x most oc : Nat} (hd : data.length ≤ lim) (hdr : data.drop a = vb x ++ tl) (hx : x ≤ most) (hoc : (vb x).length ≤ oc) (h10 : oc ≤ 10)
    (h : Q (.tup [.int x, .int ((a + (vb x).length : Nat) : Int)]) σ) : callN (progT con) progP (n + 1) 120 [.bytes data, .int a, .int oc, .int most] σ Q := by
  refine call_intro (d := ⟨4, 9, b_120, []⟩) rfl (Nat.le_refl 4) (Nat.le_refl 4) ?_
  refine sIte false (TB.lt (EV.var rfl) EV.int (i_neg a)) ?_
  refine sAsg EV.int (sAsg EV.int ?_)
  refine seq_step fun R hR => ?_
  refine ⟨_, rfl, by lia, _, rfl, by rw [List.length_map, List.length_range]; unfold lim; lia, ?_⟩
  refine rg_loop (tl := tl) hd x _ a 0 0 none none σ _ rfl hdr (by rw [List.length_map, List.length_range]; lia) (by decide) (by rw [Nat.zero_add, Nat.pow_zero, Nat.mul_one]; exact hx) (by lia) fun ρ' => ⟨σ, Sub.refl _, ?_⟩
  rw [Nat.zero_add, Nat.pow_zero, Nat.mul_one]; exact h
/-- bytes([x]) -/
theorem bytes1 {x : Nat} {e : E} {Q : K1} (he : EV con C e ρ σ (.int x)) (hx : x < 256) (h : ∀ r, σ r = none → Q (.bytes [x]) (upd σ r (.lst [.int x]))) : wpE (progT con) C (.bi .bytes [.list [e]]) ρ σ Q := he _ ⟨Nat.le_of_ble_eq_true rfl, fun r hr => by
  show biP .bytes [.ref r] _ _
  rw [L23, upd_at]
  refine ⟨Nat.le_of_ble_eq_true rfl, [(x : Int)], [x], rfl, ?_, h r hr⟩
  unfold bytesOfInts
  rw [if_pos (by rw [List.all_cons, List.all_nil, Bool.and_true, Bool.and_eq_true]; exact ⟨decide_eq_true (Int.natCast_nonneg x), decide_eq_true (by lia)⟩)]
  rfl⟩
/-- put_varint, put_varint32 -/
theorem put_any {n x most : Nat} (hm : x ≤ most) (hx : x < 2 ^ 64) (h : Q (.bytes (vb x)) σ) : wpSs (progT con) (callN (progT con) progP (n + 1)) [.ite (.bop true [.cmp .ge (.var 0) (.int 0), .cmp .lt (.var 0) (.int 128)]) [.ret (.bi .bytes [.list [.var 0]])] [], .ret (.call 113 [.var 0, .int most])] [some (.int x), none] σ fun fl _ σ' => ∃ τ, Sub τ σ' ∧ Q (match fl with | .ret v => v | .next => .none) τ := by
  by_cases hn : x < 128
  · refine sIte true (TB.and2 (TB.ge (EV.var rfl) EV.int (i_pos x)) (TB.lt (EV.var rfl) EV.nat (i_lt hn))) ?_
    rw [vb_small hn] at h
    exact bytes1 (EV.var rfl) (by lia) fun r hr => ⟨σ, Sub.put (Sub.refl _) hr, h⟩
  · refine sIte false (TB.and2 (TB.ge (EV.var rfl) EV.int (i_pos x)) (TB.lt (EV.var rfl) EV.nat (i_nlt (Nat.le_of_not_lt hn)))) ?_
    exact sRetE (eCall2 (EV.var rfl) EV.int (c_113 hm hx ⟨σ, Sub.refl _, h⟩))
theorem c_127 {n : Nat} {x : Nat} (hx : x < 2 ^ 64) (h : Q (.bytes (vb x)) σ) : callN (progT con) progP (n + 2) 127 [.int x] σ Q :=
  call_intro (d := ⟨1, 2, b_127, []⟩) rfl (Nat.le_refl 1) (Nat.le_refl 1) (put_any (most := 18446744073709551615) (by lia) hx h)
theorem c_141 {n : Nat} {x : Nat} (hx : x < 2 ^ 32) (h : Q (.bytes (vb x)) σ) : callN (progT con) progP (n + 2) 141 [.int x] σ Q :=
  call_intro (d := ⟨1, 2, b_141, []⟩) rfl (Nat.le_refl 1) (Nat.le_refl 1) (put_any (most := 4294967295) (by lia) (by lia) h)
/-- read_varint, read_varint32 -/
theorem read_any {n oc most : Nat} {data tl : List Nat} {a x : Nat} (hd : data.length ≤ lim) (hdr : data.drop a = vb x ++ tl) (hx : x ≤ most) (hl : (vb x).length ≤ oc) (h10 : oc ≤ 10)
    (h : Q (.tup [.int x, .int ((a + (vb x).length : Nat) : Int)]) σ) : wpSs (progT con) (callN (progT con) progP (n + 1)) [.ite (.bop true [.cmp .ge (.var 1) (.int 0), .cmp .lt (.var 1) (.bi .len [.var 0]), .cmp .lt (.idx (.var 0) (.var 1)) (.int 128)]) [.ret (.tup [.idx (.var 0) (.var 1), .bin .add (.var 1) (.int 1)])] [], .ret (.call 120 [.var 0, .var 1, .int oc, .int most])] [some (.bytes data), some (.int a), none] σ fun fl _ σ' => ∃ τ, Sub τ σ' ∧ Q (match fl with | .ret v => v | .next => .none) τ := by
  have tst : ∀ {y : Nat} {b : Bool}, data[a]? = some y → a < data.length → decide (y < 128) = b → TB con (callN (progT con) progP (n + 1)) (.bop true [.cmp .ge (.var 1) (.int 0), .cmp .lt (.var 1) (.bi .len [.var 0]), .cmp .lt (.idx (.var 0) (.var 1)) (.int 128)]) [some (.bytes data), some (.int a), none] σ b := fun {y b} d1 d3 hb =>
    TB.and3 (TB.ge (EV.var rfl) EV.int (i_pos a)) (TB.lt (EV.var rfl) (EV.lenB (EV.var rfl) hd) (i_lt d3)) (TB.lt (EV.idxB (EV.var rfl) (EV.var rfl) hd d1) EV.nat (by rw [← hb]; exact decide_eq_decide.mpr Int.ofNat_lt))
  by_cases hn : x < 128
  · rw [vb_small hn] at h hdr
    obtain ⟨d1, d2, d3⟩ := at_of_drop (r := tl) hdr
    refine sIte true (tst d1 d3 (decide_eq_true hn)) ?_
    exact sRet (EV.tup2 (EV.idxB (EV.var rfl) (EV.var rfl) hd d1) (EV.add (EV.var rfl) EV.int)) ⟨σ, Sub.refl _, h⟩
  · have hdr2 := hdr
    rw [vb_big hn] at hdr2
    obtain ⟨d1, d2, d3⟩ := at_of_drop (r := vb (x / 128) ++ tl) hdr2
    refine sIte false (tst d1 d3 (decide_eq_false (Nat.not_lt.mpr (Nat.le_add_left ..)))) ?_
    exact sRetE (eCall4 (EV.var rfl) (EV.var rfl) EV.int EV.int (c_120 (tl := tl) hd hdr hx hl h10 ⟨σ, Sub.refl _, h⟩))
theorem c_134 {n : Nat} {data tl : List Nat} {a x : Nat} (hd : data.length ≤ lim) (hdr : data.drop a = vb x ++ tl) (hx : x < 2 ^ 64)
    (h : Q (.tup [.int x, .int ((a + (vb x).length : Nat) : Int)]) σ) : callN (progT con) progP (n + 2) 134 [.bytes data, .int a] σ Q :=
  call_intro (d := ⟨2, 3, b_134, []⟩) rfl (Nat.le_refl 2) (Nat.le_refl 2) (read_any (oc := 10) (most := 18446744073709551615) hd hdr (by lia) (vb_len10 hx) (by decide) h)
theorem c_148 {n : Nat} {data tl : List Nat} {a x : Nat} (hd : data.length ≤ lim) (hdr : data.drop a = vb x ++ tl) (hx : x < 2 ^ 32)
    (h : Q (.tup [.int x, .int ((a + (vb x).length : Nat) : Int)]) σ) : callN (progT con) progP (n + 2) 148 [.bytes data, .int a] σ Q :=
  call_intro (d := ⟨2, 3, b_148, []⟩) rfl (Nat.le_refl 2) (Nat.le_refl 2) (read_any (oc := 5) (most := 4294967295) hd hdr (by lia) (vb_len5 hx) (by decide) h)
end Mine
end
section
set_option tactic.hygienic false
set_option backward.match.sparseCases false
set_option maxRecDepth 10000
set_option linter.all false
namespace Mine
variable {con : Nat → Option (List V)} {C : Calls} {σ : Hp} {Q : K1}
noncomputable def f32 (n : Nat) : List Nat := [n % 256, n / 256 % 256, n / 65536 % 256, n / 16777216]
theorem and255 (n : Nat) : n &&& 255 = n % 256 := Nat.and_two_pow_sub_one_eq_mod n 8
theorem bytesOfInts_nat (l : List Nat) (h : ∀ x ∈ l, x < 256) : bytesOfInts (l.map fun (n : Nat) => (n : Int)) = some l := by
  unfold bytesOfInts
  rw [if_pos]
  · simp [List.map_map, Function.comp_def]
  · rw [List.all_eq_true]
    intro x hx
    obtain ⟨n, hn, rfl⟩ := List.mem_map.mp hx
    have := h n hn
    simp; lia
theorem f32_lt (x : Nat) (hx : x < 2 ^ 32) : ∀ y ∈ f32 x, y < 256 := by
  intro y hy
  simp [f32] at hy
  lia
theorem bytes4 {C : Calls} {ρ : Rho} {x1 x2 x3 x4 : Nat} {e1 e2 e3 e4 : E} (h1 : EV con C e1 ρ σ (.int x1)) (h2 : EV con C e2 ρ σ (.int x2)) (h3 : EV con C e3 ρ σ (.int x3)) (h4 : EV con C e4 ρ σ (.int x4)) (hx : ∀ y ∈ [x1, x2, x3, x4], y < 256) (h : ∀ r o, σ r = none → Q (.bytes [x1, x2, x3, x4]) (upd σ r o)) : wpE (progT con) C (.bi .bytes [.list [e1, e2, e3, e4]]) ρ σ Q :=
  h1 _ (h2 _ (h3 _ (h4 _ ⟨Nat.le_of_ble_eq_true rfl, fun r hr => by
    show biP .bytes [.ref r] _ _
    rw [L23, upd_at]
    exact ⟨Nat.le_of_ble_eq_true rfl, _, _, rfl, bytesOfInts_nat _ hx, h r _ hr⟩⟩)))
theorem EV.and255 {C : Calls} {ρ : Rho} {e : E} {x : Nat} (h : EV con C e ρ σ (.int x)) : EV con C (.bin .and e (.int 255)) ρ σ (.int ((x % 256 : Nat) : Int)) := by
  rw [← Mine.and255]
  exact EV.and (i := (x : Int)) h EV.int (Int.natCast_nonneg x) (by decide)
theorem EV.shrN {C : Calls} {ρ : Rho} {e : E} {x k : Nat} (h : EV con C e ρ σ (.int x)) : EV con C (.bin .shr e (.int k)) ρ σ (.int ((x / 2 ^ k : Nat) : Int)) := by
  have : ((x / 2 ^ k : Nat) : Int) = (x : Int) / 2 ^ ((k : Int).toNat) := by simp
  rw [this]
  exact EV.shr h EV.nat (Int.natCast_nonneg k)
/-- put_fixed32 -/
theorem c_162 {n x : Nat} (hx : x < 2 ^ 32) (h : Q (.bytes (f32 x)) σ) : callN (progT con) progP (n + 1) 162 [.int x] σ Q := by
  refine call_intro (d := ⟨1, 2, b_162, []⟩) rfl (Nat.le_refl 1) (Nat.le_refl 1) ?_
  refine sIte false (TB.or2 (TB.lt (EV.var rfl) EV.int (i_neg x)) (TB.gt (EV.var rfl) (EV.nat (i := 4294967295)) (i_ngt (Nat.le_of_lt_succ hx)))) ?_
  have v0 : EV con (callN (progT con) progP n) (.var 0) [some (.int x), none] σ (.int x) := EV.var rfl
  exact sRetE (bytes4 v0.and255 (v0.shrN (k := 8)).and255 (v0.shrN (k := 16)).and255 (v0.shrN (k := 24)) (f32_lt x hx) fun r o hr => ⟨σ, Sub.put (Sub.refl _) hr, h⟩)
theorem sec_drop {α : Type} {l a b : List α} {k : Nat} (h : l.drop k = a ++ b) : (l.take (k + a.length)).drop k = a ∧ l.drop (k + a.length) = b ∧ k + a.length ≤ max k l.length := by
  have e : l.drop (k + a.length) = b := by rw [← List.drop_drop, h]; simp
  refine ⟨?_, e, ?_⟩
  · rw [List.drop_take, Nat.add_sub_cancel_left, h]; simp
  · have := congrArg List.length h
    simp at this; lia
/-- read_lengthed -/
theorem c_176 {n a : Nat} {data x tl : List Nat} (hd : data.length ≤ lim) (hx : x.length < 2 ^ 32) (ha : a ≤ data.length) (hdr : data.drop a = vb x.length ++ (x ++ tl))
    (h : Q (.tup [.bytes x, .int ((a + (vb x.length ++ x).length : Nat) : Int)]) σ) : callN (progT con) progP (n + 3) 176 [.bytes data, .int a] σ Q := by
  refine call_intro (d := ⟨2, 4, b_176, []⟩) rfl (Nat.le_refl 2) (Nat.le_refl 2) ?_
  obtain ⟨_, g2, g3⟩ := sec_drop hdr
  obtain ⟨k1, k2, k3⟩ := sec_drop g2
  generalize hb : a + (vb x.length).length = b at *
  have hb2 : a + (vb x.length ++ x).length = b + x.length := by rw [List.length_append]; lia
  rw [hb2] at h
  have hle : b + x.length ≤ data.length := by
    have := vb_pos x.length
    have h3 := congrArg List.length g2
    simp at h3
    lia
  refine sAsgTE (eCall2 (EV.var rfl) (EV.var rfl) (c_148 hd hdr hx (TupP.mk rfl ?_)))
  rw [hb]
  refine sIte false (TB.gt (EV.add (EV.var rfl) (EV.var rfl)) (EV.lenB (EV.var rfl) hd) (i_ngt hle)) ?_
  have hsl := EV.slcB (con := con) (C := callN (progT con) progP (n + 2)) (ρ := [some (.bytes data), some (.int b), some (.int x.length), none]) (σ := σ) (EV.var (x := 0) rfl) (EV.var (x := 1) rfl) (EV.add (EV.var (x := 1) (v := .int b) rfl) (EV.var (x := 2) (v := .int x.length) rfl)) hd (by unfold lim at hd; lia) (hh := b + x.length) (by unfold lim at hd; lia)
  rw [k1] at hsl
  exact sRet (EV.tup2 (EV.bytesId hsl (Nat.le_trans (Nat.le_trans (Nat.le_add_left ..) hle) hd)) (EV.add (EV.var rfl) (EV.var rfl))) ⟨σ, Sub.refl _, h⟩

/-! ## Sink -/
noncomputable def snk (p : Nat) : AObj := .inst 334 [(2, .ref p)]
theorem upd_comm (σ : Hp) {a b : Nat} (x y : AObj) (h : a ≠ b) : upd (upd σ a x) b y = upd (upd σ b y) a x := by
  funext c; unfold upd
  by_cases h1 : c = a
  · subst h1; simp [h]
  · by_cases h2 : c = b
    · subst h2; simp [Ne.symm h]
    · simp [h1, h2]
/-- Sink() -/
theorem c_334 {n : Nat} (h : ∀ s p, σ s = none → σ p = none → s ≠ p → Q (.ref s) (upd (upd σ s (snk p)) p (.barr []))) : newP (progT con) (callN (progT con) progP (n + 1)) 334 [] σ Q := by
  show ∀ r, σ r = none → callN (progT con) progP (n + 1) 275 [.ref r] (upd σ r (.inst 334 [])) fun v σ' => v = .none ∧ Q (.ref r) σ'
  intro s hs
  refine call_intro (d := ⟨1, 2, b_275, []⟩) rfl (Nat.le_refl 1) (Nat.le_refl 1) fun p hp => ?_
  have hne : s ≠ p := ne_of_free (upd_at ..) hp
  have hp2 : σ p = none := (upd_ne _ _ (Ne.symm hne)).symm.trans hp
  refine ⟨_, rfl, ?_⟩
  simp only
  rw [upd_ne _ _ hne, upd_at]
  refine ⟨F_334_2, Nat.le_of_ble_eq_true rfl, upd (upd σ s (snk p)) p (.barr []), ?_, rfl, h s p hs hp2 hne⟩
  rw [upd_comm _ _ _ hne.symm, upd_upd]
  exact Sub.refl _
section
variable {s p : Nat} {b : List Nat} (hs : σ s = some (snk p)) (hp : σ p = some (.barr b))
include hs hp
theorem c_282 {n x : Nat} (hx : x < 2 ^ 64) (hl : b.length + 10 ≤ lim) (h : Q .none (upd σ p (.barr (b ++ vb x)))) : callN (progT con) progP (n + 3) 282 [.ref s, .int x] σ Q := by
  refine call_intro (d := ⟨2, 3, b_282, []⟩) rfl (Nat.le_refl 2) (Nat.le_refl 2) ?_
  by_cases hn : x < 128
  · refine sIte true (TB.and2 (TB.ge (EV.var rfl) EV.int (i_pos x)) (TB.lt (EV.var rfl) EV.nat (i_lt hn))) ?_
    rw [vb_small hn] at h
    exact sPush (ev rfl hs F_334_2 rfl) hp (EV.var rfl) (Nat.lt_of_lt_of_le hn (by decide)) (Nat.lt_of_lt_of_le (Nat.lt_add_of_pos_right (by decide)) hl) ⟨_, Sub.refl _, h⟩
  · refine sIte false (TB.and2 (TB.ge (EV.var rfl) EV.int (i_pos x)) (TB.lt (EV.var rfl) EV.nat (i_nlt (Nat.le_of_not_lt hn)))) ?_
    exact sExt (ev rfl hs F_334_2 rfl) hp (EV.call1 (EV.var rfl) fun Q hq => c_127 hx hq) (Nat.le_trans (Nat.add_le_add_left (vb_len10 hx) _) hl) ⟨_, Sub.refl _, h⟩
theorem c_289 {n x : Nat} (hx : x < 2 ^ 32) (hl : b.length + 10 ≤ lim) (h : Q .none (upd σ p (.barr (b ++ f32 x)))) : callN (progT con) progP (n + 2) 289 [.ref s, .int x] σ Q :=
  call_intro (d := ⟨2, 3, b_289, []⟩) rfl (Nat.le_refl 2) (Nat.le_refl 2)
    (sExt (ev rfl hs F_334_2 rfl) hp (EV.call1 (EV.var rfl) fun Q hq => c_162 hx hq) (Nat.le_trans (Nat.add_le_add_left (show (4 : Nat) ≤ 10 by decide) _) hl) ⟨_, Sub.refl _, h⟩)
theorem c_303 {n : Nat} {x : List Nat} (hx : b.length + x.length + 10 ≤ lim) (h : Q .none (upd σ p (.barr (b ++ (vb x.length ++ x))))) : callN (progT con) progP (n + 3) 303 [.ref s, .bytes x] σ Q := by
  have hne : s ≠ p := ne_of_obj hs hp (by intro h; cases h)
  refine call_intro (d := ⟨2, 3, b_303, []⟩) rfl (Nat.le_refl 2) (Nat.le_refl 2) ?_
  have hx32 : x.length < 2 ^ 32 := by unfold lim at hx; lia
  have hl10 := vb_len5 hx32
  refine sExt (ev rfl hs F_334_2 rfl) hp (EV.call1 (EV.lenB (EV.var rfl) (by lia)) fun Q hq => c_141 hx32 hq) (by lia) ?_
  refine sExt (ev rfl ((upd_ne _ _ hne).trans hs) F_334_2 rfl) (upd_at ..) (EV.var rfl) (by rw [List.length_append]; lia) ?_
  rw [upd_upd, List.append_assoc]
  exact ⟨_, Sub.refl _, h⟩
theorem c_310 {n x : Nat} (hx : x < 256) (hl : b.length + 10 ≤ lim) (h : Q .none (upd σ p (.barr (b ++ [x])))) : callN (progT con) progP (n + 1) 310 [.ref s, .int x] σ Q := by
  refine call_intro (d := ⟨2, 3, b_310, []⟩) rfl (Nat.le_refl 2) (Nat.le_refl 2) ?_
  refine sIte false (TB.or2 (TB.lt (EV.var rfl) EV.int (i_neg x)) (TB.gt (EV.var rfl) (EV.nat (i := 255)) (i_ngt (Nat.le_of_lt_succ hx)))) ?_
  exact sPush (ev rfl hs F_334_2 rfl) hp (EV.var rfl) hx (Nat.lt_of_lt_of_le (Nat.lt_add_of_pos_right (by decide)) hl) ⟨_, Sub.refl _, h⟩
theorem c_317 {n : Nat} {t : Bool} (hl : b.length + 10 ≤ lim) (h : Q .none (upd σ p (.barr (b ++ [if t then 1 else 0])))) : callN (progT con) progP (n + 1) 317 [.ref s, .bool t] σ Q := by
  refine call_intro (d := ⟨2, 3, b_317, []⟩) rfl (Nat.le_refl 2) (Nat.le_refl 2) (sIte t (TB.var rfl) ?_)
  cases t
  · exact sPush (x := 0) (ev rfl hs F_334_2 rfl) hp EV.int (by decide) (Nat.lt_of_lt_of_le (Nat.lt_add_of_pos_right (by decide)) hl) ⟨_, Sub.refl _, h⟩
  · exact sPush (x := 1) (ev rfl hs F_334_2 rfl) hp EV.int (by decide) (Nat.lt_of_lt_of_le (Nat.lt_add_of_pos_right (by decide)) hl) ⟨_, Sub.refl _, h⟩
theorem c_331 {n : Nat} (hl : b.length ≤ lim) (h : Q (.bytes b) σ) : callN (progT con) progP (n + 1) 331 [.ref s] σ Q :=
  call_intro (d := ⟨1, 2, b_331, []⟩) rfl (Nat.le_refl 1) (Nat.le_refl 1) (sRet (EV.bytesB (ev rfl hs F_334_2 rfl) hp hl) ⟨_, Sub.refl _, h⟩)
end
end Mine
end
section
set_option tactic.hygienic false
set_option backward.match.sparseCases false
set_option maxRecDepth 10000
set_option linter.all false
namespace Mine
variable {con : Nat → Option (List V)} {C : Calls} {σ : Hp} {Q : K1}
/-! ## Cursor -/
noncomputable def cur (data : List Nat) (a : Nat) : AObj := .inst 257 [(0, .bytes data), (1, .int a)]
/-- Cursor(data) -/
theorem c_257 {n : Nat} {data : List Nat} (hd : data.length ≤ lim) (h : ∀ r, σ r = none → Q (.ref r) (upd σ r (cur data 0))) : newP (progT con) (callN (progT con) progP (n + 1)) 257 [.bytes data] σ Q := by
  show ∀ r, σ r = none → callN (progT con) progP (n + 1) 191 [.ref r, .bytes data] (upd σ r (.inst 257 [])) fun v σ' => v = .none ∧ Q (.ref r) σ'
  intro r hr
  refine call_intro (d := ⟨3, 4, b_191, [.int 0]⟩) rfl (by simp) (by simp) ?_
  refine sIte false (TB.or2 (TB.lt (EV.var rfl) EV.int rfl) (TB.gt (EV.var rfl) (EV.lenB (EV.var rfl) hd) (i_ngt (a := 0) (Nat.zero_le _)))) ?_
  refine sFld (EV.var rfl) rfl (upd_at ..) F_257_0 (Nat.le_of_ble_eq_true rfl) ?_
  rw [upd_upd]
  refine sFld (EV.var rfl) rfl (upd_at ..) F_257_1 (Nat.le_of_ble_eq_true rfl) ?_
  rw [upd_upd]
  exact ⟨_, Sub.refl _, rfl, h r hr⟩
section
variable {c : Nat} {data : List Nat} {a : Nat} (hc : σ c = some (cur data a)) (hd : data.length ≤ lim)
include hc hd
theorem c_198 {n : Nat} (h : Q (.int ((data.length : Int) - (a : Int))) σ) : callN (progT con) progP (n + 1) 198 [.ref c] σ Q :=
  call_intro (d := ⟨1, 2, b_198, []⟩) rfl (Nat.le_refl 1) (Nat.le_refl 1) (sRet (EV.sub (EV.lenB (ev rfl hc F_257_0 rfl) hd) (ev rfl hc F_257_1 rfl)) ⟨_, Sub.refl _, h⟩)
theorem c_205 {n x : Nat} {tl : List Nat} (hx : x < 2 ^ 64) (hdr : data.drop a = vb x ++ tl) (h : Q (.int x) (upd σ c (cur data (a + (vb x).length)))) : callN (progT con) progP (n + 3) 205 [.ref c] σ Q := by
  refine call_intro (d := ⟨1, 4, b_205, []⟩) rfl (Nat.le_refl 1) (Nat.le_refl 1) ?_
  refine sAsg (ev rfl hc F_257_1 rfl) ?_
  have tst : ∀ {y : Nat} {b : Bool}, data[a]? = some y → a < data.length → decide (y < 128) = b → TB con (callN (progT con) progP (n + 2)) (.bop true [.cmp .lt (.var 1) (.bi .len [.attr (.var 0) 0]), .cmp .lt (.idx (.attr (.var 0) 0) (.var 1)) (.int 128)]) [some (.ref c), some (.int a), none, none] σ b := fun {y b} d1 d3 hb =>
    TB.and2 (TB.lt (EV.var rfl) (EV.lenB (ev rfl hc F_257_0 rfl) hd) (i_lt d3)) (TB.lt (EV.idxB (ev rfl hc F_257_0 rfl) (EV.var rfl) hd d1) EV.nat (by rw [← hb]; exact decide_eq_decide.mpr Int.ofNat_lt))
  by_cases hn : x < 128
  · rw [vb_small hn] at h hdr
    obtain ⟨d1, d2, d3⟩ := at_of_drop (r := tl) hdr
    refine sIte true (tst d1 d3 (decide_eq_true hn)) ?_
    refine sFld (EV.add (EV.var rfl) EV.int) rfl hc F_257_1 (Nat.le_of_ble_eq_true rfl) ?_
    exact sRet (EV.idxB (ev rfl (upd_at ..) F_257_0 rfl) (EV.var rfl) hd d1) ⟨_, Sub.refl _, h⟩
  · have hdr2 := hdr
    rw [vb_big hn] at hdr2
    obtain ⟨d1, d2, d3⟩ := at_of_drop (r := vb (x / 128) ++ tl) hdr2
    refine sIte false (tst d1 d3 (decide_eq_false (Nat.not_lt.mpr (Nat.le_add_left ..)))) ?_
    refine sAsgTE (eCall2 (ev rfl hc F_257_0 rfl) (EV.var rfl) (c_134 hd hdr hx (TupP.mk rfl ?_)))
    refine sFld (EV.var rfl) rfl hc F_257_1 (Nat.le_of_ble_eq_true rfl) ?_
    exact sRet (EV.var rfl) ⟨_, Sub.refl _, h⟩
theorem c_226 {n : Nat} {x tl : List Nat} (hx : x.length < 2 ^ 32) (ha : a ≤ data.length) (hdr : data.drop a = vb x.length ++ (x ++ tl)) (h : Q (.bytes x) (upd σ c (cur data (a + (vb x.length ++ x).length)))) : callN (progT con) progP (n + 4) 226 [.ref c] σ Q := by
  refine call_intro (d := ⟨1, 4, b_226, []⟩) rfl (Nat.le_refl 1) (Nat.le_refl 1) ?_
  refine sAsgTE (eCall2 (ev rfl hc F_257_0 rfl) (ev rfl hc F_257_1 rfl) (c_176 hd hx ha hdr (TupP.mk rfl ?_)))
  refine sFld (EV.var rfl) rfl hc F_257_1 (Nat.le_of_ble_eq_true rfl) ?_
  exact sRet (EV.var rfl) ⟨_, Sub.refl _, h⟩
theorem c_233 {n x : Nat} {tl : List Nat} (hdr : data.drop a = x :: tl) (h : Q (.int x) (upd σ c (cur data (a + 1)))) : callN (progT con) progP (n + 1) 233 [.ref c] σ Q := by
  obtain ⟨d1, d2, d3⟩ := at_of_drop hdr
  refine call_intro (d := ⟨1, 3, b_233, []⟩) rfl (Nat.le_refl 1) (Nat.le_refl 1) ?_
  refine sIte false (TB.ge (ev rfl hc F_257_1 rfl) (EV.lenB (ev rfl hc F_257_0 rfl) hd) (i_nge d3)) ?_
  refine sAsg (EV.idxB (ev rfl hc F_257_0 rfl) (ev rfl hc F_257_1 rfl) hd d1) ?_
  refine sAddA rfl hc F_257_1 rfl (Nat.le_of_ble_eq_true rfl) EV.int ?_
  exact sRet (EV.var rfl) ⟨_, Sub.refl _, h⟩
theorem c_240 {n : Nat} {t : Bool} {tl : List Nat} (hdr : data.drop a = (if t then 1 else 0) :: tl) (h : Q (.bool t) (upd σ c (cur data (a + 1)))) : callN (progT con) progP (n + 1) 240 [.ref c] σ Q := by
  obtain ⟨d1, d2, d3⟩ := at_of_drop hdr
  refine call_intro (d := ⟨1, 3, b_240, []⟩) rfl (Nat.le_refl 1) (Nat.le_refl 1) ?_
  refine sIte false (TB.ge (ev rfl hc F_257_1 rfl) (EV.lenB (ev rfl hc F_257_0 rfl) hd) (i_nge d3)) ?_
  refine sAsg (EV.idxB (ev rfl hc F_257_0 rfl) (ev rfl hc F_257_1 rfl) hd d1) ?_
  refine sIte false (TB.gt (EV.var rfl) EV.int (by induction t using Bool.casesOn <;> rfl)) ?_
  refine sAddA rfl hc F_257_1 rfl (Nat.le_of_ble_eq_true rfl) EV.int ?_
  refine sRet (EV.eqI (EV.var rfl) EV.int) ⟨_, Sub.refl _, ?_⟩
  induction t using Bool.casesOn <;> exact h
theorem c_254 {n : Nat} (ha : data.length ≤ a) (h : Q .none σ) : callN (progT con) progP (n + 1) 254 [.ref c] σ Q :=
  call_intro (d := ⟨1, 2, b_254, []⟩) rfl (Nat.le_refl 1) (Nat.le_refl 1) (sIte false (TB.lt (ev rfl hc F_257_1 rfl) (EV.lenB (ev rfl hc F_257_0 rfl) hd) (i_nlt ha)) ⟨_, Sub.refl _, h⟩)
end
end Mine
end
section
set_option tactic.hygienic false
set_option backward.match.sparseCases false
set_option maxRecDepth 10000
set_option linter.all false
namespace Mine
variable {con : Nat → Option (List V)} {C : Calls} {σ : Hp} {Q : K2} {n : Nat} {ρ : Rho} {ss : List S} {k : Nat}
/-! ## steps with a sink -/
noncomputable def SK (σ : Hp) (s p : Nat) (b : List Nat) : Hp := upd (upd σ s (snk p)) p (.barr b)
structure New2 (σ : Hp) (s p : Nat) : Prop where
  fs : σ s = none
  fp : σ p = none
  ne : s ≠ p
section
variable {s p : Nat} {b : List Nat} (F : New2 σ s p)
include F
theorem SK_s : SK σ s p b s = some (snk p) := by unfold SK; rw [upd_ne _ _ F.ne, upd_at]
theorem SK_p : SK σ s p b p = some (.barr b) := by unfold SK; rw [upd_at]
theorem SK_put {b' : List Nat} : upd (SK σ s p b) p (.barr b') = SK σ s p b' := by unfold SK; rw [upd_upd]
theorem SK_sub : Sub σ (SK σ s p b) := Sub.put (Sub.put (Sub.refl _) F.fs) F.fp
theorem SK_old {a : Nat} {o : AObj} (h : σ a = some o) : SK σ s p b a = some o := SK_sub F _ _ h
theorem k42 {x : Nat} {e : E} (hk : ρ.get k = some (.ref s)) (he : ∀ Q : K1, Q (.int x) (SK σ s p b) → wpE (progT con) (callN (progT con) progP (n + 3)) e ρ (SK σ s p b) Q) (hx : x < 2 ^ 64) (hl : b.length + 10 ≤ lim)
    (h : wpSs (progT con) (callN (progT con) progP (n + 3)) ss ρ (SK σ s p (b ++ vb x)) Q) : wpSs (progT con) (callN (progT con) progP (n + 3)) (.ex (.meth (.var k) 42 [e]) :: ss) ρ (SK σ s p b) Q :=
  sMeth1 hk (SK_s F) M_334_42 rfl he (c_282 (SK_s F) (SK_p F) hx hl (by rw [SK_put F]; exact h))
theorem k43 {x : Nat} {e : E} (hk : ρ.get k = some (.ref s)) (he : ∀ Q : K1, Q (.int x) (SK σ s p b) → wpE (progT con) (callN (progT con) progP (n + 2)) e ρ (SK σ s p b) Q) (hx : x < 2 ^ 32) (hl : b.length + 10 ≤ lim)
    (h : wpSs (progT con) (callN (progT con) progP (n + 2)) ss ρ (SK σ s p (b ++ f32 x)) Q) : wpSs (progT con) (callN (progT con) progP (n + 2)) (.ex (.meth (.var k) 43 [e]) :: ss) ρ (SK σ s p b) Q :=
  sMeth1 hk (SK_s F) M_334_43 rfl he (c_289 (SK_s F) (SK_p F) hx hl (by rw [SK_put F]; exact h))
theorem k44 {x : List Nat} {e : E} (hk : ρ.get k = some (.ref s)) (he : ∀ Q : K1, Q (.bytes x) (SK σ s p b) → wpE (progT con) (callN (progT con) progP (n + 3)) e ρ (SK σ s p b) Q) (hl : b.length + x.length + 10 ≤ lim)
    (h : wpSs (progT con) (callN (progT con) progP (n + 3)) ss ρ (SK σ s p (b ++ (vb x.length ++ x))) Q) : wpSs (progT con) (callN (progT con) progP (n + 3)) (.ex (.meth (.var k) 44 [e]) :: ss) ρ (SK σ s p b) Q :=
  sMeth1 hk (SK_s F) M_334_44 rfl he (c_303 (SK_s F) (SK_p F) hl (by rw [SK_put F]; exact h))
theorem k45 {x : Nat} {e : E} (hk : ρ.get k = some (.ref s)) (he : ∀ Q : K1, Q (.int x) (SK σ s p b) → wpE (progT con) (callN (progT con) progP (n + 1)) e ρ (SK σ s p b) Q) (hx : x < 256) (hl : b.length + 10 ≤ lim)
    (h : wpSs (progT con) (callN (progT con) progP (n + 1)) ss ρ (SK σ s p (b ++ [x])) Q) : wpSs (progT con) (callN (progT con) progP (n + 1)) (.ex (.meth (.var k) 45 [e]) :: ss) ρ (SK σ s p b) Q :=
  sMeth1 hk (SK_s F) M_334_45 rfl he (c_310 (SK_s F) (SK_p F) hx hl (by rw [SK_put F]; exact h))
theorem k46 {t : Bool} {e : E} (hk : ρ.get k = some (.ref s)) (he : ∀ Q : K1, Q (.bool t) (SK σ s p b) → wpE (progT con) (callN (progT con) progP (n + 1)) e ρ (SK σ s p b) Q) (hl : b.length + 10 ≤ lim)
    (h : wpSs (progT con) (callN (progT con) progP (n + 1)) ss ρ (SK σ s p (b ++ [if t then 1 else 0])) Q) : wpSs (progT con) (callN (progT con) progP (n + 1)) (.ex (.meth (.var k) 46 [e]) :: ss) ρ (SK σ s p b) Q :=
  sMeth1 hk (SK_s F) M_334_46 rfl he (c_317 (SK_s F) (SK_p F) hl (by rw [SK_put F]; exact h))
/-! with a bound that is a numeral -/
theorem j42 {x N : Nat} {e : E} (hb : b.length ≤ N) (hk : ρ.get k = some (.ref s)) (he : EV con (callN (progT con) progP (n + 3)) e ρ (SK σ s p b) (.int x)) (hx : x < 2 ^ 64) (hN : N + 10 ≤ 900000)
    (h : (b ++ vb x).length ≤ N + 10 → wpSs (progT con) (callN (progT con) progP (n + 3)) ss ρ (SK σ s p (b ++ vb x)) Q) : wpSs (progT con) (callN (progT con) progP (n + 3)) (.ex (.meth (.var k) 42 [e]) :: ss) ρ (SK σ s p b) Q :=
  k42 F hk he hx (by unfold lim; lia) (h (by have := vb_len10 hx; rw [List.length_append]; lia))
theorem j43 {x N : Nat} {e : E} (hb : b.length ≤ N) (hk : ρ.get k = some (.ref s)) (he : EV con (callN (progT con) progP (n + 2)) e ρ (SK σ s p b) (.int x)) (hx : x < 2 ^ 32) (hN : N + 10 ≤ 900000)
    (h : (b ++ f32 x).length ≤ N + 10 → wpSs (progT con) (callN (progT con) progP (n + 2)) ss ρ (SK σ s p (b ++ f32 x)) Q) : wpSs (progT con) (callN (progT con) progP (n + 2)) (.ex (.meth (.var k) 43 [e]) :: ss) ρ (SK σ s p b) Q :=
  k43 F hk he hx (by unfold lim; lia) (h (by have : (f32 x).length = 4 := rfl; rw [List.length_append]; lia))
theorem j44 {x : List Nat} {N M : Nat} {e : E} (hb : b.length ≤ N) (hk : ρ.get k = some (.ref s)) (he : EV con (callN (progT con) progP (n + 3)) e ρ (SK σ s p b) (.bytes x)) (hx : x.length ≤ M) (hN : N + M + 10 ≤ 900000)
    (h : (b ++ (vb x.length ++ x)).length ≤ N + M + 10 → wpSs (progT con) (callN (progT con) progP (n + 3)) ss ρ (SK σ s p (b ++ (vb x.length ++ x))) Q) : wpSs (progT con) (callN (progT con) progP (n + 3)) (.ex (.meth (.var k) 44 [e]) :: ss) ρ (SK σ s p b) Q :=
  k44 F hk he (by unfold lim; lia) (h (by have := vb_len5 (n := x.length) (by lia); rw [List.length_append, List.length_append]; lia))
theorem j45 {x N : Nat} {e : E} (hb : b.length ≤ N) (hk : ρ.get k = some (.ref s)) (he : EV con (callN (progT con) progP (n + 1)) e ρ (SK σ s p b) (.int x)) (hx : x < 256) (hN : N + 10 ≤ 900000)
    (h : (b ++ [x]).length ≤ N + 10 → wpSs (progT con) (callN (progT con) progP (n + 1)) ss ρ (SK σ s p (b ++ [x])) Q) : wpSs (progT con) (callN (progT con) progP (n + 1)) (.ex (.meth (.var k) 45 [e]) :: ss) ρ (SK σ s p b) Q :=
  k45 F hk he hx (by unfold lim; lia) (h (by rw [List.length_append, List.length_singleton]; lia))
theorem j46 {t : Bool} {N : Nat} {e : E} (hb : b.length ≤ N) (hk : ρ.get k = some (.ref s)) (he : EV con (callN (progT con) progP (n + 1)) e ρ (SK σ s p b) (.bool t)) (hN : N + 10 ≤ 900000)
    (h : (b ++ [if t then 1 else 0]).length ≤ N + 10 → wpSs (progT con) (callN (progT con) progP (n + 1)) ss ρ (SK σ s p (b ++ [if t then 1 else 0])) Q) : wpSs (progT con) (callN (progT con) progP (n + 1)) (.ex (.meth (.var k) 46 [e]) :: ss) ρ (SK σ s p b) Q :=
  k46 F hk he (by unfold lim; lia) (h (by rw [List.length_append, List.length_singleton]; lia))
theorem j47 {N : Nat} {Q : K2} (hb : b.length ≤ N) (hk : ρ.get k = some (.ref s)) (hN : N ≤ 900000) (h : Q (.ret (.bytes b)) ρ (SK σ s p b)) : wpSs (progT con) (callN (progT con) progP (n + 1)) [.ret (.meth (.var k) 47 [])] ρ (SK σ s p b) Q :=
  sRetE (eMeth0 (EV.var hk) (SK_s F) M_334_47 rfl (c_331 (SK_s F) (SK_p F) (by unfold lim; lia) h))
end
/-- x = Sink() -/
theorem kNew {y : Nat} (h : ∀ s p, New2 σ s p → wpSs (progT con) (callN (progT con) progP (n + 1)) ss (ρ.set y (some (.ref s))) (SK σ s p []) Q) : wpSs (progT con) (callN (progT con) progP (n + 1)) (.asg y (.new 334 []) :: ss) ρ σ Q := by
  refine seq_step fun R hR => ?_
  refine us_asg (u_new (ul_nil (c_334 fun s p h1 h2 h3 => ?_)))
  rw [hR]; exact h s p ⟨h1, h2, h3⟩

/-! ## steps with a cursor -/
noncomputable def CK (σ : Hp) (c : Nat) (data : List Nat) (a : Nat) : Hp := upd σ c (cur data a)
structure At (data : List Nat) (a : Nat) (tl : List Nat) : Prop where
  fit : data.length ≤ lim
  le : a ≤ data.length
  rest : data.drop a = tl
theorem At.next {data : List Nat} {a : Nat} {u tl : List Nat} (h : At data a (u ++ tl)) : At data (a + u.length) tl := by
  obtain ⟨_, g, _⟩ := sec_drop h.rest
  have := congrArg List.length h.rest
  simp at this
  have := h.le
  exact ⟨h.fit, by lia, g⟩
section
variable {c : Nat} {data tl : List Nat} {a y : Nat} {Q : K2}
theorem CK_c : CK σ c data a c = some (cur data a) := upd_at ..
theorem CK_put {a' : Nat} : upd (CK σ c data a) c (cur data a') = CK σ c data a' := upd_upd ..
theorem CK_sub (hc : σ c = none) : Sub σ (CK σ c data a) := Sub.put (Sub.refl _) hc
/-- y = cursor.varint() -/
theorem d42 {x : Nat} (hk : ρ.get k = some (.ref c)) (A : At data a (vb x ++ tl)) (hx : x < 2 ^ 64)
    (h : At data (a + (vb x).length) tl → wpSs (progT con) (callN (progT con) progP (n + 3)) ss (ρ.set y (some (.int x))) (CK σ c data (a + (vb x).length)) Q) : wpSs (progT con) (callN (progT con) progP (n + 3)) (.asg y (.meth (.var k) 42 []) :: ss) ρ (CK σ c data a) Q :=
  sAsgE (eMeth0 (EV.var hk) CK_c M_257_42 rfl (c_205 CK_c A.fit hx A.rest (by rw [CK_put]; exact h A.next)))
/-- y = cursor.lengthed() -/
theorem d44 {x : List Nat} (hk : ρ.get k = some (.ref c)) (A : At data a ((vb x.length ++ x) ++ tl)) (hx : x.length < 2 ^ 32)
    (h : At data (a + (vb x.length ++ x).length) tl → wpSs (progT con) (callN (progT con) progP (n + 4)) ss (ρ.set y (some (.bytes x))) (CK σ c data (a + (vb x.length ++ x).length)) Q) : wpSs (progT con) (callN (progT con) progP (n + 4)) (.asg y (.meth (.var k) 44 []) :: ss) ρ (CK σ c data a) Q :=
  sAsgE (eMeth0 (EV.var hk) CK_c M_257_44 rfl (c_226 CK_c A.fit hx A.le (by rw [← List.append_assoc]; exact A.rest) (by rw [CK_put]; exact h A.next)))
/-- y = cursor.octet() -/
theorem d45 {x : Nat} (hk : ρ.get k = some (.ref c)) (A : At data a ([x] ++ tl))
    (h : At data (a + 1) tl → wpSs (progT con) (callN (progT con) progP (n + 1)) ss (ρ.set y (some (.int x))) (CK σ c data (a + 1)) Q) : wpSs (progT con) (callN (progT con) progP (n + 1)) (.asg y (.meth (.var k) 45 []) :: ss) ρ (CK σ c data a) Q :=
  sAsgE (eMeth0 (EV.var hk) CK_c M_257_45 rfl (c_233 CK_c A.fit A.rest (by rw [CK_put]; exact h A.next)))
/-- y = cursor.flag() -/
theorem d46 {t : Bool} (hk : ρ.get k = some (.ref c)) (A : At data a ([if t then 1 else 0] ++ tl))
    (h : At data (a + 1) tl → wpSs (progT con) (callN (progT con) progP (n + 1)) ss (ρ.set y (some (.bool t))) (CK σ c data (a + 1)) Q) : wpSs (progT con) (callN (progT con) progP (n + 1)) (.asg y (.meth (.var k) 46 []) :: ss) ρ (CK σ c data a) Q :=
  sAsgE (eMeth0 (EV.var hk) CK_c M_257_46 rfl (c_240 CK_c A.fit A.rest (by rw [CK_put]; exact h A.next)))
/-- cursor.done() -/
theorem d47 (hk : ρ.get k = some (.ref c)) (A : At data a []) (h : wpSs (progT con) (callN (progT con) progP (n + 1)) ss ρ (CK σ c data a) Q) : wpSs (progT con) (callN (progT con) progP (n + 1)) (.ex (.meth (.var k) 47 []) :: ss) ρ (CK σ c data a) Q :=
  sMeth0 hk CK_c M_257_47 rfl (c_254 CK_c A.fit (by have := congrArg List.length A.rest; simp at this; lia) h)
/-- y = Cursor(x) -/
theorem dNew {x : Nat} (hx : ρ.get x = some (.bytes data)) (hl : data.length ≤ lim) (h : ∀ c, σ c = none → At data 0 data → wpSs (progT con) (callN (progT con) progP (n + 1)) ss (ρ.set y (some (.ref c))) (CK σ c data 0) Q) : wpSs (progT con) (callN (progT con) progP (n + 1)) (.asg y (.new 257 [.var x]) :: ss) ρ σ Q := by
  refine seq_step fun R hR => ?_
  refine us_asg (u_new (ul_cons (u_var ⟨_, hx, ul_nil (c_257 hl fun c hc => ?_)⟩)))
  rw [hR]; exact h c hc ⟨hl, Nat.zero_le _, rfl⟩
end
end Mine
end
section
set_option tactic.hygienic false
set_option backward.match.sparseCases false
set_option maxRecDepth 10000
set_option linter.all false
namespace Mine
variable {con : Nat → Option (List V)} {C : Calls} {σ : Hp} {Q : K1} {n : Nat}
/-- octets or nothing -/
noncomputable def optV : Option (List Nat) → V
  | none => .none
  | some x => .bytes x
noncomputable def optB : Option (List Nat) → List Nat
  | none => [0]
  | some x => 1 :: (vb x.length ++ x)
noncomputable def optLen : Option (List Nat) → Nat
  | none => 0
  | some x => x.length
/-- put_maybe -/
theorem c_548 {s p : Nat} {b : List Nat} {x : Option (List Nat)} (F : New2 σ s p) (hl : b.length + optLen x + 30 ≤ lim) (h : Q .none (SK σ s p (b ++ optB x))) : callN (progT con) progP (n + 4) 548 [.ref s, optV x] (SK σ s p b) Q := by
  refine call_intro (d := ⟨2, 3, b_548, []⟩) rfl (Nat.le_refl 2) (Nat.le_refl 2) ?_
  induction x using Option.casesOn with
  | none =>
    have hl : b.length + 0 + 30 ≤ lim := hl
    refine k46 F (t := false) rfl (EV.isnt (EV.var rfl) rfl) (by lia) ?_
    exact sIte false (TB.isnt (EV.var rfl) rfl) ⟨_, Sub.refl _, h⟩
  | some x =>
    have hl : b.length + x.length + 30 ≤ lim := hl
    refine k46 F (t := true) rfl (EV.isnt (EV.var rfl) rfl) (by lia) ?_
    refine sIte true (TB.isnt (EV.var rfl) rfl) ?_
    refine k44 F (x := x) rfl (EV.var rfl) (by rw [List.length_append, List.length_singleton]; lia) ⟨_, Sub.refl _, ?_⟩
    rw [List.append_assoc]; exact h
/-- take_maybe -/
theorem c_555 {c a : Nat} {data tl : List Nat} {x : Option (List Nat)} (A : At data a (optB x ++ tl)) (hx : optLen x < 2 ^ 32) (h : At data (a + (optB x).length) tl → Q (optV x) (CK σ c data (a + (optB x).length))) : callN (progT con) progP (n + 5) 555 [.ref c] (CK σ c data a) Q := by
  refine call_intro (d := ⟨1, 2, b_555, []⟩) rfl (Nat.le_refl 1) (Nat.le_refl 1) ?_
  induction x using Option.casesOn with
  | none =>
    refine ite_stepH (σ' := CK σ c data (a + 1)) false (fun Q hq => eMethB CK_c M_257_46 rfl (c_240 (t := false) CK_c A.fit A.rest (by rw [CK_put]; exact hq))) ?_
    exact sRet EV.none ⟨_, Sub.refl _, h A.next⟩
  | some x =>
    have A1 : At data (a + 1) ((vb x.length ++ x) ++ tl) := At.next (u := [1]) A
    have hx' : x.length < 2 ^ 32 := hx
    refine ite_stepH (σ' := CK σ c data (a + 1)) true (fun Q hq => eMethB CK_c M_257_46 rfl (c_240 (t := true) CK_c A.fit A.rest (by rw [CK_put]; exact hq))) ?_
    refine sRetE (eMeth0 (EV.var rfl) CK_c M_257_44 rfl (c_226 CK_c A.fit hx' A1.le (by rw [← List.append_assoc]; exact A1.rest) ?_))
    rw [CK_put]
    have e : a + 1 + (vb x.length ++ x).length = a + (optB (some x)).length := by show _ = a + ((vb x.length ++ x).length + 1); lia
    rw [e]
    exact ⟨_, Sub.refl _, h A.next⟩
end Mine
end
section
set_option tactic.hygienic false
set_option backward.match.sparseCases false
set_option maxRecDepth 10000
set_option linter.all false
namespace Mine
variable {con : Nat → Option (List V)} {C : Calls} {σ : Hp} {Q : K1} {n : Nat}
/-! ## Command -/
structure Cmd where
  kind : Nat
  client : Nat
  number : Nat
  key : List Nat
  value : List Nat
  expect : Option (List Nat)
noncomputable def Cmd.fs (c : Cmd) : List (Nat × V) := [(21, .int c.kind), (22, .int c.client), (3, .int c.number), (23, .bytes c.key), (24, .bytes c.value), (25, optV c.expect)]
noncomputable def Cmd.row (c : Cmd) : List V := [.int c.kind, .int c.client, .int c.number, .bytes c.key, .bytes c.value, optV c.expect]
noncomputable def Cmd.octets (c : Cmd) : List Nat := vb c.kind ++ (vb c.client ++ (vb c.number ++ ((vb c.key.length ++ c.key) ++ ((vb c.value.length ++ c.value) ++ optB c.expect))))
structure Cmd.ok (c : Cmd) : Prop where
  kind : c.kind ≤ 6
  client : c.client < 2 ^ 64
  number : c.number < 2 ^ 64
  key : c.key.length ≤ 10000
  value : c.value.length ≤ 10000
  expect : optLen c.expect ≤ 10000
theorem c_520 {n : Nat} (c : Cmd) (h : ∀ r, σ r = none → Q (.ref r) (upd σ r (.inst 537 c.fs))) : newP (progT con) (callN (progT con) progP (n + 1)) 537 c.row σ Q := by
  show ∀ r, σ r = none → callN (progT con) progP (n + 1) 520 (.ref r :: c.row) (upd σ r (.inst 537 [])) fun v σ' => v = .none ∧ Q (.ref r) σ'
  intro r hr
  refine call_intro (d := ⟨7, 8, b_520, []⟩) rfl (Nat.le_refl 7) (Nat.le_refl 7) ?_
  exact initSeq (σ := σ) rfl [(21, 1), (22, 2), (3, 3), (23, 4), (24, 5), (25, 6)] c.row [] rfl rfl (Nat.le_of_ble_eq_true rfl) ⟨_, Sub.refl _, rfl, h r hr⟩
theorem c_527 {n r : Nat} (c : Cmd) (hr : σ r = some (.inst 537 c.fs)) (h : Q (.tup c.row) σ) : callN (progT con) progP (n + 1) 527 [.ref r] σ Q := by
  refine call_intro (d := ⟨1, 2, b_527, []⟩) rfl (Nat.le_refl 1) (Nat.le_refl 1) ?_
  exact sRetE (rowSeq rfl hr [21, 22, 3, 23, 24, 25] c.row rfl rfl _ ⟨Nat.le_of_ble_eq_true rfl, _, Sub.refl _, h⟩)
theorem optB_len {x : Option (List Nat)} (h : optLen x ≤ 100000) : (optB x).length ≤ optLen x + 10 := by
  induction x using Option.casesOn with
  | none => exact Nat.le_of_ble_eq_true rfl
  | some x =>
    have h : x.length ≤ 100000 := h
    have := vb_len5 (n := x.length) (by lia)
    show (vb x.length ++ x).length + 1 ≤ x.length + 10
    rw [List.length_append]; lia
theorem At.app0 {data x : List Nat} {a : Nat} (A : At data a x) : At data a (x ++ []) := by rw [List.append_nil]; exact A
theorem Cmd.len {c : Cmd} (ok : c.ok) : c.octets.length ≤ 30100 := by
  obtain ⟨o1, o2, o3, o4, o5, o6⟩ := ok
  have l1 := vb_len10 (n := c.kind) (by lia)
  have l2 := vb_len10 o2
  have l3 := vb_len10 o3
  have l4 := vb_len5 (n := c.key.length) (by lia)
  have l5 := vb_len5 (n := c.value.length) (by lia)
  have l6 := optB_len (x := c.expect) (by lia)
  simp only [Cmd.octets, List.length_append]; lia
theorem c_534 {n r : Nat} (c : Cmd) (ok : c.ok) (hr : σ r = some (.inst 537 c.fs)) (h : Q (.bytes c.octets) σ) : callN (progT con) progP (n + 5) 534 [.ref r] σ Q := by
  refine call_intro (d := ⟨1, 3, b_534, []⟩) rfl (Nat.le_refl 1) (Nat.le_refl 1) ?_
  obtain ⟨o1, o2, o3, o4, o5, o6⟩ := ok
  have l6 := optB_len (x := c.expect) (Nat.le_trans o6 (by decide))
  refine sIte false (TB.or2 (TB.lt (ev rfl hr rfl rfl) EV.int (i_neg _)) (TB.gt (ev rfl hr rfl rfl) (EV.nat (i := 6)) (i_ngt o1))) ?_
  refine kNew fun s p F => ?_
  refine tr_step ?_
  have at_ : ∀ b, SK σ s p b r = some (.inst 537 c.fs) := fun b => SK_old F hr
  refine j42 F (N := 0) (Nat.le_refl 0) rfl (ev rfl (at_ _) rfl rfl) (Nat.lt_of_le_of_lt o1 (by decide)) (by decide) fun hb => ?_
  refine j42 F hb rfl (ev rfl (at_ _) rfl rfl) o2 (by decide) fun hb => ?_
  refine j42 F hb rfl (ev rfl (at_ _) rfl rfl) o3 (by decide) fun hb => ?_
  refine j44 F hb rfl (ev rfl (at_ _) rfl rfl) o4 (by decide) fun hb => ?_
  refine j44 F hb rfl (ev rfl (at_ _) rfl rfl) o5 (by decide) fun hb => ?_
  refine sExE (eCall2 (EV.var rfl) (ev rfl (at_ _) rfl rfl) (c_548 F (Nat.le_trans (Nat.add_le_add_right (Nat.add_le_add hb o6) 30) (by decide)) ?_))
  refine j47 F (N := 60000) (by rw [List.length_append]; exact Nat.le_trans (Nat.add_le_add hb (Nat.le_trans l6 (Nat.add_le_add_right o6 10))) (by decide)) rfl (by decide) ⟨σ, SK_sub F, ?_⟩
  rw [List.nil_append, List.append_assoc, List.append_assoc, List.append_assoc, List.append_assoc]
  exact h
theorem c_562 {n : Nat} (c : Cmd) (ok : c.ok) (h : ∀ r, σ r = none → Q (.ref r) (upd σ r (.inst 537 c.fs))) : callN (progT con) progP (n + 6) 562 [.bytes c.octets] σ Q := by
  refine call_intro (d := ⟨1, 9, b_562, []⟩) rfl (Nat.le_refl 1) (Nat.le_refl 1) ?_
  have lo := Cmd.len ok
  obtain ⟨o1, o2, o3, o4, o5, o6⟩ := ok
  refine tr_step ?_
  refine dNew rfl (Nat.le_trans lo (by decide)) fun r hr A => ?_
  refine d42 (tl := vb c.client ++ (vb c.number ++ ((vb c.key.length ++ c.key) ++ ((vb c.value.length ++ c.value) ++ optB c.expect)))) rfl A (Nat.lt_of_le_of_lt o1 (by decide)) fun A => ?_
  refine d42 rfl A o2 fun A => ?_
  refine d42 rfl A o3 fun A => ?_
  refine d44 rfl A (Nat.lt_of_le_of_lt o4 (by decide)) fun A => ?_
  refine d44 rfl A (Nat.lt_of_le_of_lt o5 (by decide)) fun A => ?_
  refine sAsgE (eCall1 (EV.var rfl) (c_555 A.app0 (Nat.lt_of_le_of_lt o6 (by decide)) fun A => ?_))
  refine d47 rfl A ?_
  refine sIte false (TB.gt (EV.var rfl) (EV.nat (i := 6)) (i_ngt o1)) ?_
  refine sRetE (eNew (vs := c.row) ⟨EV.var rfl, EV.var rfl, EV.var rfl, EV.var rfl, EV.var rfl, EV.var rfl, rfl⟩ (c_520 c fun r' hr' => ?_))
  have hf : σ r' = none := (CK_sub hr).free hr'
  exact ⟨upd σ r' (.inst 537 c.fs), Sub.both (Sub.put (CK_sub hr) hf) (upd_at ..), h r' hf⟩
end Mine
end
section
set_option tactic.hygienic false
set_option backward.match.sparseCases false
set_option maxRecDepth 10000
set_option linter.all false
namespace Mine
variable {con : Nat → Option (List V)} {C : Calls} {σ : Hp} {Q : K1} {n : Nat}
/-- make_reply -/
theorem c_569 {code : Nat} {old : Option (List Nat)} (hc : code < 256) (ho : optLen old ≤ 10000) (h : Q (.bytes (code :: optB old)) σ) : callN (progT con) progP (n + 5) 569 [.int code, optV old] σ Q := by
  refine call_intro (d := ⟨2, 4, b_569, []⟩) rfl (Nat.le_refl 2) (Nat.le_refl 2) ?_
  have l6 := optB_len (x := old) (Nat.le_trans ho (by decide))
  refine kNew fun s p F => ?_
  refine j45 F (N := 0) (Nat.le_refl 0) rfl (EV.var rfl) hc (by decide) fun hb => ?_
  refine sExE (eCall2 (EV.var rfl) (EV.var rfl) (c_548 F (Nat.le_trans (Nat.add_le_add_right (Nat.add_le_add hb ho) 30) (by decide)) ?_))
  exact j47 F (N := 60000) (by rw [List.length_append]; exact Nat.le_trans (Nat.add_le_add hb (Nat.le_trans l6 (Nat.add_le_add_right ho 10))) (by decide)) rfl (by decide) ⟨σ, SK_sub F, h⟩
/-- read_reply -/
theorem c_576 {code : Nat} {old : Option (List Nat)} (hc : code ≤ 3) (ho : optLen old ≤ 10000) (h : Q (.tup [.int code, optV old]) σ) : callN (progT con) progP (n + 6) 576 [.bytes (code :: optB old)] σ Q := by
  refine call_intro (d := ⟨1, 5, b_576, []⟩) rfl (Nat.le_refl 1) (Nat.le_refl 1) ?_
  have l6 := optB_len (x := old) (Nat.le_trans ho (by decide))
  refine dNew rfl (Nat.le_trans (Nat.succ_le_succ (Nat.le_trans l6 (Nat.add_le_add_right ho 10))) (by decide)) fun r hr A => ?_
  refine d45 (tl := optB old) rfl A fun A => ?_
  refine sIte false (TB.gt (EV.var rfl) (EV.nat (i := 3)) (i_ngt hc)) ?_
  refine sAsgE (eCall1 (EV.var rfl) (c_555 A.app0 (Nat.lt_of_le_of_lt ho (by decide)) fun A => ?_))
  refine d47 rfl A ?_
  exact sRet (EV.tup2 (EV.var rfl) (EV.var rfl)) ⟨σ, CK_sub hr, h⟩
noncomputable def sesB (last : Nat) (t : Bool) (reply : List Nat) : List Nat := vb last ++ ([if t then 1 else 0] ++ (vb reply.length ++ reply))
/-- encode_session -/
theorem c_583 {last : Nat} {t : Bool} {reply : List Nat} (hl : last < 2 ^ 64) (hr : reply.length ≤ 100000) (h : Q (.bytes (sesB last t reply)) σ) : callN (progT con) progP (n + 5) 583 [.int last, .bool t, .bytes reply] σ Q := by
  refine call_intro (d := ⟨3, 5, b_583, []⟩) rfl (Nat.le_refl 3) (Nat.le_refl 3) ?_
  refine kNew fun s p F => ?_
  refine j42 F (N := 0) (Nat.le_refl 0) rfl (EV.var rfl) hl (by decide) fun hb => ?_
  refine j46 F hb rfl (EV.var rfl) (by decide) fun hb => ?_
  refine j44 F hb rfl (EV.var rfl) hr (by decide) fun hb => ?_
  refine j47 F hb rfl (by decide) ⟨σ, SK_sub F, ?_⟩
  rw [List.nil_append, List.append_assoc]
  exact h
/-- decode_session -/
theorem c_590 {last : Nat} {t : Bool} {reply : List Nat} (hl : last < 2 ^ 64) (hr : reply.length ≤ 100000) (h : Q (.tup [.int last, .bool t, .bytes reply]) σ) : callN (progT con) progP (n + 6) 590 [.bytes (sesB last t reply)] σ Q := by
  refine call_intro (d := ⟨1, 6, b_590, []⟩) rfl (Nat.le_refl 1) (Nat.le_refl 1) ?_
  have l1 := vb_len10 hl
  have l2 := vb_len5 (n := reply.length) (by lia)
  refine dNew rfl (by simp only [sesB, List.length_append, List.length_singleton]; unfold lim; lia) fun r hr' A => ?_
  refine d42 (tl := [if t then 1 else 0] ++ (vb reply.length ++ reply)) rfl A hl fun A => ?_
  refine d46 rfl A fun A => ?_
  refine d44 rfl A.app0 (Nat.lt_of_le_of_lt hr (by decide)) fun A => ?_
  refine d47 rfl A ?_
  refine sRetE (EVs.tup (vs := [.int last, .bool t, .bytes reply]) ?_ (Nat.le_of_ble_eq_true rfl) _ ⟨σ, CK_sub hr', h⟩)
  exact ⟨EV.var rfl, EV.var rfl, EV.var rfl, rfl⟩
end Mine
end
section
set_option tactic.hygienic false
set_option backward.match.sparseCases false
set_option maxRecDepth 10000
set_option linter.all false
namespace Mine
variable {con : Nat → Option (List V)} {C : Calls} {σ : Hp} {Q : K1} {n : Nat}
theorem TB.neq {a b : E} {ρ : Rho} {i j : Int} {t : Bool} (h : EV con C a ρ σ (.int i)) (h' : EV con C b ρ σ (.int j)) (ht : (!decide (i = j)) = t) : TB con C (.cmp .ne a b) ρ σ t := ht ▸ TB.ne h h' rfl
theorem keepNew {σ τ : Hp} (h : Sub σ τ) {r : Nat} {o : AObj} (hr : τ r = none) : Sub (upd σ r o) (upd τ r o) := Sub.both (Sub.put h (h.free hr)) (upd_at ..)
/-! ## Entry -/
structure Ent where
  term : Nat
  index : Nat
  kind : Nat
  data : List Nat
noncomputable def Ent.fs (e : Ent) : List (Nat × V) := [(18, .int e.term), (17, .int e.index), (21, .int e.kind), (0, .bytes e.data)]
noncomputable def Ent.row (e : Ent) : List V := [.int e.term, .int e.index, .int e.kind, .bytes e.data]
noncomputable def Ent.octets (e : Ent) : List Nat := vb e.term ++ (vb e.index ++ (vb e.kind ++ (vb e.data.length ++ e.data)))
structure Ent.ok (e : Ent) : Prop where
  term : e.term < 2 ^ 64
  index : e.index < 2 ^ 64
  kind : e.kind = 0 ∨ e.kind = 2
  data : e.data.length ≤ 10000
theorem Ent.octets_len {e : Ent} (ok : e.ok) : e.octets.length ≤ 10040 := by
  obtain ⟨o1, o2, o3, o4⟩ := ok
  have l1 := vb_len10 o1
  have l2 := vb_len10 o2
  have l3 := vb_len10 (n := e.kind) (by lia)
  have l4 := vb_len5 (n := e.data.length) (by lia)
  simp [Ent.octets]; lia
theorem c_618 {n : Nat} (e : Ent) (h : ∀ r, σ r = none → Q (.ref r) (upd σ r (.inst 649 e.fs))) : newP (progT con) (callN (progT con) progP (n + 1)) 649 e.row σ Q := by
  show ∀ r, σ r = none → callN (progT con) progP (n + 1) 618 (.ref r :: e.row) (upd σ r (.inst 649 [])) fun v σ' => v = .none ∧ Q (.ref r) σ'
  intro r hr
  refine call_intro (d := ⟨5, 6, b_618, []⟩) rfl (Nat.le_refl 5) (Nat.le_refl 5) ?_
  exact initSeq (σ := σ) rfl [(18, 1), (17, 2), (21, 3), (0, 4)] e.row [] rfl rfl (Nat.le_of_ble_eq_true rfl) ⟨_, Sub.refl _, rfl, h r hr⟩
theorem c_625 {n r : Nat} (e : Ent) (hr : σ r = some (.inst 649 e.fs)) (h : Q (.tup e.row) σ) : callN (progT con) progP (n + 1) 625 [.ref r] σ Q := by
  refine call_intro (d := ⟨1, 2, b_625, []⟩) rfl (Nat.le_refl 1) (Nat.le_refl 1) ?_
  exact sRetE (rowSeq rfl hr [18, 17, 21, 0] e.row rfl rfl _ ⟨Nat.le_of_ble_eq_true rfl, _, Sub.refl _, h⟩)
/-- encode_entry -/
theorem c_660 {n r : Nat} (e : Ent) (ok : e.ok) (hr : σ r = some (.inst 649 e.fs)) (h : Q (.bytes e.octets) σ) : callN (progT con) progP (n + 4) 660 [.ref r] σ Q := by
  refine call_intro (d := ⟨1, 3, b_660, []⟩) rfl (Nat.le_refl 1) (Nat.le_refl 1) ?_
  obtain ⟨o1, o2, o3, o4⟩ := ok
  refine kNew fun s p F => ?_
  have at_ : ∀ b, SK σ s p b r = some (.inst 649 e.fs) := fun b => SK_old F hr
  refine j42 F (N := 0) (Nat.le_refl 0) rfl (ev rfl (at_ _) rfl rfl) o1 (by decide) fun hb => ?_
  refine j42 F hb rfl (ev rfl (at_ _) rfl rfl) o2 (by decide) fun hb => ?_
  refine j42 F hb rfl (ev rfl (at_ _) rfl rfl) (by lia) (by decide) fun hb => ?_
  refine j44 F hb rfl (ev rfl (at_ _) rfl rfl) o4 (by decide) fun hb => ?_
  refine j47 F hb rfl (by decide) ⟨σ, SK_sub F, ?_⟩
  rw [List.nil_append, List.append_assoc, List.append_assoc]
  exact h
/-- decode_entry -/
theorem c_667 {n : Nat} (e : Ent) (ok : e.ok) (h : ∀ r, σ r = none → Q (.ref r) (upd σ r (.inst 649 e.fs))) : callN (progT con) progP (n + 5) 667 [.bytes e.octets] σ Q := by
  refine call_intro (d := ⟨1, 7, b_667, []⟩) rfl (Nat.le_refl 1) (Nat.le_refl 1) ?_
  have lo := Ent.octets_len ok
  obtain ⟨o1, o2, o3, o4⟩ := ok
  refine dNew rfl (Nat.le_trans lo (by decide)) fun c hc A => ?_
  refine d42 (tl := vb e.index ++ (vb e.kind ++ (vb e.data.length ++ e.data))) rfl A o1 fun A => ?_
  refine d42 rfl A o2 fun A => ?_
  refine d42 rfl A (by lia) fun A => ?_
  refine sIte false (by
    rcases o3 with o3 | o3 <;> rw [o3]
    · exact TB.and0 (TB.neq (EV.var rfl) EV.int rfl)
    · exact TB.and2 (TB.neq (EV.var rfl) EV.int rfl) (TB.neq (EV.var rfl) EV.int rfl)) ?_
  refine d44 rfl A.app0 (Nat.lt_of_le_of_lt o4 (by decide)) fun A => ?_
  refine d47 rfl A ?_
  exact sRetE (eNew (vs := e.row) ⟨EV.var rfl, EV.var rfl, EV.var rfl, EV.var rfl, rfl⟩ (c_618 e fun r hr => ⟨_, keepNew (CK_sub hc) hr, h r ((CK_sub hc).free hr)⟩))
end Mine
end
section
set_option tactic.hygienic false
set_option backward.match.sparseCases false
set_option maxRecDepth 10000
set_option linter.all false
namespace Mine
variable {con : Nat → Option (List V)} {C : Calls} {σ : Hp} {ρ : Rho} {ss : List S} {Q : K2} {G : K1}
theorem EV.meth0 {e : E} {m r cl f : Nat} {fs : List (Nat × V)} {v : V} (he : EV con C e ρ σ (.ref r)) (hr : σ r = some (.inst cl fs)) (h2 : (progT con).meth cl m = some f) (h3 : getF m fs = Option.none) (g : ∀ Q : K1, Q v σ → C f [.ref r] σ Q) : EV con C (.meth e m []) ρ σ v := fun _ hq => eMeth0 he hr h2 h3 (g _ hq)
theorem EV.tupL {e : E} {r : Nat} {vs : List V} (he : EV con C e ρ σ (.ref r)) (hr : σ r = some (.lst vs)) (hl : vs.length ≤ lim) : EV con C (.bi .tuple [e]) ρ σ (.tup vs) := fun Q hq => he _ (by
  show biP .tuple [.ref r] σ Q
  rw [L28, hr]
  exact ⟨hl, hq⟩)
theorem EV.last {e : E} {r : Nat} {vs : List V} {v : V} (he : EV con C e ρ σ (.ref r)) (hr : σ r = some (.lst vs)) (hl : vs.length ≤ lim) (hv : vs.getLast? = some v) : EV con C (.idx e (.int (-1))) ρ σ v := fun Q hq => he _ (by
  show idxP (.ref r) (.int (-1)) σ fun v => Q v σ
  rw [L15, hr]
  exact ⟨hl, Or.inr ⟨rfl, v, hv, hq⟩⟩)
theorem TB.nott {e : E} {t u : Bool} (h : TB con C e ρ σ t) (ht : (!t) = u) : TB con C (.not e) ρ σ u := fun Q hq => h _ (by rw [ht]; exact hq)
theorem TB.lst {x r : Nat} {vs : List V} {t : Bool} (h : ρ.get x = some (.ref r)) (hr : σ r = some (.lst vs)) (hl : vs.length ≤ lim) (ht : (!vs.isEmpty) = t) : TB con C (.var x) ρ σ t := ht ▸ TB.varL h hr hl
theorem sPushL {k r : Nat} {vs : List V} {v : V} {e : E} (hk : ρ.get k = some (.ref r)) (hr : σ r = some (.lst vs)) (he : EV con C e ρ σ v) (hl : vs.length < lim) (g : wpSs (progT con) C ss ρ (upd σ r (.lst (vs ++ [v]))) Q) : wpSs (progT con) C (.ex (.meth (.var k) 50 [e]) :: ss) ρ σ Q :=
  ⟨_, hk, 0, kL hr rfl, he _ ⟨kL hr rfl, by rw [L32, hr]; exact ⟨rfl, hl, g⟩⟩⟩
theorem sList0 {y : Nat} (h : ∀ r, σ r = none → wpSs (progT con) C ss (ρ.set y (some (.ref r))) (upd σ r (.lst [])) Q) : wpSs (progT con) C (.asg y (.list []) :: ss) ρ σ Q := sAsgE ⟨Nat.zero_le _, h⟩
theorem sFldU {e : E} {v : V} {j f r cl : Nat} {fs : List (Nat × V)} (h : EV con C e ρ (upd σ r (.inst cl fs)) v) (hj : ρ.get j = some (.ref r)) (hf : (progT con).fld cl f = true) (hl : fs.length ≤ 100) (g : wpSs (progT con) C ss ρ (upd σ r (.inst cl (setF f v fs))) Q) : wpSs (progT con) C (.asgA (.var j) f e :: ss) ρ (upd σ r (.inst cl fs)) Q :=
  sFld h hj (upd_at ..) hf hl (by rw [upd_upd]; exact g)
/-- o.f = [] -/
theorem sFldN {j f r cl : Nat} {fs : List (Nat × V)} (hj : ρ.get j = some (.ref r)) (hf : (progT con).fld cl f = true) (hl : fs.length ≤ 100) (g : ∀ L, σ L = none → r ≠ L → wpSs (progT con) C ss ρ (upd (upd σ L (.lst [])) r (.inst cl (setF f (.ref L) fs))) Q) : wpSs (progT con) C (.asgA (.var j) f (.list []) :: ss) ρ (upd σ r (.inst cl fs)) Q :=
  sAsgAE ⟨Nat.zero_le _, fun L hL => ⟨_, hj, by
    have hne : r ≠ L := fun e => by subst e; rw [upd_at] at hL; cases hL
    rw [upd_ne _ _ hne.symm] at hL
    simp only
    rw [upd_ne _ _ hne, upd_at]
    refine ⟨hf, hl, ?_⟩
    rw [upd_comm _ _ _ hne, upd_upd]
    exact g L hL hne⟩⟩
theorem eCallE1 {f : Nat} {e : E} (h : wpE (progT con) C e ρ σ fun v σ' => C f [v] σ' G) : wpE (progT con) C (.call f [e]) ρ σ G := h
theorem eBi1 {b : Bi} {e : E} {v : V} (he : EV con C e ρ σ v) (g : biP b [v] σ G) : wpE (progT con) C (.bi b [e]) ρ σ G := he _ g
theorem eBiE1 {b : Bi} {e : E} (h : wpE (progT con) C e ρ σ fun v σ' => biP b [v] σ' G) : wpE (progT con) C (.bi b [e]) ρ σ G := h
noncomputable def Fin2 (R : Rho → Hp → Prop) (Q : K2) : K2
  | .next, ρ, σ => R ρ σ
  | .ret r, ρ, σ => Q (.ret r) ρ σ
noncomputable def ForP (con : Nat → Option (List V)) (C : Calls) (x : Nat) (b : List S) (ρ : Rho) (K : K2) : K1 := fun s σ => ∃ all, itemsOf σ s = some all ∧ all.length ≤ lim ∧ forLoop s all (fun v ρ σ Q => wpSs (progT con) C b (ρ.set x (some v)) σ Q) all ρ σ K
theorem sForE {x : Nat} {e : E} {b : List S} (h : ∀ R : Rho → Hp → Prop, (∀ ρ σ, R ρ σ = wpSs (progT con) C ss ρ σ Q) → wpE (progT con) C e ρ σ (ForP con C x b ρ (Fin2 R Q))) : wpSs (progT con) C (.for1 x e b :: ss) ρ σ Q := seq_step fun R hR => by
  have g := h R hR
  have e : Fin2 R Q = fun f ρ σ => match f with
    | .next => R ρ σ
    | .ret r => Q (.ret r) ρ σ := by
    funext f ρ σ
    induction f using Mine.Fl.casesOn <;> rfl
  rw [e] at g
  exact g
theorem sFor {x : Nat} {e : E} {b : List S} {src : V} {all : List V} (he : EV con C e ρ σ src) (hi : itemsOf σ src = some all) (hl : all.length ≤ lim) (h : ∀ R : Rho → Hp → Prop, (∀ ρ σ, R ρ σ = wpSs (progT con) C ss ρ σ Q) → forLoop src all (fun v ρ σ Q => wpSs (progT con) C b (ρ.set x (some v)) σ Q) all ρ σ (Fin2 R Q)) : wpSs (progT con) C (.for1 x e b :: ss) ρ σ Q := sForE fun R hR => he _ ⟨all, hi, hl, h R hR⟩
noncomputable def CompP (con : Nat → Option (List V)) (C : Calls) (x : Nat) (elt : E) (ifs : List E) (ρ : Rho) (K : List V → Hp → Prop) : K1 := fun s σ => ∃ all, itemsOf σ s = some all ∧ all.length ≤ lim ∧ compLoop s all (fun v σ Q => wpA (progT con) C ifs (ρ.set x (some v)) σ Q) (fun v σ Q => wpE (progT con) C elt (ρ.set x (some v)) σ Q) all [] σ K
theorem eComp {x : Nat} {elt it : E} {ifs : List E} (h : wpE (progT con) C it ρ σ (CompP con C x elt ifs ρ fun vs σ => ∀ r, σ r = none → G (.ref r) (upd σ r (.lst vs)))) : wpE (progT con) C (.comp elt x it ifs) ρ σ G := h
theorem itemsL {r : Nat} {vs : List V} (h : σ r = some (.lst vs)) : itemsOf σ (.ref r) = some vs := by simp [itemsOf, h]
end Mine
end
section
set_option tactic.hygienic false
set_option backward.match.sparseCases false
set_option maxRecDepth 10000
set_option linter.all false
namespace Mine
variable {con : Nat → Option (List V)} {C : Calls} {σ : Hp} {Q : K1} {n : Nat}
noncomputable def natsV (l : List Nat) : List V := l.map fun (i : Nat) => V.int (i : Int)
theorem natsV_len (l : List Nat) : (natsV l).length = l.length := by simp [natsV]
theorem natsV_app (a b : List Nat) : natsV (a ++ b) = natsV a ++ natsV b := by simp [natsV]
theorem allInts_nats : ∀ l : List Nat, allInts (natsV l) = some (l.map fun (i : Nat) => (i : Int))
  | [] => rfl
  | a :: l => by
    show (allInts (natsV l)).map _ = _
    rw [allInts_nats l]; rfl
theorem sortI_nats {l : List Nat} (h : l.Pairwise (· < ·)) : (sortI (l.map fun (i : Nat) => (i : Int))).map V.int = natsV l := by
  unfold sortI
  rw [List.mergeSort_of_pairwise]
  · simp [natsV, List.map_map, Function.comp_def]
  · rw [List.pairwise_map]
    exact h.imp fun h => by simp; lia
theorem last_nats (acc : List Nat) (a : Nat) : (natsV (acc ++ [a])).getLast? = some (.int a) := by rw [natsV_app]; simp [natsV]
theorem nats_ne (acc : List Nat) (a : Nat) : (!(natsV (acc ++ [a])).isEmpty) = true := by rw [natsV_app]; cases natsV acc <;> rfl
theorem ri_loop {r q : Nat} {ids : List Nat} (hqr : q ≠ r) : ∀ (rest acc : List Nat) (o2 : Option V) (x : Option V) (σ : Hp) (Q : K2), acc ++ rest = ids → ids.Pairwise (· < ·) → ids.length < 64 → σ r = some (.lst (natsV acc)) → σ q = some (.lst (natsV ids)) →
    (∀ ρ', ρ'[1]? = some (some (.ref r)) → Q .next ρ' (upd σ r (.lst (natsV ids)))) →
    forLoop (.ref q) (natsV ids) (fun v ρ σ Q => wpSs (progT con) C [.ite (.bop false [.not (.var 1), .cmp .ne (.idx (.var 1) (.int (-1))) (.var 2)]) [.ex (.meth (.var 1) 50 [.var 2])] []] (ρ.set 2 (some v)) σ Q) (natsV rest) [x, some (.ref r), o2, none] σ Q := by
  intro rest
  induction rest with
  | nil =>
    intro acc o2 x σ Q ha hp hl hr hq hQ
    refine for_end (by simp [itemsOf, hq]) ?_
    rw [List.append_nil] at ha
    subst ha
    have := hQ [x, some (.ref r), o2, none] rfl
    rwa [upd_same hr] at this
  | cons i rest ih =>
    intro acc o2 x σ Q ha hp hl hr hq hQ
    have hlen : acc.length ≤ lim := by
      have := congrArg List.length ha
      simp at this; unfold lim; lia
    refine for_turn (by simp [itemsOf, hq]) fun R hR => ?_
    have nx := ih (acc ++ [i]) (some (.int i)) x (upd σ r (.lst (natsV (acc ++ [i])))) Q (by rw [List.append_assoc]; exact ha) hp hl (upd_at ..) (by rw [upd_ne _ _ hqr]; exact hq) (fun ρ' h => by rw [upd_upd]; exact hQ ρ' h)
    have key : R [x, some (.ref r), some (.int i), none] (upd σ r (.lst (natsV acc ++ [.int i]))) := by
      rw [hR]
      rw [natsV_app] at nx
      exact nx
    have hlt : acc.length < lim := by
      have := congrArg List.length ha
      simp at this; unfold lim; lia
    rcases List.eq_nil_or_concat acc with rfl | ⟨acc', a, rfl⟩
    · exact sIte true (TB.or0 (TB.nott (TB.lst rfl hr (Nat.zero_le _) rfl) rfl)) (sPushL rfl hr (EV.var rfl) (Nat.le_of_ble_eq_true rfl) ⟨_, Sub.refl _, key⟩)
    · simp only [List.concat_eq_append] at hp ha hr hlen nx key hlt
      have hne : ¬ (a : Int) = (i : Int) := by
        have : a < i := by
          rw [← ha, List.append_assoc] at hp
          have := (List.pairwise_append.mp hp).2.1
          simp at this
          exact this.1.1
        lia
      have hl2 : (natsV (acc' ++ [a])).length ≤ lim := by rw [natsV_len]; exact hlen
      have hl3 : (natsV (acc' ++ [a])).length < lim := by rw [natsV_len]; exact hlt
      exact sIte true (TB.or2 (TB.nott (TB.lst rfl hr hl2 (nats_ne acc' a)) rfl) (TB.neq (EV.last (EV.var rfl) hr hl2 (last_nats acc' a)) (EV.var rfl) (by rw [decide_eq_false hne]; rfl))) (sPushL rfl hr (EV.var rfl) hl3 ⟨_, Sub.refl _, key⟩)
/-- rising -/
theorem c_597 {x : Nat} {ids : List Nat} (hx : σ x = some (.lst (natsV ids))) (hp : ids.Pairwise (· < ·)) (hl : ids.length < 64) (h : ∀ r, σ r = none → Q (.ref r) (upd σ r (.lst (natsV ids)))) : callN (progT con) progP (n + 1) 597 [.ref x] σ Q := by
  refine call_intro (d := ⟨1, 4, b_597, []⟩) rfl (Nat.le_refl 1) (Nat.le_refl 1) ?_
  refine sList0 fun r hr => ?_
  have hxr : x ≠ r := ne_of_free hx hr
  refine sForE fun R hR => eBi1 (EV.var rfl) ?_
  rw [L29, upd_ne _ _ hxr, hx]
  refine ⟨by rw [natsV_len]; exact hl, _, allInts_nats ids, fun q hq => ?_⟩
  have hqr : q ≠ r := fun e => by subst e; rw [upd_at] at hq; cases hq
  have hq0 : σ q = none := by rwa [upd_ne _ _ hqr] at hq
  rw [sortI_nats hp]
  refine ⟨natsV ids, itemsL (upd_at ..), by rw [natsV_len]; exact Nat.le_trans (Nat.le_of_lt hl) (Nat.le_of_ble_eq_true rfl), ?_⟩
  refine ri_loop (r := r) (q := q) hqr ids [] none (some (.ref x)) _ _ rfl hp hl (by rw [upd_ne _ _ hqr.symm, upd_at]; rfl) (upd_at ..) fun ρ' h1 => ?_
  show R _ _
  rw [hR]; clear hR R
  refine sRet (EV.var (by unfold Rho.get; rw [h1])) ⟨upd σ r (.lst (natsV ids)), ?_, h r hr⟩
  exact Sub.both (Sub.put (Sub.put (Sub.put (Sub.refl _) hr) hq0) hr) (upd_at ..)
/-! ## ids -/
noncomputable def idsB (ids : List Nat) : List Nat := vb ids.length ++ (ids.map vb).flatten
theorem put_loop {s p k : Nat} {b : List Nat} {src : V} {all : List V} {Q : K2} {ρ : Rho} : ∀ (rest : List Nat) (b : List Nat) (o : Option V), New2 σ s p → (∀ b, itemsOf (SK σ s p b) src = some all) → (∀ i ∈ rest, i < 2 ^ 64) → b.length + 10 * rest.length + 10 ≤ lim →
    (∀ o, Q .next [some (.ref s), some src, o, none] (SK σ s p (b ++ (rest.map vb).flatten))) →
    forLoop src all (fun v ρ σ Q => wpSs (progT con) (callN (progT con) progP (n + 3)) [.ex (.meth (.var 0) 42 [.var 2])] (ρ.set 2 (some v)) σ Q) (natsV rest) [some (.ref s), some src, o, none] (SK σ s p b) Q := by
  intro rest
  induction rest with
  | nil =>
    intro b o F hi hr hl hQ
    refine for_end (hi b) ?_
    rw [show ((([] : List Nat).map vb).flatten) = [] from rfl, List.append_nil] at hQ
    exact hQ o
  | cons i rest ih =>
    intro b o F hi hr hl hQ
    have hi64 := hr i (.head _)
    have l1 := vb_len10 hi64
    simp at hl
    refine for_turn (hi b) fun R hR => ?_
    refine k42 F (x := i) rfl (EV.var rfl) hi64 (by lia) ?_
    refine ⟨_, Sub.refl _, ?_⟩
    rw [hR]
    refine ih (b ++ vb i) _ F hi (fun j hj => hr j (.tail _ hj)) (by simp; lia) fun o => ?_
    have := hQ o
    simpa using this
/-- put_ids -/
theorem c_709 {s p x : Nat} {b ids : List Nat} (F : New2 σ s p) (hx : σ x = some (.lst (natsV ids))) (hr : ∀ i ∈ ids, i < 2 ^ 64) (h100 : ids.length ≤ 100) (hl : b.length + 2000 ≤ lim) (h : Q .none (SK σ s p (b ++ idsB ids))) : callN (progT con) progP (n + 4) 709 [.ref s, .ref x] (SK σ s p b) Q := by
  refine call_intro (d := ⟨2, 4, b_709, []⟩) rfl (Nat.le_refl 2) (Nat.le_refl 2) ?_
  have at_ : ∀ b, SK σ s p b x = some (.lst (natsV ids)) := fun b => SK_old F hx
  have l1 := vb_len10 (n := ids.length) (by lia)
  have hle : ids.length ≤ lim := by unfold lim; lia
  refine k42 F (x := ids.length) rfl (fun Q h => EV.lenL (EV.var rfl) (at_ _) (by rw [natsV_len]; exact hle) _ (by rw [natsV_len]; exact h)) (by lia) (by lia) ?_
  refine sFor (EV.var rfl) (itemsL (at_ _)) (by rw [natsV_len]; exact hle) fun R hR => ?_
  refine put_loop (b := []) (k := 0) (ρ := []) ids (b ++ vb ids.length) none F (fun b => itemsL (at_ _)) hr (by rw [List.length_append]; lia) fun o => ?_
  show R _ _
  rw [hR, List.append_assoc]
  exact ⟨_, Sub.refl _, h⟩
end Mine
end
section
set_option tactic.hygienic false
set_option backward.match.sparseCases false
set_option maxRecDepth 10000
set_option linter.all false
namespace Mine
variable {con : Nat → Option (List V)} {C : Calls} {σ : Hp} {Q : K1} {n : Nat}
theorem CK_swap {c a r : Nat} {data : List Nat} {o : AObj} (h : r ≠ c) : upd (CK σ c data a) r o = CK (upd σ r o) c data a := by
  unfold CK; rw [upd_comm _ _ _ (Ne.symm h)]
theorem CK_ne {c a r : Nat} {data : List Nat} (h : r ≠ c) : CK σ c data a r = σ r := upd_ne _ _ h
theorem At.len {data tl : List Nat} {a : Nat} (A : At data a tl) : data.length - a = tl.length := by
  rw [← A.rest]; simp
/-- take_count -/
theorem c_604 {c a x : Nat} {data tl : List Nat} (A : At data a (vb x ++ tl)) (hx : x ≤ tl.length) (h : At data (a + (vb x).length) tl → Q (.int x) (CK σ c data (a + (vb x).length))) : callN (progT con) progP (n + 4) 604 [.ref c] (CK σ c data a) Q := by
  refine call_intro (d := ⟨1, 3, b_604, []⟩) rfl (Nat.le_refl 1) (Nat.le_refl 1) ?_
  have hlim := A.fit
  have hxs : x < 2 ^ 64 := by
    have h1 := A.len
    simp at h1
    unfold lim at hlim; lia
  refine d42 rfl A hxs fun A => ?_
  have hl := A.len
  have hle := A.le
  exact sIte false (TB.gt (EV.var rfl) (EV.meth0 (EV.var rfl) CK_c M_257_41 rfl fun Q h => c_198 CK_c hlim h) (decide_eq_false (by lia))) (sRet (EV.var rfl) ⟨_, Sub.refl _, h A⟩)
theorem tk_loop {c r : Nat} {data tl : List Nat} {src : V} {all : List V} {Q : K2} (hrc : r ≠ c) (hi : ∀ σ, itemsOf σ src = some all) {ids : List Nat} (hp : ids.Pairwise (· < ·)) (h100 : ids.length ≤ 100) (h64 : ∀ i ∈ ids, i < 2 ^ 64) : ∀ (rest acc : List Nat) (vs : List V) (a : Nat) (o2 o3 : Option V), acc ++ rest = ids → vs.length = rest.length → At data a ((rest.map vb).flatten ++ tl) →
    (∀ o2 o3 a', At data a' tl → Q .next [some (.ref c), some (.ref r), o2, o3, none] (CK (upd σ r (.lst (natsV ids))) c data a')) →
    forLoop src all (fun v ρ σ Q => wpSs (progT con) (callN (progT con) progP (n + 3)) [.asg 3 (.meth (.var 0) 42 []), .ite (.bop true [.var 1, .cmp .le (.var 3) (.idx (.var 1) (.int (-1)))]) [.raise] [], .ex (.meth (.var 1) 50 [.var 3])] (ρ.set 2 (some v)) σ Q) vs [some (.ref c), some (.ref r), o2, o3, none] (CK (upd σ r (.lst (natsV acc))) c data a) Q := by
  intro rest
  induction rest with
  | nil =>
    intro acc vs a o2 o3 ha hv A hQ
    have : vs = [] := List.length_eq_zero_iff.mp hv
    subst this
    rw [List.append_nil] at ha
    subst ha
    exact for_end (hi _) (hQ o2 o3 a A)
  | cons i rest ih =>
    intro acc vs a o2 o3 ha hv A hQ
    induction vs using List.casesOn with
    | nil => simp at hv
    | cons v vs =>
      have hi64 : i < 2 ^ 64 := h64 i (by rw [← ha]; simp)
      have hlen : acc.length + rest.length + 1 ≤ 100 := by
        have := congrArg List.length ha
        simp at this; lia
      refine for_turn (hi _) fun R hR => ?_
      refine d42 (x := i) (tl := (rest.map vb).flatten ++ tl) rfl (by simpa using A) hi64 fun A => ?_
      have hr' : ∀ a, CK (upd σ r (.lst (natsV acc))) c data a r = some (.lst (natsV acc)) := fun a => by rw [CK_ne hrc, upd_at]
      have hl1 : acc.length ≤ lim := by unfold lim; lia
      have hl2 : acc.length < lim := by unfold lim; lia
      refine sIte false ?_ ?_
      · rcases List.eq_nil_or_concat acc with rfl | ⟨acc', b, rfl⟩
        · exact TB.and0 (TB.lst rfl (hr' _) (Nat.zero_le _) rfl)
        · simp only [List.concat_eq_append] at ha hr' hl1 hl2 ⊢
          have hlt : b < i := by
            have hp' := hp
            rw [← ha, List.append_assoc] at hp'
            have := (List.pairwise_append.mp hp').2.1
            simp at this
            exact this.1.1
          have hl3 : (natsV (acc' ++ [b])).length ≤ lim := by rw [natsV_len]; exact hl1
          exact TB.and2 (TB.lst rfl (hr' _) hl3 (nats_ne acc' b)) (TB.le (EV.var rfl) (EV.last (EV.var rfl) (hr' _) hl3 (last_nats acc' b)) (decide_eq_false (by lia)))
      · have hl3 : (natsV acc).length < lim := by rw [natsV_len]; exact hl2
        refine sPushL rfl (hr' _) (EV.var rfl) hl3 ⟨_, Sub.refl _, ?_⟩
        rw [CK_swap hrc, upd_upd, show natsV acc ++ [V.int (i : Int)] = natsV (acc ++ [i]) by rw [natsV_app]; rfl, hR]
        exact ih (acc ++ [i]) vs _ _ _ (by rw [List.append_assoc]; exact ha) (by simpa using hv) A hQ
theorem vbs_len : ∀ (ids : List Nat), ids.length ≤ ((ids.map vb).flatten).length
  | [] => by simp
  | i :: r => by
    have := vbs_len r
    have := vb_pos i
    simp at *; lia
/-- take_ids -/
theorem c_716 {c a : Nat} {data tl ids : List Nat} (A : At data a (idsB ids ++ tl)) (hp : ids.Pairwise (· < ·)) (h100 : ids.length ≤ 100) (h64 : ∀ i ∈ ids, i < 2 ^ 64)
    (h : ∀ r a', r ≠ c → σ r = none → At data a' tl → Q (.ref r) (CK (upd σ r (.lst (natsV ids))) c data a')) : callN (progT con) progP (n + 5) 716 [.ref c] (CK σ c data a) Q := by
  refine call_intro (d := ⟨1, 5, b_716, []⟩) rfl (Nat.le_refl 1) (Nat.le_refl 1) ?_
  refine sList0 fun r hr => ?_
  have hrc : r ≠ c := fun e => by subst e; rw [CK_c] at hr; cases hr
  have hr0 : σ r = none := by rwa [CK_ne hrc] at hr
  rw [CK_swap hrc]
  have A1 : At data a (vb ids.length ++ ((ids.map vb).flatten ++ tl)) := by rw [← List.append_assoc]; exact A
  refine sForE fun R hR => eBiE1 (eCall1 (EV.var rfl) (c_604 A1 (by have := vbs_len ids; rw [List.length_append]; lia) fun A => ?_))
  show biP .range [.int _] _ _
  rw [L25]
  refine ⟨by lia, _, rfl, by simp [lim]; lia, ?_⟩
  refine tk_loop (tl := tl) hrc (fun σ => rfl) hp h100 h64 ids [] _ _ none none rfl (by simp) A fun o2 o3 a' A => ?_
  show R _ _
  rw [hR]
  exact sRet (EV.var rfl) ⟨_, Sub.refl _, h r a' hrc hr0 A⟩
/-! ## ConfState -/
structure Conf where
  voters : List Nat
  learners : List Nat
  outgoing : List Nat
  next : List Nat
  auto : Bool
structure idsOk (l : List Nat) : Prop where
  asc : l.Pairwise (· < ·)
  few : l.length ≤ 50
  small : ∀ i ∈ l, i < 2 ^ 64
theorem idsOk.le {l : List Nat} (h : idsOk l) : (natsV l).length ≤ lim := by rw [natsV_len]; exact Nat.le_trans h.few (Nat.le_of_ble_eq_true rfl)
structure Conf.ok (c : Conf) : Prop where
  v : idsOk c.voters
  l : idsOk c.learners
  o : idsOk c.outgoing
  n : idsOk c.next
noncomputable def Conf.octets (c : Conf) : List Nat := idsB c.voters ++ (idsB c.learners ++ (idsB c.outgoing ++ (idsB c.next ++ [if c.auto then 1 else 0])))
noncomputable def Conf.row (c : Conf) : List V := [.tup (natsV c.voters), .tup (natsV c.learners), .tup (natsV c.outgoing), .tup (natsV c.next), .bool c.auto]
noncomputable def ConfAt (σ : Hp) (r : Nat) (c : Conf) : Prop := ∃ a b d e, σ r = some (.inst 698 [(26, .ref a), (27, .ref b), (28, .ref d), (29, .ref e), (30, .bool c.auto)]) ∧ σ a = some (.lst (natsV c.voters)) ∧ σ b = some (.lst (natsV c.learners)) ∧
  σ d = some (.lst (natsV c.outgoing)) ∧ σ e = some (.lst (natsV c.next))
theorem ConfAt.sub {σ τ : Hp} {r : Nat} {c : Conf} (h : ConfAt σ r c) (s : Sub σ τ) : ConfAt τ r c := by
  obtain ⟨a, b, d, e, h1, h2, h3, h4, h5⟩ := h
  exact ⟨a, b, d, e, s _ _ h1, s _ _ h2, s _ _ h3, s _ _ h4, s _ _ h5⟩
/-- ConfState.row -/
theorem c_688 {r : Nat} {c : Conf} (ok : c.ok) (hc : ConfAt σ r c) (h : Q (.tup c.row) σ) : callN (progT con) progP (n + 1) 688 [.ref r] σ Q := by
  refine call_intro (d := ⟨1, 2, b_688, []⟩) rfl (Nat.le_refl 1) (Nat.le_refl 1) ?_
  obtain ⟨a, b, d, e, h1, h2, h3, h4, h5⟩ := hc
  refine sRetE (EVs.tup (vs := c.row) ?_ (Nat.le_of_ble_eq_true rfl) _ ⟨_, Sub.refl _, h⟩)
  exact ⟨EV.tupL (ev rfl h1 rfl rfl) h2 ok.v.le, EV.tupL (ev rfl h1 rfl rfl) h3 ok.l.le, EV.tupL (ev rfl h1 rfl rfl) h4 ok.o.le, EV.tupL (ev rfl h1 rfl rfl) h5 ok.n.le, ev rfl h1 rfl rfl, rfl⟩
theorem idsB_len {l : List Nat} (h : idsOk l) : (idsB l).length ≤ 510 := by
  obtain ⟨h1, h2, h3⟩ := h
  have key : ∀ l : List Nat, (∀ i ∈ l, i < 2 ^ 64) → ((l.map vb).flatten).length ≤ 10 * l.length := by
    intro l
    induction l with
    | nil => intro _; simp
    | cons i r ih =>
      intro h
      have a := vb_len10 (h i (.head _))
      have b := ih fun j hj => h j (.tail _ hj)
      simp at *; lia
  have a := key l h3
  have b := vb_len10 (n := l.length) (by lia)
  simp [idsB] at *; lia
theorem kIds {s p x k N : Nat} {b ids : List Nat} {ρ : Rho} {ss : List S} {e : E} {Q : K2} (F : New2 σ s p) (hb : b.length ≤ N) (hk : ρ.get k = some (.ref s)) (he : EV con (callN (progT con) progP (n + 4)) e ρ (SK σ s p b) (.ref x)) (hx : σ x = some (.lst (natsV ids))) (ok : idsOk ids) (hN : N + 2000 ≤ 900000)
    (h : (b ++ idsB ids).length ≤ N + 510 → wpSs (progT con) (callN (progT con) progP (n + 4)) ss ρ (SK σ s p (b ++ idsB ids)) Q) : wpSs (progT con) (callN (progT con) progP (n + 4)) (.ex (.call 709 [.var k, e]) :: ss) ρ (SK σ s p b) Q :=
  sExE (eCall2 (EV.var hk) he (c_709 F hx ok.small (by have := ok.few; lia) (by unfold lim; lia) (h (by have := idsB_len ok; rw [List.length_append]; lia))))
/-- encode_conf -/
theorem c_723 {r : Nat} {c : Conf} (ok : c.ok) (hc : ConfAt σ r c) (h : Q (.bytes c.octets) σ) : callN (progT con) progP (n + 5) 723 [.ref r] σ Q := by
  refine call_intro (d := ⟨1, 3, b_723, []⟩) rfl (Nat.le_refl 1) (Nat.le_refl 1) ?_
  obtain ⟨x1, x2, x3, x4, h1, h2, h3, h4, h5⟩ := hc
  refine kNew fun s p F => ?_
  have at_ : ∀ b, SK σ s p b r = _ := fun b => SK_old F h1
  refine kIds F (N := 0) (Nat.le_refl 0) rfl (ev rfl (at_ _) rfl rfl) h2 ok.v (by decide) fun hb => ?_
  refine kIds F hb rfl (ev rfl (at_ _) rfl rfl) h3 ok.l (by decide) fun hb => ?_
  refine kIds F hb rfl (ev rfl (at_ _) rfl rfl) h4 ok.o (by decide) fun hb => ?_
  refine kIds F hb rfl (ev rfl (at_ _) rfl rfl) h5 ok.n (by decide) fun hb => ?_
  refine j46 F hb rfl (ev rfl (at_ _) rfl rfl) (by decide) fun hb => ?_
  refine j47 F hb rfl (by decide) ⟨σ, SK_sub F, ?_⟩
  rw [List.nil_append, List.append_assoc, List.append_assoc, List.append_assoc]
  exact h
/-- everything but r is kept -/
noncomputable def KeepX (r : Nat) (σ τ : Hp) : Prop := ∀ y o, y ≠ r → σ y = some o → τ y = some o
theorem KeepX.trans {r : Nat} {a b c : Hp} (x : KeepX r a b) (y : KeepX r b c) : KeepX r a c := fun z o h e => y z o h (x z o h e)
theorem st681 {r x k f : Nat} {ids : List Nat} {ρ : Rho} {ss : List S} {fs : List (Nat × V)} {Q : K2} (h0 : ρ.get 0 = some (.ref r)) (hk : ρ.get k = some (.ref x)) (hr : σ r = some (.inst 698 fs)) (hfl : fs.length ≤ 100) (hf : (progT con).fld 698 f = true) (hx : σ x = some (.lst (natsV ids))) (ok : idsOk ids)
    (h : ∀ q τ, q ≠ r → KeepX r σ τ → τ r = some (.inst 698 (setF f (.ref q) fs)) → τ q = some (.lst (natsV ids)) → wpSs (progT con) (callN (progT con) progP (n + 1)) ss ρ τ Q) :
    wpSs (progT con) (callN (progT con) progP (n + 1)) (.asgA (.var 0) f (.call 597 [.var k]) :: ss) ρ σ Q := by
  refine sAsgAE (eCall1 (EV.var hk) (c_597 hx ok.asc (by have := ok.few; lia) fun q hq => ⟨_, h0, ?_⟩))
  have hqr : r ≠ q := ne_of_free hr hq
  simp only [upd_ne _ _ hqr, hr]
  refine ⟨hf, hfl, h q _ hqr.symm (fun y o hy e => ?_) (upd_at ..) (by rw [upd_ne _ _ hqr.symm, upd_at])⟩
  rw [upd_ne _ _ hy, upd_ne _ _ (ne_of_free e hq)]; exact e
/-- ConfState(..) -/
theorem c_681 {a b d e : Nat} {c : Conf} (ok : c.ok) (h2 : σ a = some (.lst (natsV c.voters))) (h3 : σ b = some (.lst (natsV c.learners))) (h4 : σ d = some (.lst (natsV c.outgoing))) (h5 : σ e = some (.lst (natsV c.next)))
    (h : ∀ r τ, σ r = none → Sub σ τ → ConfAt τ r c → Q (.ref r) τ) : newP (progT con) (callN (progT con) progP (n + 2)) 698 [.ref a, .ref b, .ref d, .ref e, .bool c.auto] σ Q := by
  show ∀ r, σ r = none → callN (progT con) progP (n + 2) 681 [.ref r, .ref a, .ref b, .ref d, .ref e, .bool c.auto] (upd σ r (.inst 698 [])) fun v σ' => v = .none ∧ Q (.ref r) σ'
  intro r hr
  refine call_intro (d := ⟨6, 7, b_681, []⟩) rfl (Nat.le_refl 6) (Nat.le_refl 6) ?_
  have n1 := ne_of_free h2 hr
  have n2 := ne_of_free h3 hr
  have n3 := ne_of_free h4 hr
  have n4 := ne_of_free h5 hr
  have k0 : KeepX r σ (upd σ r (.inst 698 [])) := fun y o hy e => by rw [upd_ne _ _ hy]; exact e
  refine st681 rfl rfl (upd_at ..) (Nat.le_of_ble_eq_true rfl) F_698_26 (k0 _ _ n1 h2) ok.v fun q1 τ1 m1 k1 r1 e1 => ?_
  have k01 := k0.trans k1
  refine st681 rfl rfl r1 (Nat.le_of_ble_eq_true rfl) F_698_27 (k01 _ _ n2 h3) ok.l fun q2 τ2 m2 k2 r2 e2 => ?_
  have k02 := k01.trans k2
  refine st681 rfl rfl r2 (Nat.le_of_ble_eq_true rfl) F_698_28 (k02 _ _ n3 h4) ok.o fun q3 τ3 m3 k3 r3 e3 => ?_
  have k03 := k02.trans k3
  refine st681 rfl rfl r3 (Nat.le_of_ble_eq_true rfl) F_698_29 (k03 _ _ n4 h5) ok.n fun q4 τ4 m4 k4 r4 e4 => ?_
  have k04 := k03.trans k4
  have a1 := k4 _ _ m1 (k3 _ _ m1 (k2 _ _ m1 e1))
  have a2 := k4 _ _ m2 (k3 _ _ m2 e2)
  have a3 := k4 _ _ m3 e3
  have r4 : τ4 r = some (.inst 698 [(26, .ref q1), (27, .ref q2), (28, .ref q3), (29, .ref q4)]) := r4
  refine sFld (EV.var rfl) rfl r4 F_698_30 (Nat.le_of_ble_eq_true rfl) ?_
  refine ⟨_, Sub.refl _, rfl, h r _ hr (fun y o e => ?_) ⟨q1, q2, q3, q4, upd_at .., ?_, ?_, ?_, ?_⟩⟩
  · have hy := ne_of_free e hr
    rw [upd_ne _ _ hy]; exact k04 _ _ hy e
  · rw [upd_ne _ _ m1]; exact a1
  · rw [upd_ne _ _ m2]; exact a2
  · rw [upd_ne _ _ m3]; exact a3
  · rw [upd_ne _ _ m4]; exact e4
end Mine
end
section
set_option tactic.hygienic false
set_option backward.match.sparseCases false
set_option maxRecDepth 10000
set_option linter.all false
namespace Mine
variable {con : Nat → Option (List V)} {C : Calls} {σ : Hp} {Q : K1} {n : Nat}
theorem dIds {c a k y : Nat} {data tl ids : List Nat} {ρ : Rho} {ss : List S} {Q : K2} (hk : ρ.get k = some (.ref c)) (A : At data a (idsB ids ++ tl)) (ok : idsOk ids)
    (h : ∀ r a', r ≠ c → σ r = none → At data a' tl → wpSs (progT con) (callN (progT con) progP (n + 5)) ss (ρ.set y (some (.ref r))) (CK (upd σ r (.lst (natsV ids))) c data a') Q) : wpSs (progT con) (callN (progT con) progP (n + 5)) (.asg y (.call 716 [.var k]) :: ss) ρ (CK σ c data a) Q := by
  exact sAsgE (eCall1 (EV.var hk) (c_716 A ok.asc (by have := ok.few; lia) ok.small h))
theorem Conf.len {c : Conf} (ok : c.ok) : c.octets.length ≤ 2041 := by
  have l1 := idsB_len ok.v
  have l2 := idsB_len ok.l
  have l3 := idsB_len ok.o
  have l4 := idsB_len ok.n
  simp [Conf.octets]; lia
/-- decode_conf -/
theorem c_730 {c : Conf} (ok : c.ok) (h : ∀ r τ, σ r = none → Sub σ τ → ConfAt τ r c → Q (.ref r) τ) : callN (progT con) progP (n + 6) 730 [.bytes c.octets] σ Q := by
  refine call_intro (d := ⟨1, 8, b_730, []⟩) rfl (Nat.le_refl 1) (Nat.le_refl 1) ?_
  have lo := Conf.len ok
  refine dNew rfl (by unfold lim; lia) fun k hk A => ?_
  refine dIds (ids := c.voters) (tl := idsB c.learners ++ (idsB c.outgoing ++ (idsB c.next ++ [if c.auto then 1 else 0]))) rfl A ok.v fun r1 a1 n1 f1 A => ?_
  refine dIds rfl A ok.l fun r2 a2 n2 f2 A => ?_
  refine dIds rfl A ok.o fun r3 a3 n3 f3 A => ?_
  refine dIds rfl A ok.n fun r4 a4 n4 f4 A => ?_
  refine d46 rfl A.app0 fun A => ?_
  refine d47 rfl A ?_
  have s1 : Sub σ (upd σ r1 (.lst (natsV c.voters))) := Sub.put (Sub.refl _) f1
  have s2 : Sub σ _ := Sub.put (o := .lst (natsV c.learners)) s1 (s1.free f2)
  have s3 : Sub σ _ := Sub.put (o := .lst (natsV c.outgoing)) s2 (s2.free f3)
  have s4 : Sub σ _ := Sub.put (o := .lst (natsV c.next)) s3 (s3.free f4)
  have g1 := upd_at σ r1 (.lst (natsV c.voters))
  have g2 := upd_at (upd σ r1 (.lst (natsV c.voters))) r2 (.lst (natsV c.learners))
  have g3 := upd_at (upd (upd σ r1 (.lst (natsV c.voters))) r2 (.lst (natsV c.learners))) r3 (.lst (natsV c.outgoing))
  have g4 := upd_at (upd (upd (upd σ r1 (.lst (natsV c.voters))) r2 (.lst (natsV c.learners))) r3 (.lst (natsV c.outgoing))) r4 (.lst (natsV c.next))
  have t2 := Sub.put (o := .lst (natsV c.learners)) (Sub.refl _) f2
  have t3 := Sub.put (o := .lst (natsV c.outgoing)) (Sub.refl _) f3
  have t4 := Sub.put (o := .lst (natsV c.next)) (Sub.refl _) f4
  have e3 := t4 _ _ g3
  have e2 := t4 _ _ (t3 _ _ g2)
  have e1 := t4 _ _ (t3 _ _ (t2 _ _ g1))
  generalize (upd (upd (upd (upd σ r1 (.lst (natsV c.voters))) r2 (.lst (natsV c.learners))) r3 (.lst (natsV c.outgoing))) r4 (.lst (natsV c.next))) = σ4 at *
  have kk : ∀ {x o}, σ4 x = some (.lst o) → x ≠ k → CK σ4 k c.octets (a4 + 1) x = some (.lst o) := fun {x o} h hne => (CK_ne hne).trans h
  refine sRetE (eNew (vs := [.ref r1, .ref r2, .ref r3, .ref r4, .bool c.auto]) ?_ (c_681 ok (kk e1 n1) (kk e2 n2) (kk e3 n3) (kk g4 n4) fun r τ hr st hc => ?_))
  · exact ⟨EV.var rfl, EV.var rfl, EV.var rfl, EV.var rfl, EV.var rfl, rfl⟩
  have hs : Sub σ (CK σ4 k c.octets (a4 + 1)) := Sub.put s4 hk
  exact ⟨τ, Sub.refl _, h r τ (hs.free hr) (hs.trans st) hc⟩
/-! ## Snapshot -/
structure Snp where
  index : Nat
  term : Nat
  conf : Conf
  data : List Nat
structure Snp.ok (s : Snp) : Prop where
  index : s.index < 2 ^ 64
  term : s.term < 2 ^ 64
  conf : s.conf.ok
  data : s.data.length ≤ 10000
noncomputable def Snp.row (s : Snp) : List V := [.int s.index, .int s.term, .tup s.conf.row, .bytes s.data]
noncomputable def Snp.octets (s : Snp) : List Nat := vb s.index ++ (vb s.term ++ ((vb s.conf.octets.length ++ s.conf.octets) ++ (vb s.data.length ++ s.data)))
noncomputable def SnpAt (σ : Hp) (r : Nat) (s : Snp) : Prop := ∃ q, σ r = some (.inst 768 [(17, .int s.index), (18, .int s.term), (31, .ref q), (0, .bytes s.data)]) ∧ ConfAt σ q s.conf
theorem SnpAt.sub {σ τ : Hp} {r : Nat} {s : Snp} (h : SnpAt σ r s) (g : Sub σ τ) : SnpAt τ r s := by
  obtain ⟨q, h1, h2⟩ := h
  exact ⟨q, g _ _ h1, h2.sub g⟩
theorem Snp.len {s : Snp} (ok : s.ok) : s.octets.length ≤ 12100 := by
  obtain ⟨o1, o2, o3, o4⟩ := ok
  have l1 := vb_len10 o1
  have l2 := vb_len10 o2
  have l3 := Conf.len o3
  have l4 := vb_len5 (n := s.conf.octets.length) (by lia)
  have l5 := vb_len5 (n := s.data.length) (by lia)
  simp [Snp.octets]; lia
/-- Snapshot(..) -/
theorem c_744 {q : Nat} (s : Snp) (hq : ConfAt σ q s.conf) (h : ∀ r τ, σ r = none → Sub σ τ → SnpAt τ r s → Q (.ref r) τ) : newP (progT con) (callN (progT con) progP (n + 1)) 768 [.int s.index, .int s.term, .ref q, .bytes s.data] σ Q := by
  show ∀ r, σ r = none → callN (progT con) progP (n + 1) 744 [.ref r, .int s.index, .int s.term, .ref q, .bytes s.data] (upd σ r (.inst 768 [])) fun v σ' => v = .none ∧ Q (.ref r) σ'
  intro r hr
  refine call_intro (d := ⟨5, 6, b_744, []⟩) rfl (Nat.le_refl 5) (Nat.le_refl 5) ?_
  have g : Sub σ (upd σ r (.inst 768 [(17, .int s.index), (18, .int s.term), (31, .ref q), (0, .bytes s.data)])) := Sub.put (Sub.refl _) hr
  exact initSeq (σ := σ) rfl [(17, 1), (18, 2), (31, 3), (0, 4)] [.int s.index, .int s.term, .ref q, .bytes s.data] [] rfl rfl (Nat.le_of_ble_eq_true rfl) ⟨_, Sub.refl _, rfl, h r _ hr g ⟨q, upd_at .., hq.sub g⟩⟩
/-- Snapshot.row -/
theorem c_751 {r : Nat} {s : Snp} (ok : s.ok) (hs : SnpAt σ r s) (h : Q (.tup s.row) σ) : callN (progT con) progP (n + 2) 751 [.ref r] σ Q := by
  refine call_intro (d := ⟨1, 2, b_751, []⟩) rfl (Nat.le_refl 1) (Nat.le_refl 1) ?_
  obtain ⟨q, h1, hq⟩ := hs
  have h2 : ∃ fs, σ q = some (.inst 698 fs) ∧ getF 48 fs = none := by
    obtain ⟨a, b, d, e, h2, _⟩ := hq
    exact ⟨_, h2, rfl⟩
  obtain ⟨fs, h2, h3⟩ := h2
  refine sRetE (EVs.tup (vs := s.row) ?_ (Nat.le_of_ble_eq_true rfl) _ ⟨_, Sub.refl _, h⟩)
  exact ⟨ev rfl h1 rfl rfl, ev rfl h1 rfl rfl, EV.meth0 (ev rfl h1 rfl rfl) h2 M_698_48 h3 fun Q h => c_688 ok.conf hq h, ev rfl h1 rfl rfl, rfl⟩
/-- encode_snapshot -/
theorem c_779 {r : Nat} {s : Snp} (ok : s.ok) (hs : SnpAt σ r s) (h : Q (.bytes s.octets) σ) : callN (progT con) progP (n + 6) 779 [.ref r] σ Q := by
  refine call_intro (d := ⟨1, 3, b_779, []⟩) rfl (Nat.le_refl 1) (Nat.le_refl 1) ?_
  obtain ⟨q, h1, hq⟩ := hs
  obtain ⟨o1, o2, o3, o4⟩ := ok
  refine kNew fun k p F => ?_
  have at_ : ∀ b, SK σ k p b r = _ := fun b => SK_old F h1
  refine j42 F (N := 0) (Nat.le_refl 0) rfl (ev rfl (at_ _) rfl rfl) o1 (by decide) fun hb => ?_
  refine j42 F hb rfl (ev rfl (at_ _) rfl rfl) o2 (by decide) fun hb => ?_
  refine j44 F hb rfl (fun Q h => eCall1 (ev rfl (at_ _) rfl rfl) (c_723 o3 (hq.sub (SK_sub F)) h)) (Conf.len o3) (by decide) fun hb => ?_
  refine j44 F hb rfl (ev rfl (at_ _) rfl rfl) o4 (by decide) fun hb => ?_
  refine j47 F hb rfl (by decide) ⟨σ, SK_sub F, ?_⟩
  rw [List.nil_append, List.append_assoc, List.append_assoc]
  exact h
/-- y = f(cursor.lengthed()) -/
theorem d44f {c a k y f : Nat} {data tl x : List Nat} {ρ : Rho} {ss : List S} {Q : K2} (hk : ρ.get k = some (.ref c)) (A : At data a ((vb x.length ++ x) ++ tl)) (hx : x.length < 2 ^ 32)
    (h : At data (a + (vb x.length ++ x).length) tl → callN (progT con) progP (n + 4) f [.bytes x] (CK σ c data (a + (vb x.length ++ x).length)) fun v σ => wpSs (progT con) (callN (progT con) progP (n + 4)) ss (ρ.set y (some v)) σ Q) : wpSs (progT con) (callN (progT con) progP (n + 4)) (.asg y (.call f [.meth (.var k) 44 []]) :: ss) ρ (CK σ c data a) Q := by
  exact sAsgE (eCallE1 (eMeth0 (EV.var hk) CK_c M_257_44 rfl (c_226 CK_c A.fit hx A.le (by rw [← List.append_assoc]; exact A.rest) (by rw [CK_put]; exact h A.next))))
end Mine
end
section
set_option tactic.hygienic false
set_option backward.match.sparseCases false
set_option maxRecDepth 10000
set_option linter.all false
namespace Mine
variable {con : Nat → Option (List V)} {C : Calls} {σ : Hp} {Q : K1} {n : Nat}
theorem CK_is {τ : Hp} {k a : Nat} {data : List Nat} (h : τ k = some (cur data a)) : CK τ k data a = τ := upd_same h
theorem CK_keep {τ : Hp} {k a : Nat} {data : List Nat} : KeepX k τ (CK τ k data a) := fun y o hy h => (CK_ne hy).trans h
/-- what is not at k, for it is no o -/
theorem KeepX.at {k x : Nat} {σ τ : Hp} {o o' : AObj} (g : KeepX k σ τ) (hk : σ k = some o) (h : σ x = some o') (hne : o' ≠ o) : τ x = some o' := g _ _ (ne_of_obj h hk hne) h
theorem ConfAt.keep {k r : Nat} {σ τ : Hp} {c : Conf} {f : Nat} {fs : List (Nat × V)} (h : ConfAt σ r c) (hk : σ k = some (.inst f fs)) (hf : f ≠ 698) (g : KeepX k σ τ) : ConfAt τ r c := by
  obtain ⟨a, b, d, e, h1, h2, h3, h4, h5⟩ := h
  refine ⟨a, b, d, e, g.at hk h1 ?_, g.at hk h2 ?_, g.at hk h3 ?_, g.at hk h4 ?_, g.at hk h5 ?_⟩ <;> intro e <;> cases e
  exact hf rfl
theorem SnpAt.keep {k r : Nat} {σ τ : Hp} {s : Snp} {f : Nat} {fs : List (Nat × V)} (h : SnpAt σ r s) (hk : σ k = some (.inst f fs)) (hf : f ≠ 698) (hf2 : f ≠ 768) (g : KeepX k σ τ) : SnpAt τ r s := by
  obtain ⟨q, h1, h2⟩ := h
  refine ⟨q, g.at hk h1 ?_, h2.keep hk hf g⟩
  intro e; cases e; exact hf2 rfl
/-- decode_snapshot -/
theorem c_786 {s : Snp} (ok : s.ok) (h : ∀ r τ, σ r = none → Sub σ τ → SnpAt τ r s → Q (.ref r) τ) : callN (progT con) progP (n + 8) 786 [.bytes s.octets] σ Q := by
  refine call_intro (d := ⟨1, 7, b_786, []⟩) rfl (Nat.le_refl 1) (Nat.le_refl 1) ?_
  have lo := Snp.len ok
  obtain ⟨o1, o2, o3, o4⟩ := ok
  have l3 := Conf.len o3
  refine dNew rfl (by unfold lim; lia) fun k hk A => ?_
  refine d42 (x := s.index) (tl := vb s.term ++ ((vb s.conf.octets.length ++ s.conf.octets) ++ (vb s.data.length ++ s.data))) rfl A o1 fun A => ?_
  refine d42 rfl A o2 fun A => ?_
  refine d44f rfl A (by lia) fun A => ?_
  generalize 0 + _ + _ + _ = a at *
  refine c_730 o3 fun q τ hq st hc => ?_
  have hkk : τ k = some (cur s.octets a) := st _ _ CK_c
  have hs : Sub σ τ := (CK_sub hk).trans st
  rw [← CK_is hkk]
  refine d44 rfl A.app0 (by lia) fun A => ?_
  refine d47 rfl A ?_
  have hc' := hc.keep hkk (by decide) (CK_keep (a := a + (vb s.data.length ++ s.data).length) (data := s.octets))
  have hs' : Sub σ (CK τ k s.octets (a + (vb s.data.length ++ s.data).length)) := Sub.put hs hk
  refine sRetE (eNew (vs := [.int s.index, .int s.term, .ref q, .bytes s.data]) ?_ (c_744 s hc' fun r υ hr st' hsn => ⟨υ, Sub.refl _, h r υ (hs'.free hr) (hs'.trans st') hsn⟩))
  exact ⟨EV.var rfl, EV.var rfl, EV.var rfl, EV.var rfl, rfl⟩
end Mine
end
section
set_option tactic.hygienic false
set_option backward.match.sparseCases false
set_option maxRecDepth 10000
set_option linter.all false
namespace Mine
variable {con : Nat → Option (List V)} {C : Calls} {σ : Hp} {Q : K1} {n : Nat}
/-! ## Message -/
structure Msg where
  kind : Nat
  src : Nat
  dst : Nat
  term : Nat
  lterm : Nat
  index : Nat
  entries : List Ent
  commit : Nat
  snap : Option Snp
  rej : Bool
  hint : Nat
  ctx : List Nat
noncomputable def Msg.fs (m : Msg) (L : Nat) (sv : V) : List (Nat × V) := [(21, .int m.kind), (32, .int m.src), (33, .int m.dst), (18, .int m.term), (34, .int m.lterm), (17, .int m.index), (35, .ref L), (36, .int m.commit), (37, sv), (38, .bool m.rej), (39, .int m.hint), (40, .bytes m.ctx)]
noncomputable def snpRow : Option Snp → V
  | none => .none
  | some s => .tup s.row
noncomputable def snpB : Option Snp → List Nat
  | none => [0]
  | some s => 1 :: (vb s.octets.length ++ s.octets)
noncomputable def Msg.row (m : Msg) : List V := [.int m.kind, .int m.src, .int m.dst, .int m.term, .int m.lterm, .int m.index, .tup (m.entries.map fun e => .tup e.row), .int m.commit, snpRow m.snap, .bool m.rej, .int m.hint, .bytes m.ctx]
noncomputable def entB (e : Ent) : List Nat := vb e.octets.length ++ e.octets
noncomputable def Msg.octets (m : Msg) : List Nat := vb m.kind ++ (vb m.src ++ (vb m.dst ++ (vb m.term ++ (vb m.lterm ++ (vb m.index ++ (vb m.commit ++ (vb m.hint ++ ([if m.rej then 1 else 0] ++ (vb m.entries.length ++
  ((m.entries.map entB).flatten ++ (snpB m.snap ++ (vb m.ctx.length ++ m.ctx))))))))))))
structure Msg.ok (m : Msg) : Prop where
  kind : m.kind ≤ 20
  src : m.src < 2 ^ 64
  dst : m.dst < 2 ^ 64
  term : m.term < 2 ^ 64
  lterm : m.lterm < 2 ^ 64
  index : m.index < 2 ^ 64
  few : m.entries.length ≤ 10
  each : ∀ e ∈ m.entries, e.ok
  commit : m.commit < 2 ^ 64
  snap : ∀ s, m.snap = some s → s.ok
  hint : m.hint < 2 ^ 64
  ctx : m.ctx.length ≤ 10000
noncomputable def EntsAt (σ : Hp) : List Nat → List Ent → Prop
  | [], [] => True
  | r :: rs, e :: es => σ r = some (.inst 649 e.fs) ∧ EntsAt σ rs es
  | _, _ => False
theorem EntsAt.len {σ : Hp} : ∀ {rs es}, EntsAt σ rs es → rs.length = es.length
  | [], [], _ => rfl
  | _ :: _, _ :: _, h => by simp [EntsAt.len h.2]
  | [], _ :: _, h => h.elim
  | _ :: _, [], h => h.elim
theorem EntsAt.mono {σ τ : Hp} : ∀ {rs es}, EntsAt σ rs es → (∀ x fs, σ x = some (.inst 649 fs) → τ x = some (.inst 649 fs)) → EntsAt τ rs es
  | [], [], _, _ => trivial
  | _ :: _, _ :: _, h, g => ⟨g _ _ h.1, h.2.mono g⟩
  | [], _ :: _, h, _ => h.elim
  | _ :: _, [], h, _ => h.elim
theorem EntsAt.snoc {σ : Hp} {r : Nat} {e : Ent} : ∀ {rs es}, EntsAt σ rs es → σ r = some (.inst 649 e.fs) → EntsAt σ (rs ++ [r]) (es ++ [e])
  | [], [], _, h => ⟨h, trivial⟩
  | _ :: _, _ :: _, h, g => ⟨h.1, h.2.snoc g⟩
  | [], _ :: _, h, _ => h.elim
  | _ :: _, [], h, _ => h.elim
noncomputable def refs (l : List Nat) : List V := l.map .ref
noncomputable def SnpV (σ : Hp) : Option Snp → V → Prop
  | none, v => v = .none
  | some s, v => ∃ q, v = .ref q ∧ SnpAt σ q s
noncomputable def MsgAt (σ : Hp) (r : Nat) (m : Msg) : Prop := ∃ L sv rs, σ r = some (.inst 815 (m.fs L sv)) ∧ σ L = some (.lst (refs rs)) ∧ EntsAt σ rs m.entries ∧ SnpV σ m.snap sv
/-- Message(..) -/
theorem c_800 {k s d t : Nat} (h : ∀ r L, σ r = none → σ L = none → r ≠ L → Q (.ref r) (upd (upd σ L (.lst [])) r (.inst 815 (Msg.fs ⟨k, s, d, t, 0, 0, [], 0, none, false, 0, []⟩ L .none)))) : newP (progT con) (callN (progT con) progP (n + 1)) 815 [.int k, .int s, .int d, .int t] σ Q := by
  show ∀ r, σ r = none → callN (progT con) progP (n + 1) 800 [.ref r, .int k, .int s, .int d, .int t] (upd σ r (.inst 815 [])) fun v σ' => v = .none ∧ Q (.ref r) σ'
  intro r hr
  refine call_intro (d := ⟨5, 6, b_800, []⟩) rfl (Nat.le_refl 5) (Nat.le_refl 5) ?_
  refine sFldU (EV.var rfl) rfl F_815_21 (Nat.le_of_ble_eq_true rfl) ?_
  refine sFldU (EV.var rfl) rfl F_815_32 (Nat.le_of_ble_eq_true rfl) ?_
  refine sFldU (EV.var rfl) rfl F_815_33 (Nat.le_of_ble_eq_true rfl) ?_
  refine sFldU (EV.var rfl) rfl F_815_18 (Nat.le_of_ble_eq_true rfl) ?_
  refine sFldU (EV.int) rfl F_815_34 (Nat.le_of_ble_eq_true rfl) ?_
  refine sFldU (EV.int) rfl F_815_17 (Nat.le_of_ble_eq_true rfl) ?_
  refine sFldN rfl F_815_35 (Nat.le_of_ble_eq_true rfl) fun L hL hne => ?_
  refine sFldU (EV.int) rfl F_815_36 (Nat.le_of_ble_eq_true rfl) ?_
  refine sFldU (EV.none) rfl F_815_37 (Nat.le_of_ble_eq_true rfl) ?_
  refine sFldU (EV.bool) rfl F_815_38 (Nat.le_of_ble_eq_true rfl) ?_
  refine sFldU (EV.int) rfl F_815_39 (Nat.le_of_ble_eq_true rfl) ?_
  refine sFldU (EV.bytes) rfl F_815_40 (Nat.le_of_ble_eq_true rfl) ?_
  exact ⟨_, Sub.refl _, rfl, h r L hr hL hne⟩
end Mine
end
section
set_option tactic.hygienic false
set_option backward.match.sparseCases false
set_option maxRecDepth 10000
set_option linter.all false
namespace Mine
variable {con : Nat → Option (List V)} {C : Calls} {σ : Hp} {Q : K1} {n : Nat}
/-- the entries' rows, by a comprehension -/
theorem ent_rows {src : V} {all : List V} {ρ : Rho} {x : Nat} {test : V → Hp → (Bool → Hp → Prop) → Prop} {Q : List V → Hp → Prop} (ht : ∀ v σ Q, test v σ Q = Q true σ) (hx : ∀ v, Rho.get (ρ.set x (some v)) x = some v) (hi : itemsOf σ src = some all) : ∀ (rs : List Nat) (es : List Ent) (acc : List V), EntsAt σ rs es → acc.length + rs.length ≤ 100 →
    Q (acc ++ es.map fun e => .tup e.row) σ →
    compLoop src all test (fun v σ Q => wpE (progT con) (callN (progT con) progP (n + 1)) (.meth (.var x) 48 []) (ρ.set x (some v)) σ Q) (refs rs) acc σ Q
  | [], [], acc, _, _, h => ⟨hi, by simpa using h⟩
  | [], _ :: _, _, h, _, _ => h.elim
  | _ :: _, [], _, h, _, _ => h.elim
  | r :: rs, e :: es, acc, h, hl, hq => by
    refine ⟨hi, ?_⟩
    rw [ht]
    have hl : acc.length + (rs.length + 1) ≤ 100 := hl
    show (if true = true then _ else _)
    rw [if_pos rfl]
    refine eMeth0 (EV.var (hx _)) h.1 M_649_48 rfl (c_625 e h.1 ⟨Nat.lt_of_le_of_lt (by lia : acc.length ≤ 99) (Nat.le_of_ble_eq_true rfl), ?_⟩)
    exact ent_rows ht hx hi rs es _ h.2 (by rw [List.length_append, List.length_singleton]; lia) (by rw [List.append_assoc]; exact hq)
theorem refs_len (l : List Nat) : (refs l).length = l.length := by simp [refs]
theorem ret815 {τ : Hp} {ρ : Rho} {r L : Nat} {sv : V} {m : Msg} {Q : K2} (k1 : τ r = some (.inst 815 (m.fs L sv))) (h0 : ρ.get 0 = some (.ref r)) (h1 : ρ.get 1 = some (.tup (m.entries.map fun e => .tup e.row))) (h2 : ρ.get 2 = some (snpRow m.snap)) (h : Q (.ret (.tup m.row)) ρ τ) :
    wpSs (progT con) C [.ret (.tup [.attr (.var 0) 21, .attr (.var 0) 32, .attr (.var 0) 33, .attr (.var 0) 18, .attr (.var 0) 34, .attr (.var 0) 17, .var 1, .attr (.var 0) 36, .var 2, .attr (.var 0) 38, .attr (.var 0) 39, .attr (.var 0) 40])] ρ τ Q := by
  refine sRetE (EVs.tup (vs := m.row) ?_ (Nat.le_of_ble_eq_true rfl) _ h)
  exact ⟨ev h0 k1 rfl rfl, ev h0 k1 rfl rfl, ev h0 k1 rfl rfl, ev h0 k1 rfl rfl, ev h0 k1 rfl rfl, ev h0 k1 rfl rfl, EV.var h1, ev h0 k1 rfl rfl, EV.var h2, ev h0 k1 rfl rfl, ev h0 k1 rfl rfl, ev h0 k1 rfl rfl, rfl⟩
/-- Message.row -/
theorem c_805 {r : Nat} {m : Msg} (ok : m.ok) (hm : MsgAt σ r m) (h : Q (.tup m.row) σ) : callN (progT con) progP (n + 3) 805 [.ref r] σ Q := by
  refine call_intro (d := ⟨1, 4, b_805, []⟩) rfl (Nat.le_refl 1) (Nat.le_refl 1) ?_
  obtain ⟨L, sv, rs, h1, h2, h3, h4⟩ := hm
  have hl := ok.few
  have hrl := h3.len
  refine sAsgE (eBiE1 (eComp (ev rfl h1 rfl rfl _ ⟨refs rs, itemsL h2, by rw [refs_len]; unfold lim; lia, ?_⟩)))
  refine ent_rows (fun v σ Q => rfl) (fun v => rfl) (itemsL h2) rs m.entries [] h3 (by rw [List.length_nil]; lia) fun q hq => ?_
  show biP .tuple [.ref q] _ _
  rw [L28, upd_at]
  refine ⟨by rw [List.nil_append, List.length_map]; unfold lim; lia, ?_⟩
  have g : Sub σ (upd σ q (.lst ([] ++ m.entries.map fun e => .tup e.row))) := Sub.put (Sub.refl _) hq
  have k1 := g _ _ h1
  generalize upd σ q (.lst ([] ++ m.entries.map fun e => .tup e.row)) = τ at *
  refine sAsg EV.none ?_
  induction hs : m.snap using Option.casesOn with
  | none =>
    rw [hs] at h4
    have h4 : sv = .none := h4
    subst h4
    exact sIte false (TB.isnt (ev rfl k1 rfl rfl) rfl) (ret815 k1 rfl rfl (by rw [hs]; rfl) ⟨σ, g, h⟩)
  | some s =>
    rw [hs] at h4
    obtain ⟨q', rfl, hq'⟩ := h4
    have hq2 := hq'.sub g
    refine sIte true (TB.isnt (ev rfl k1 rfl rfl) rfl) ?_
    obtain ⟨z, hz, _⟩ := id hq2
    exact sAsgE (eMeth0 (ev rfl k1 rfl rfl) hz M_768_48 rfl (c_751 (ok.snap s hs) hq2 (ret815 k1 rfl rfl (by rw [hs]; rfl) ⟨σ, g, h⟩)))
end Mine
end
section
set_option tactic.hygienic false
set_option backward.match.sparseCases false
set_option maxRecDepth 10000
set_option linter.all false
namespace Mine
variable {con : Nat → Option (List V)} {C : Calls} {σ : Hp} {Q : K1} {n : Nat}
theorem entB_len {e : Ent} (ok : e.ok) : (entB e).length ≤ 10050 := by
  have l1 := Ent.octets_len ok
  have l2 := vb_len5 (n := e.octets.length) (by lia)
  simp [entB]; lia
theorem en_loop {s p L : Nat} {all : List V} {Q : K2} {a : Option V} (hL : σ L = some (.lst all)) (F : New2 σ s p) : ∀ (rs : List Nat) (es : List Ent) (b : List Nat) (o : Option V), EntsAt σ rs es → (∀ e ∈ es, e.ok) → b.length + 10050 * es.length + 10 ≤ lim →
    (∀ o, Q .next [a, some (.ref s), o, none] (SK σ s p (b ++ (es.map entB).flatten))) →
    forLoop (.ref L) all (fun v ρ σ Q => wpSs (progT con) (callN (progT con) progP (n + 4)) [.ex (.meth (.var 1) 44 [.call 660 [.var 2]])] (ρ.set 2 (some v)) σ Q) (refs rs) [a, some (.ref s), o, none] (SK σ s p b) Q
  | [], [], b, o, _, _, _, hQ => for_end (itemsL (SK_old F hL)) (by rw [show (([] : List Ent).map entB).flatten = [] from rfl, List.append_nil] at hQ; exact hQ o)
  | [], _ :: _, _, _, h, _, _, _ => h.elim
  | _ :: _, [], _, _, h, _, _, _ => h.elim
  | r :: rs, e :: es, b, o, h, ok, hl, hQ => by
    have oe := ok e (.head _)
    have le := entB_len oe
    have le' := Ent.octets_len oe
    have hl : b.length + 10050 * (es.length + 1) + 10 ≤ lim := hl
    refine for_turn (itemsL (SK_old F hL)) fun R hR => ?_
    refine k44 F (x := e.octets) rfl (fun Q h' => eCall1 (EV.var rfl) (c_660 e oe (SK_old F h.1) h')) (by lia) ⟨_, Sub.refl _, ?_⟩
    rw [hR]
    refine en_loop hL F rs es (b ++ entB e) _ h.2 (fun x hx => ok x (.tail _ hx)) (by rw [List.length_append]; lia) fun o => ?_
    rw [List.append_assoc]
    exact hQ o
theorem ent_tot : ∀ es : List Ent, (∀ e ∈ es, e.ok) → ((es.map entB).flatten).length ≤ 10050 * es.length
  | [], _ => by simp
  | e :: es, h => by
    have a := entB_len (h e (.head _))
    have b := ent_tot es fun x hx => h x (.tail _ hx)
    simp at *; lia
theorem snpB_len {s : Option Snp} (ok : ∀ x, s = some x → x.ok) : (snpB s).length ≤ 12200 := by
  induction s using Option.casesOn with
  | none => simp [snpB]
  | some s =>
    have a := Snp.len (ok s rfl)
    have b := vb_len5 (n := s.octets.length) (by lia)
    simp [snpB]; lia
theorem Msg.len {m : Msg} (ok : m.ok) : m.octets.length ≤ 130000 := by
  have a1 := vb_len10 (n := m.kind) (by have := ok.kind; lia)
  have a2 := vb_len10 ok.src
  have a3 := vb_len10 ok.dst
  have a4 := vb_len10 ok.term
  have a5 := vb_len10 ok.lterm
  have a6 := vb_len10 ok.index
  have a7 := vb_len10 ok.commit
  have a8 := vb_len10 ok.hint
  have a9 := vb_len10 (n := m.entries.length) (by have := ok.few; lia)
  have b1 := ent_tot m.entries ok.each
  have b2 := snpB_len ok.snap
  have b3 := vb_len10 (n := m.ctx.length) (by have := ok.ctx; lia)
  have b4 := ok.few
  have b5 := ok.ctx
  unfold Msg.octets
  simp only [List.length_append, List.length_cons, List.length_nil]
  lia
/-- encode_message -/
theorem c_826 {r : Nat} {m : Msg} (ok : m.ok) (hm : MsgAt σ r m) (h : Q (.bytes m.octets) σ) : callN (progT con) progP (n + 8) 826 [.ref r] σ Q := by
  refine call_intro (d := ⟨1, 4, b_826, []⟩) rfl (Nat.le_refl 1) (Nat.le_refl 1) ?_
  obtain ⟨L, sv, rs, h1, h2, h3, h4⟩ := hm
  obtain ⟨o1, o2, o3, o4, o5, o6, o7, o8, o9, o10, o11, o12⟩ := ok
  have b1 := ent_tot m.entries o8
  refine kNew fun s p F => ?_
  have at_ : ∀ b, SK σ s p b r = _ := fun b => SK_old F h1
  have at2 : ∀ b, SK σ s p b L = _ := fun b => SK_old F h2
  have rl : (refs rs).length = m.entries.length := by rw [refs_len, h3.len]
  have hle : (refs rs).length ≤ lim := by rw [rl]; exact Nat.le_trans o7 (Nat.le_of_ble_eq_true rfl)
  refine j42 F (N := 0) (Nat.le_refl 0) rfl (ev rfl (at_ _) rfl rfl) (Nat.lt_of_le_of_lt o1 (by decide)) (by decide) fun hb => ?_
  refine j42 F hb rfl (ev rfl (at_ _) rfl rfl) o2 (by decide) fun hb => ?_
  refine j42 F hb rfl (ev rfl (at_ _) rfl rfl) o3 (by decide) fun hb => ?_
  refine j42 F hb rfl (ev rfl (at_ _) rfl rfl) o4 (by decide) fun hb => ?_
  refine j42 F hb rfl (ev rfl (at_ _) rfl rfl) o5 (by decide) fun hb => ?_
  refine j42 F hb rfl (ev rfl (at_ _) rfl rfl) o6 (by decide) fun hb => ?_
  refine j42 F hb rfl (ev rfl (at_ _) rfl rfl) o9 (by decide) fun hb => ?_
  refine j42 F hb rfl (ev rfl (at_ _) rfl rfl) o11 (by decide) fun hb => ?_
  refine j46 F hb rfl (ev rfl (at_ _) rfl rfl) (by decide) fun hb => ?_
  refine j42 F hb rfl (x := m.entries.length) (by rw [← rl]; exact EV.lenL (ev rfl (at_ _) rfl rfl) (at2 _) hle) (Nat.lt_of_le_of_lt o7 (by decide)) (by decide) fun hb => ?_
  generalize hB : (_ ++ vb m.entries.length : List Nat) = B at hb ⊢
  have hBm : m.octets = B ++ ((m.entries.map entB).flatten ++ (snpB m.snap ++ (vb m.ctx.length ++ m.ctx))) := by
    rw [← hB]; unfold Msg.octets; simp only [List.append_assoc, List.nil_append]
  rw [hBm] at h
  refine sFor (ev rfl (at_ _) rfl rfl) (itemsL (at2 _)) hle fun R hR => ?_
  refine en_loop h2 F rs m.entries B none h3 o8 (by unfold lim; lia) fun o => ?_
  show R _ _
  rw [hR]; clear hR R
  have hb : (B ++ (m.entries.map entB).flatten).length ≤ 100700 := by rw [List.length_append]; lia
  rw [← List.append_assoc] at h
  generalize B ++ (m.entries.map entB).flatten = G at *
  induction hs : m.snap using Option.casesOn with
  | none =>
    rw [hs] at h4 h
    have h4 : sv = .none := h4
    subst h4
    refine j46 F hb rfl (t := false) (EV.isnt (ev rfl (at_ _) rfl rfl) rfl) (by decide) fun hb => ?_
    refine sIte false (TB.isnt (ev rfl (at_ _) rfl rfl) rfl) ?_
    refine j44 F hb rfl (ev rfl (at_ _) rfl rfl) o12 (by decide) fun hb => ?_
    refine j47 F hb rfl (by decide) ⟨σ, SK_sub F, ?_⟩
    rw [List.append_assoc]
    exact h
  | some w =>
    rw [hs] at h4 h
    obtain ⟨q', rfl, hq'⟩ := h4
    refine j46 F hb rfl (t := true) (EV.isnt (ev rfl (at_ _) rfl rfl) rfl) (by decide) fun hb => ?_
    refine sIte true (TB.isnt (ev rfl (at_ _) rfl rfl) rfl) ?_
    refine j44 F hb rfl (fun Q h => eCall1 (ev rfl (at_ _) rfl rfl) (c_779 (o10 w hs) (hq'.sub (SK_sub F)) h)) (Snp.len (o10 w hs)) (by decide) fun hb => ?_
    refine j44 F hb rfl (ev rfl (at_ _) rfl rfl) o12 (by decide) fun hb => ?_
    refine j47 F hb rfl (by decide) ⟨σ, SK_sub F, ?_⟩
    rw [List.append_assoc, List.append_assoc]
    exact h
end Mine
end
section
set_option tactic.hygienic false
set_option backward.match.sparseCases false
set_option maxRecDepth 10000
set_option linter.all false
namespace Mine
variable {con : Nat → Option (List V)} {C : Calls} {σ : Hp} {Q : K2} {n : Nat} {ρ : Rho} {ss : List S}
section
variable {c r a j k f cl : Nat} {data tl : List Nat} {fs : List (Nat × V)}
/-- o.f = cursor.varint() -/
theorem dA42 {x : Nat} (hk : ρ.get k = some (.ref c)) (hj : ρ.get j = some (.ref r)) (hrc : r ≠ c) (hr : σ r = some (.inst cl fs)) (hf : (progT con).fld cl f = true) (hl : fs.length ≤ 100) (A : At data a (vb x ++ tl)) (hx : x < 2 ^ 64)
    (h : At data (a + (vb x).length) tl → wpSs (progT con) (callN (progT con) progP (n + 3)) ss ρ (CK (upd σ r (.inst cl (setF f (.int x) fs))) c data (a + (vb x).length)) Q) : wpSs (progT con) (callN (progT con) progP (n + 3)) (.asgA (.var j) f (.meth (.var k) 42 []) :: ss) ρ (CK σ c data a) Q :=
  sAsgAE (eMeth0 (EV.var hk) CK_c M_257_42 rfl (c_205 CK_c A.fit hx A.rest (by
    refine ⟨_, hj, ?_⟩
    rw [CK_put]
    simp only
    rw [CK_ne hrc, hr]
    refine ⟨hf, hl, ?_⟩
    rw [CK_swap hrc]; exact h A.next)))
/-- o.f = cursor.flag() -/
theorem dA46 {t : Bool} (hk : ρ.get k = some (.ref c)) (hj : ρ.get j = some (.ref r)) (hrc : r ≠ c) (hr : σ r = some (.inst cl fs)) (hf : (progT con).fld cl f = true) (hl : fs.length ≤ 100) (A : At data a ([if t then 1 else 0] ++ tl))
    (h : At data (a + 1) tl → wpSs (progT con) (callN (progT con) progP (n + 1)) ss ρ (CK (upd σ r (.inst cl (setF f (.bool t) fs))) c data (a + 1)) Q) : wpSs (progT con) (callN (progT con) progP (n + 1)) (.asgA (.var j) f (.meth (.var k) 46 []) :: ss) ρ (CK σ c data a) Q :=
  sAsgAE (eMeth0 (EV.var hk) CK_c M_257_46 rfl (c_240 CK_c A.fit A.rest (by
    refine ⟨_, hj, ?_⟩
    rw [CK_put]
    simp only
    rw [CK_ne hrc, hr]
    refine ⟨hf, hl, ?_⟩
    rw [CK_swap hrc]; exact h A.next)))
/-- o.f = cursor.lengthed() -/
theorem dA44 {x : List Nat} (hk : ρ.get k = some (.ref c)) (hj : ρ.get j = some (.ref r)) (hrc : r ≠ c) (hr : σ r = some (.inst cl fs)) (hf : (progT con).fld cl f = true) (hl : fs.length ≤ 100) (A : At data a ((vb x.length ++ x) ++ tl)) (hx : x.length < 2 ^ 32)
    (h : At data (a + (vb x.length ++ x).length) tl → wpSs (progT con) (callN (progT con) progP (n + 4)) ss ρ (CK (upd σ r (.inst cl (setF f (.bytes x) fs))) c data (a + (vb x.length ++ x).length)) Q) : wpSs (progT con) (callN (progT con) progP (n + 4)) (.asgA (.var j) f (.meth (.var k) 44 []) :: ss) ρ (CK σ c data a) Q :=
  sAsgAE (eMeth0 (EV.var hk) CK_c M_257_44 rfl (c_226 CK_c A.fit hx A.le (by rw [← List.append_assoc]; exact A.rest) (by
    refine ⟨_, hj, ?_⟩
    rw [CK_put]
    simp only
    rw [CK_ne hrc, hr]
    refine ⟨hf, hl, ?_⟩
    rw [CK_swap hrc]; exact h A.next)))
end
end Mine
end
section
set_option tactic.hygienic false
set_option backward.match.sparseCases false
set_option maxRecDepth 10000
set_option linter.all false
namespace Mine
variable {con : Nat → Option (List V)} {C : Calls} {σ : Hp} {n : Nat} {ρ : Rho} {ss : List S}
theorem AsgP.mk {j f r cl : Nat} {fs : List (Nat × V)} {G : Hp → Prop} {T : Tab} {v : V} (hj : ρ.get j = some (.ref r)) (hr : σ r = some (.inst cl fs)) (hf : T.fld cl f = true) (hl : fs.length ≤ 100) (g : G (upd σ r (.inst cl (setF f v fs)))) : AsgP j f ρ G T v σ := ⟨_, hj, by
  simp only [hr]
  exact ⟨hf, hl, g⟩⟩
noncomputable def PushP (con : Nat → Option (List V)) (C : Calls) (L : Nat) (G : Hp → Prop) : K1 := fun v σ => methK (progT con) 50 σ (.ref L) = some 0 ∧ methP (progT con) C (.ref L) 50 [v] σ fun _ σ => G σ
theorem PushP.mk {L : Nat} {vs : List V} {v : V} {G : Hp → Prop} (hL : σ L = some (.lst vs)) (hl : vs.length < lim) (g : G (upd σ L (.lst (vs ++ [v])))) : PushP con C L G v σ := ⟨kL hL rfl, by rw [L32, hL]; exact ⟨rfl, hl, g⟩⟩
/-- o.append(e) -/
theorem sPushE {L : Nat} {vs : List V} {o e : E} {Q : K2} (ho : EV con C o ρ σ (.ref L)) (hL : σ L = some (.lst vs)) (g : wpE (progT con) C e ρ σ (PushP con C L fun σ => wpSs (progT con) C ss ρ σ Q)) : wpSs (progT con) C (.ex (.meth o 50 [e]) :: ss) ρ σ Q := ho _ ⟨0, kL hL rfl, g⟩
section
variable {c r a j k f cl : Nat} {data tl : List Nat} {fs : List (Nat × V)} {Q : K2}
theorem dB42 {x : Nat} (hk : ρ.get k = some (.ref c)) (hj : ρ.get j = some (.ref r)) (hrc : r ≠ c) (hf : (progT con).fld cl f = true) (hl : fs.length ≤ 100) (A : At data a (vb x ++ tl)) (hx : x < 2 ^ 64)
    (h : At data (a + (vb x).length) tl → wpSs (progT con) (callN (progT con) progP (n + 3)) ss ρ (CK (upd σ r (.inst cl (setF f (.int x) fs))) c data (a + (vb x).length)) Q) : wpSs (progT con) (callN (progT con) progP (n + 3)) (.asgA (.var j) f (.meth (.var k) 42 []) :: ss) ρ (CK (upd σ r (.inst cl fs)) c data a) Q :=
  dA42 hk hj hrc (upd_at ..) hf hl A hx fun A => by rw [upd_upd]; exact h A
theorem dB46 {t : Bool} (hk : ρ.get k = some (.ref c)) (hj : ρ.get j = some (.ref r)) (hrc : r ≠ c) (hf : (progT con).fld cl f = true) (hl : fs.length ≤ 100) (A : At data a ([if t then 1 else 0] ++ tl))
    (h : At data (a + 1) tl → wpSs (progT con) (callN (progT con) progP (n + 1)) ss ρ (CK (upd σ r (.inst cl (setF f (.bool t) fs))) c data (a + 1)) Q) : wpSs (progT con) (callN (progT con) progP (n + 1)) (.asgA (.var j) f (.meth (.var k) 46 []) :: ss) ρ (CK (upd σ r (.inst cl fs)) c data a) Q :=
  dA46 hk hj hrc (upd_at ..) hf hl A fun A => by rw [upd_upd]; exact h A
/-- if cursor.flag(): -/
theorem dIf46 {t : Bool} {x y : List S} (hk : ρ.get k = some (.ref c)) (A : At data a ([if t then 1 else 0] ++ tl))
    (h : At data (a + 1) tl → wpSs (progT con) (callN (progT con) progP (n + 1)) ((if t = true then x else y) ++ ss) ρ (CK σ c data (a + 1)) Q) : wpSs (progT con) (callN (progT con) progP (n + 1)) (.ite (.meth (.var k) 46 []) x y :: ss) ρ (CK σ c data a) Q := by
  exact ite_stepH (σ' := CK σ c data (a + 1)) t (fun Q hq => eMethB CK_c M_257_46 rfl (c_240 CK_c A.fit A.rest (by rw [CK_put]; exact hq)) hk) (h A.next)
/-- o.f = g(cursor.lengthed()) -/
theorem dA44f {g : Nat} {x : List Nat} (hk : ρ.get k = some (.ref c)) (A : At data a ((vb x.length ++ x) ++ tl)) (hx : x.length < 2 ^ 32)
    (h : At data (a + (vb x.length ++ x).length) tl → callN (progT con) progP (n + 4) g [.bytes x] (CK σ c data (a + (vb x.length ++ x).length)) (AsgP j f ρ (fun σ => wpSs (progT con) (callN (progT con) progP (n + 4)) ss ρ σ Q) (progT con))) : wpSs (progT con) (callN (progT con) progP (n + 4)) (.asgA (.var j) f (.call g [.meth (.var k) 44 []]) :: ss) ρ (CK σ c data a) Q :=
  sAsgAE (eCallE1 (eMeth0 (EV.var hk) CK_c M_257_44 rfl (c_226 CK_c A.fit hx A.le (by rw [← List.append_assoc]; exact A.rest) (by rw [CK_put]; exact h A.next))))
end
section
variable {k r L : Nat} {σ0 : Hp} {data tl : List Nat} {fs : List (Nat × V)}
noncomputable abbrev dmBody : List S := [.ex (.meth (.attr (.var 5) 35) 50 [.call 667 [.meth (.var 1) 44 []]])]
/-- one entry more -/
theorem dm_step {x0 x2 x3 x4 o x7 : Option V} {a : Nat} {e : Ent} {rs : List Nat} {done : List Ent} {υ : Hp} {Q : K2} (f2 : σ0 L = none) (hf : getF 35 fs = some (.ref L)) (oe : e.ok) (A : At data a (entB e ++ tl)) (hs : Sub σ0 υ) (hk : υ k = some (cur data a)) (hr : υ r = some (.inst 815 fs)) (hL : υ L = some (.lst (refs rs))) (he : EntsAt υ rs done) (hl : done.length ≤ 100) (f1 : σ0 k = none)
    (h : ∀ q υ', At data (a + (entB e).length) tl → Sub σ0 υ' → υ' k = some (cur data (a + (entB e).length)) → υ' r = some (.inst 815 fs) → υ' L = some (.lst (refs (rs ++ [q]))) → EntsAt υ' (rs ++ [q]) (done ++ [e]) → Q .next [x0, some (.ref k), x2, x3, x4, some (.ref r), o, x7] υ') :
    wpSs (progT con) (callN (progT con) progP (n + 5)) dmBody [x0, some (.ref k), x2, x3, x4, some (.ref r), o, x7] υ Q := by
  have le := Ent.octets_len oe
  refine sPushE (ev rfl hr rfl hf) hL (eCallE1 (eMeth0 (EV.var rfl) hk M_257_44 rfl (c_226 hk A.fit (x := e.octets) (Nat.lt_of_le_of_lt le (by decide)) A.le (tl := tl) (by rw [← List.append_assoc]; exact A.rest) ?_)))
  have hkk : KeepX k υ (CK υ k data (a + (entB e).length)) := CK_keep
  have g1 : υ L ≠ some (cur data a) := by rw [hL]; intro h; cases h
  have hLk : L ≠ k := ne_of_obj hL hk (by intro h; cases h)
  have hrk : r ≠ k := ne_of_obj hr hk (by intro h; cases h)
  have hrL : r ≠ L := ne_of_obj hr hL (by intro h; cases h)
  have t1 : CK υ k data (a + (entB e).length) L = _ := (CK_ne hLk).trans hL
  have t2 : CK υ k data (a + (entB e).length) r = _ := (CK_ne hrk).trans hr
  have t3 : CK υ k data (a + (entB e).length) k = _ := CK_c
  have t4 : EntsAt (CK υ k data (a + (entB e).length)) rs done := he.mono fun x fs hx => hkk.at hk hx (by intro h; cases h)
  have t5 : Sub σ0 (CK υ k data (a + (entB e).length)) := Sub.put hs f1
  show callN (progT con) progP (n + 5) 667 [.bytes e.octets] (CK υ k data (a + (entB e).length)) _
  generalize CK υ k data (a + (entB e).length) = υ1 at t1 t2 t3 t4 t5
  refine c_667 e oe fun q hq => ?_
  have n1 : L ≠ q := ne_of_free t1 hq
  have n2 : r ≠ q := ne_of_free t2 hq
  have n3 : k ≠ q := ne_of_free t3 hq
  refine PushP.mk (by rw [upd_ne _ _ n1]; exact t1) (by rw [refs_len, he.len]; unfold lim; lia) ?_
  refine h q _ (A.next (u := entB e)) ?_ ?_ ?_ ?_ ?_
  · exact Sub.put (Sub.put t5 (t5.free hq)) f2
  · rw [upd_ne _ _ hLk.symm, upd_ne _ _ n3]; exact t3
  · rw [upd_ne _ _ hrL, upd_ne _ _ n2]; exact t2
  · rw [upd_at]; simp [refs]
  · refine EntsAt.snoc (t4.mono fun x fs hx => ?_) ?_
    · rw [upd_ne _ _ (ne_of_obj hx t1 (by intro h; cases h)), upd_ne _ _ (ne_of_free hx hq)]; exact hx
    · rw [upd_ne _ _ n1.symm, upd_at]
theorem dm_loop {x0 x2 x3 x4 x7 : Option V} {src : V} {all : List V} {Q : K2} (hi : ∀ σ, itemsOf σ src = some all) (f1 : σ0 k = none) (f2 : σ0 L = none) (hf : getF 35 fs = some (.ref L)) : ∀ (es done : List Ent) (vs : List V) (a : Nat) (o : Option V) (rs : List Nat) (υ : Hp), vs.length = es.length → (∀ e ∈ es, e.ok) → done.length + es.length ≤ 100 → At data a ((es.map entB).flatten ++ tl) → Sub σ0 υ → υ k = some (cur data a) → υ r = some (.inst 815 fs) → υ L = some (.lst (refs rs)) → EntsAt υ rs done →
    (∀ o a rs υ, At data a tl → Sub σ0 υ → υ k = some (cur data a) → υ r = some (.inst 815 fs) → υ L = some (.lst (refs rs)) → EntsAt υ rs (done ++ es) → Q .next [x0, some (.ref k), x2, x3, x4, some (.ref r), o, x7] υ) →
    forLoop src all (fun v ρ σ Q => wpSs (progT con) (callN (progT con) progP (n + 5)) dmBody (ρ.set 6 (some v)) σ Q) vs [x0, some (.ref k), x2, x3, x4, some (.ref r), o, x7] υ Q
  | [], done, vs, a, o, rs, υ, hv, _, _, A, hs, hk, hr, hL, he, hQ => by
    have : vs = [] := List.length_eq_zero_iff.mp hv
    subst this
    exact for_end (hi _) (hQ o a rs υ A hs hk hr hL (by rw [List.append_nil]; exact he))
  | e :: es, done, [], a, o, rs, υ, hv, _, _, A, hs, hk, hr, hL, he, hQ => by simp at hv
  | e :: es, done, v :: vs, a, o, rs, υ, hv, ok, hl, A, hs, hk, hr, hL, he, hQ => by
    simp at hl
    refine for_turn (hi _) fun R hR => ?_
    refine dm_step (tl := (es.map entB).flatten ++ tl) f2 hf (ok e (.head _)) (by simpa using A) hs hk hr hL he (by lia) f1 fun q υ' A' hs' hk' hr' hL' he' => ?_
    refine ⟨_, Sub.refl _, ?_⟩
    rw [hR]
    refine dm_loop hi f1 f2 hf es (done ++ [e]) vs _ _ (rs ++ [q]) υ' (by simpa using hv) (fun x hx => ok x (.tail _ hx)) (by simp; lia) A' hs' hk' hr' hL' he' fun o a rs υ A hs hk hr hL he => ?_
    exact hQ o a rs υ A hs hk hr hL (by simpa using he)
end
end Mine
end
section
set_option tactic.hygienic false
set_option backward.match.sparseCases false
set_option maxRecDepth 10000
set_option linter.all false
namespace Mine
variable {con : Nat → Option (List V)} {C : Calls} {σ : Hp} {n : Nat} {ρ : Rho} {ss : List S}
theorem eNew4 {a b c d : E} {u v w : V} {cl : Nat} {G : K1} (h1 : EV con C a ρ σ u) (h2 : EV con C b ρ σ v) (h3 : EV con C c ρ σ w) (h4 : wpE (progT con) C d ρ σ fun x σ' => newP (progT con) C cl [u, v, w, x] σ' G) : wpE (progT con) C (.new cl [a, b, c, d]) ρ σ G := h1 _ (h2 _ (h3 _ h4))
/-- x = Message(k, s, d, cursor.varint()) -/
theorem dMsg {c y k x2 x3 x4 a t v1 v2 v3 : Nat} {data tl : List Nat} {Q : K2} (hk : ρ.get k = some (.ref c)) (h2 : ρ.get x2 = some (.int v1)) (h3 : ρ.get x3 = some (.int v2)) (h4 : ρ.get x4 = some (.int v3)) (A : At data a (vb t ++ tl)) (ht : t < 2 ^ 64)
    (h : ∀ r L, r ≠ c → L ≠ c → r ≠ L → σ r = none → σ L = none → At data (a + (vb t).length) tl → wpSs (progT con) (callN (progT con) progP (n + 3)) ss (ρ.set y (some (.ref r))) (CK (upd (upd σ L (.lst [])) r (.inst 815 (Msg.fs ⟨v1, v2, v3, t, 0, 0, [], 0, none, false, 0, []⟩ L .none))) c data (a + (vb t).length)) Q) :
    wpSs (progT con) (callN (progT con) progP (n + 3)) (.asg y (.new 815 [.var x2, .var x3, .var x4, .meth (.var k) 42 []]) :: ss) ρ (CK σ c data a) Q := by
  refine sAsgE (eNew4 (EV.var h2) (EV.var h3) (EV.var h4) (eMeth0 (EV.var hk) CK_c M_257_42 rfl (c_205 CK_c A.fit ht A.rest ?_)))
  rw [CK_put]
  refine c_800 fun r L hr hL hne => ?_
  have hrc : r ≠ c := fun e => by subst e; rw [CK_c] at hr; cases hr
  have hLc : L ≠ c := fun e => by subst e; rw [CK_c] at hL; cases hL
  rw [CK_ne hrc] at hr
  rw [CK_ne hLc] at hL
  rw [CK_swap hLc, CK_swap hrc]
  exact h r L hrc hLc hne hr hL A.next
/-- o.f = cursor.lengthed() -/
theorem dB44 {x : List Nat} {c r j k f cl a : Nat} {data tl : List Nat} {fs : List (Nat × V)} {Q : K2} (hk : ρ.get k = some (.ref c)) (hj : ρ.get j = some (.ref r)) (hrc : r ≠ c) (hr : σ r = some (.inst cl fs)) (hc : σ c = some (cur data a)) (hf : (progT con).fld cl f = true) (hl : fs.length ≤ 100) (A : At data a ((vb x.length ++ x) ++ tl)) (hx : x.length < 2 ^ 32)
    (h : At data (a + (vb x.length ++ x).length) tl → wpSs (progT con) (callN (progT con) progP (n + 4)) ss ρ (CK (upd σ r (.inst cl (setF f (.bytes x) fs))) c data (a + (vb x.length ++ x).length)) Q) : wpSs (progT con) (callN (progT con) progP (n + 4)) (.asgA (.var j) f (.meth (.var k) 44 []) :: ss) ρ σ Q := by
  rw [← CK_is hc]
  exact dA44 hk hj hrc hr hf hl A hx h
theorem entsB_ge : ∀ es : List Ent, es.length ≤ ((es.map entB).flatten).length
  | [] => by simp
  | e :: es => by
    have a := entsB_ge es
    have b := vb_pos e.octets.length
    simp [entB] at *; lia
/-- decode_message -/
theorem c_833 {Q : K1} {m : Msg} (ok : m.ok) (h : ∀ r τ, σ r = none → Sub σ τ → MsgAt τ r m → Q (.ref r) τ) : callN (progT con) progP (n + 9) 833 [.bytes m.octets] σ Q := by
  refine call_intro (d := ⟨1, 8, b_833, []⟩) rfl (Nat.le_refl 1) (Nat.le_refl 1) ?_
  have lo := Msg.len ok
  obtain ⟨o1, o2, o3, o4, o5, o6, o7, o8, o9, o10, o11, o12⟩ := ok
  refine dNew rfl (by unfold lim; lia) fun c hc A => ?_
  refine d42 (x := m.kind) (tl := vb m.src ++ (vb m.dst ++ (vb m.term ++ (vb m.lterm ++ (vb m.index ++ (vb m.commit ++ (vb m.hint ++ ([if m.rej then 1 else 0] ++ (vb m.entries.length ++
  ((m.entries.map entB).flatten ++ (snpB m.snap ++ (vb m.ctx.length ++ m.ctx)))))))))))) rfl A (by lia) fun A => ?_
  have h1 : ¬ 20 < (m.kind : Int) := by lia
  refine sIte false (TB.gt (EV.var rfl) EV.int (decide_eq_false h1)) ?_
  refine d42 rfl A o2 fun A => ?_
  refine d42 rfl A o3 fun A => ?_
  refine dMsg rfl rfl rfl rfl A o4 fun r L hrc hLc hrL hr hL A => ?_
  refine dB42 rfl rfl hrc F_815_34 (Nat.le_of_ble_eq_true rfl) A o5 fun A => ?_
  refine dB42 rfl rfl hrc F_815_17 (Nat.le_of_ble_eq_true rfl) A o6 fun A => ?_
  refine dB42 rfl rfl hrc F_815_36 (Nat.le_of_ble_eq_true rfl) A o9 fun A => ?_
  refine dB42 rfl rfl hrc F_815_39 (Nat.le_of_ble_eq_true rfl) A o11 fun A => ?_
  refine dB46 rfl rfl hrc F_815_38 (Nat.le_of_ble_eq_true rfl) A fun A => ?_
  generalize 0 + _ + _ + _ + _ + _ + _ + _ + _ + 1 = a at *
  have efs : setF 38 (V.bool m.rej) (setF 39 (V.int m.hint) (setF 36 (V.int m.commit) (setF 17 (V.int m.index) (setF 34 (V.int m.lterm) (Msg.fs ⟨m.kind, m.src, m.dst, m.term, 0, 0, [], 0, none, false, 0, []⟩ L .none))))) = Msg.fs { m with ctx := [] } L .none := rfl
  rw [efs]; clear efs
  refine sForE fun R hR => eBiE1 (eCall1 (EV.var rfl) (c_604 A (by have := entsB_ge m.entries; rw [List.length_append]; lia) fun A => ?_))
  show biP .range [.int _] _ _
  rw [L25]
  refine ⟨by lia, _, rfl, by simp [lim]; lia, ?_⟩
  generalize a + _ = a at *
  refine dm_loop (σ0 := σ) (fs := Msg.fs { m with ctx := [] } L .none) (fun σ => rfl) hc hL rfl m.entries [] _ a none [] _ (by simp) o8 (by simp; lia) A ?_ CK_c ?_ ?_ trivial fun o a rs υ A hs hk hr' hL' he => ?_
  · exact Sub.put (Sub.put (Sub.put (Sub.refl _) hL) hr) hc
  · rw [CK_ne hrc, upd_at]
  · rw [CK_ne hLc, upd_ne _ _ hrL.symm, upd_at]; rfl
  show R _ _
  rw [hR]; clear hR R
  rw [← CK_is hk]
  rw [List.nil_append] at he
  induction hsn : m.snap using Option.casesOn with
  | none =>
    rw [hsn] at A
    refine dIf46 (t := false) rfl A fun A => ?_
    refine dB44 (tl := []) rfl rfl hrc ((CK_ne hrc).trans hr') CK_c F_815_40 (Nat.le_of_ble_eq_true rfl) (by simpa using A) (by lia) fun A => ?_
    refine d47 rfl A ?_
    refine sRet (EV.var rfl) ⟨_, Sub.refl _, h r _ hr ?_ ?_⟩
    · exact Sub.put (Sub.put (Sub.put hs hc) hr) hc
    · refine ⟨L, .none, rs, (CK_ne hrc).trans (upd_at ..), ?_, he.mono fun x fs hx => ?_, by rw [hsn]; rfl⟩
      · rw [CK_ne hLc, upd_ne _ _ hrL.symm, CK_ne hLc]; exact hL'
      · have n1 := ne_of_obj hx hk (by intro h; cases h)
        have n2 := ne_of_obj hx hr' (by intro h; cases h)
        rw [CK_ne n1, upd_ne _ _ n2, CK_ne n1]; exact hx
  | some w =>
    rw [hsn] at A
    have okw := o10 w hsn
    have lw := Snp.len okw
    refine dIf46 (t := true) (tl := (vb w.octets.length ++ w.octets) ++ (vb m.ctx.length ++ m.ctx)) rfl (by simpa [snpB] using A) fun A => ?_
    refine dA44f rfl A (by lia) fun A => ?_
    generalize a + 1 + _ = a1 at *
    refine c_786 okw fun q τ hq st hsa => ?_
    have g1 := st _ _ ((CK_ne hrc).trans hr')
    have g2 := st _ _ ((CK_ne hLc).trans hL')
    have g3 := st _ _ CK_c
    have g4 : EntsAt τ rs m.entries := he.mono fun x fs hx => st _ _ ((CK_ne (ne_of_obj hx hk (by intro h; cases h))).trans hx)
    have g5 : Sub σ τ := (Sub.put hs hc).trans st
    refine AsgP.mk rfl g1 F_815_37 (Nat.le_of_ble_eq_true rfl) ?_
    refine dB44 (tl := []) rfl rfl hrc (upd_at ..) ((upd_ne _ _ hrc.symm).trans g3) F_815_40 (Nat.le_of_ble_eq_true rfl) A.app0 (by lia) fun A => ?_
    rw [upd_upd]
    refine d47 rfl A ?_
    refine sRet (EV.var rfl) ⟨_, Sub.refl _, h r _ hr ?_ ?_⟩
    · exact Sub.put (Sub.put g5 hr) hc
    · refine ⟨L, .ref q, rs, (CK_ne hrc).trans (upd_at ..), ?_, g4.mono fun x fs hx => ?_, ?_⟩
      · rw [CK_ne hLc, upd_ne _ _ hrL.symm]; exact g2
      · have n1 := ne_of_obj hx g3 (by intro h; cases h)
        have n2 := ne_of_obj hx g1 (by intro h; cases h)
        rw [CK_ne n1, upd_ne _ _ n2]; exact hx
      · rw [hsn]
        refine ⟨q, rfl, ?_⟩
        have s1 : SnpAt (upd τ r (.inst 815 (setF 40 (.bytes m.ctx) (setF 37 (.ref q) (Msg.fs { m with ctx := [] } L .none))))) q w := hsa.keep g1 (by decide) (by decide) fun y o hy e => (upd_ne _ _ hy).trans e
        exact s1.keep ((upd_ne _ _ hrc.symm).trans g3) (by decide) (by decide) CK_keep
end Mine
end
section
set_option tactic.hygienic false
set_option backward.match.sparseCases false
set_option maxRecDepth 10000
set_option linter.all false
namespace Mine
variable {con : Nat → Option (List V)} {C : Calls} {σ : Hp} {Q : K1} {n : Nat} {ρ : Rho} {ss : List S}
/-! ## FileMeta, RunInfo -/
structure Fm where
  number : Nat
  size : Nat
  small : List Nat
  large : List Nat
noncomputable def Fm.fs (e : Fm) : List (Nat × V) := [(3, .int e.number), (4, .int e.size), (5, .bytes e.small), (6, .bytes e.large)]
noncomputable def Fm.row (e : Fm) : List V := [.int e.number, .int e.size, .bytes e.small, .bytes e.large]
structure Run where
  level : Nat
  size : Nat
  check : Nat
  small : List Nat
  large : List Nat
noncomputable def Run.fs (e : Run) : List (Nat × V) := [(15, .int e.level), (4, .int e.size), (16, .int e.check), (5, .bytes e.small), (6, .bytes e.large)]
noncomputable def Run.row (e : Run) : List V := [.int e.level, .int e.size, .int e.check, .bytes e.small, .bytes e.large]
theorem c_352 {n : Nat} (e : Fm) (h : ∀ r, σ r = none → Q (.ref r) (upd σ r (.inst 362 e.fs))) : newP (progT con) (callN (progT con) progP (n + 1)) 362 e.row σ Q := by
  show ∀ r, σ r = none → callN (progT con) progP (n + 1) 352 (.ref r :: e.row) (upd σ r (.inst 362 [])) fun v σ' => v = .none ∧ Q (.ref r) σ'
  intro r hr
  refine call_intro (d := ⟨5, 6, b_352, []⟩) rfl (Nat.le_refl 5) (Nat.le_refl 5) ?_
  exact initSeq (σ := σ) rfl [(3, 1), (4, 2), (5, 3), (6, 4)] e.row [] rfl rfl (Nat.le_of_ble_eq_true rfl) ⟨_, Sub.refl _, rfl, h r hr⟩
theorem c_359 {n r : Nat} (e : Fm) (hr : σ r = some (.inst 362 e.fs)) (h : Q (.tup e.row) σ) : callN (progT con) progP (n + 1) 359 [.ref r] σ Q := by
  refine call_intro (d := ⟨1, 2, b_359, []⟩) rfl (Nat.le_refl 1) (Nat.le_refl 1) ?_
  exact sRetE (rowSeq rfl hr [3, 4, 5, 6] e.row rfl rfl _ ⟨Nat.le_of_ble_eq_true rfl, _, Sub.refl _, h⟩)
theorem c_443 {n : Nat} (e : Run) (h : ∀ r, σ r = none → Q (.ref r) (upd σ r (.inst 460 e.fs))) : newP (progT con) (callN (progT con) progP (n + 1)) 460 e.row σ Q := by
  show ∀ r, σ r = none → callN (progT con) progP (n + 1) 443 (.ref r :: e.row) (upd σ r (.inst 460 [])) fun v σ' => v = .none ∧ Q (.ref r) σ'
  intro r hr
  refine call_intro (d := ⟨6, 7, b_443, []⟩) rfl (Nat.le_refl 6) (Nat.le_refl 6) ?_
  exact initSeq (σ := σ) rfl [(15, 1), (4, 2), (16, 3), (5, 4), (6, 5)] e.row [] rfl rfl (Nat.le_of_ble_eq_true rfl) ⟨_, Sub.refl _, rfl, h r hr⟩
theorem c_450 {n r : Nat} (e : Run) (hr : σ r = some (.inst 460 e.fs)) (h : Q (.tup e.row) σ) : callN (progT con) progP (n + 1) 450 [.ref r] σ Q := by
  refine call_intro (d := ⟨1, 2, b_450, []⟩) rfl (Nat.le_refl 1) (Nat.le_refl 1) ?_
  exact sRetE (rowSeq rfl hr [15, 4, 16, 5, 6] e.row rfl rfl _ ⟨Nat.le_of_ble_eq_true rfl, _, Sub.refl _, h⟩)
/-! ## read_fixed32 -/
theorem EV.shlN {e : E} {b s : Nat} (he : EV con C e ρ σ (.int b)) (hb : b < 256) (hs : s ≤ 100) : EV con C (.bin .shl e (.int s)) ρ σ (.int ((b * 2 ^ s : Nat) : Int)) := by
  have g : (b : Int) * 2 ^ ((s : Int).toNat) = ((b * 2 ^ s : Nat) : Int) := by simp
  rw [← g]
  exact EV.shl he EV.nat (Int.natCast_nonneg s) (by lia) (by lia)
theorem EV.orN {e e' : E} {a b : Nat} (he : EV con C e ρ σ (.int a)) (he' : EV con C e' ρ σ (.int b)) : EV con C (.bin .or e e') ρ σ (.int ((a ||| b : Nat) : Int)) := EV.or he he' (Int.natCast_nonneg a) (Int.natCast_nonneg b)
theorem EV.at {data : List Nat} {a k b : Nat} {x y : Nat} (hx : ρ.get x = some (.bytes data)) (hy : ρ.get y = some (.int a)) (hd : data.length ≤ lim) (hb : data[a + k]? = some b) : EV con C (.idx (.var x) (.bin .add (.var y) (.int k))) ρ σ (.int b) := EV.idxB (k := a + k) (EV.var hx) (EV.add (EV.var hy) EV.nat) hd hb
theorem c_169 {n x a : Nat} {data tl : List Nat} (hd : data.length ≤ lim) (hx : x < 2 ^ 32) (hdr : data.drop a = f32 x ++ tl) (h : Q (.int x) σ) : callN (progT con) progP (n + 1) 169 [.bytes data, .int a] σ Q := by
  refine call_intro (d := ⟨2, 3, b_169, []⟩) rfl (Nat.le_refl 2) (Nat.le_refl 2) ?_
  have hlen : a + 4 ≤ data.length := by
    have := congrArg List.length hdr
    simp [f32] at this; lia
  have d0 : data[a]? = some (x % 256) := by have := congrArg (fun l => l[0]?) hdr; simpa [f32] using this
  have d1 : data[a + 1]? = some (x / 256 % 256) := by have := congrArg (fun l => l[1]?) hdr; simpa [f32] using this
  have d2 : data[a + 2]? = some (x / 65536 % 256) := by have := congrArg (fun l => l[2]?) hdr; simpa [f32] using this
  have d3 : data[a + 3]? = some (x / 16777216) := by have := congrArg (fun l => l[3]?) hdr; simpa [f32] using this
  refine sIte false (TB.or2 (TB.lt (EV.var rfl) EV.int (i_neg a)) (TB.gt (EV.add (EV.var rfl) EV.int) (EV.lenB (EV.var rfl) hd) (i_ngt hlen))) ?_
  have key := (((EV.idxB (EV.var (x := 0) rfl) (EV.var (x := 1) rfl) hd d0).orN ((EV.at (ρ := [some (.bytes data), some (.int a), none]) (con := con) (C := callN (progT con) progP n) (σ := σ) (x := 0) (y := 1) (k := 1) rfl rfl hd d1).shlN (s := 8) (Nat.mod_lt _ (by decide)) (by decide))).orN ((EV.at (x := 0) (y := 1) (k := 2) rfl rfl hd d2).shlN (s := 16) (Nat.mod_lt _ (by decide)) (by decide))).orN ((EV.at (x := 0) (y := 1) (k := 3) rfl rfl hd d3).shlN (s := 24) (by lia) (by decide))
  refine sRetE (key _ ?_)
  have q1 : x % 256 ||| x / 256 % 256 * 2 ^ 8 = x % 256 + x / 256 % 256 * 2 ^ 8 := orShift (by lia)
  have q2 : (x % 256 + x / 256 % 256 * 2 ^ 8) ||| x / 65536 % 256 * 2 ^ 16 = x % 256 + x / 256 % 256 * 2 ^ 8 + x / 65536 % 256 * 2 ^ 16 := orShift (by lia)
  have q3 : (x % 256 + x / 256 % 256 * 2 ^ 8 + x / 65536 % 256 * 2 ^ 16) ||| x / 16777216 * 2 ^ 24 = x % 256 + x / 256 % 256 * 2 ^ 8 + x / 65536 % 256 * 2 ^ 16 + x / 16777216 * 2 ^ 24 := orShift (by lia)
  rw [q1, q2, q3, show x % 256 + x / 256 % 256 * 2 ^ 8 + x / 65536 % 256 * 2 ^ 16 + x / 16777216 * 2 ^ 24 = x by lia]
  exact ⟨_, Sub.refl _, h⟩
theorem c_212 {n x a c : Nat} {data tl : List Nat} (hc : σ c = some (cur data a)) (hd : data.length ≤ lim) (hx : x < 2 ^ 32) (hdr : data.drop a = f32 x ++ tl) (h : Q (.int x) (upd σ c (cur data (a + 4)))) : callN (progT con) progP (n + 2) 212 [.ref c] σ Q := by
  refine call_intro (d := ⟨1, 3, b_212, []⟩) rfl (Nat.le_refl 1) (Nat.le_refl 1) ?_
  refine sAsgE (eCall2 (ev rfl hc rfl rfl) (ev rfl hc rfl rfl) (c_169 hd hx hdr ?_))
  exact sAddA rfl hc F_257_1 rfl (Nat.le_of_ble_eq_true rfl) EV.int (sRet (EV.var rfl) ⟨_, Sub.refl _, h⟩)
/-- y = cursor.fixed32() -/
theorem d43 {x c k a y : Nat} {data tl : List Nat} {Q : K2} (hk : ρ.get k = some (.ref c)) (A : At data a (f32 x ++ tl)) (hx : x < 2 ^ 32)
    (h : At data (a + 4) tl → wpSs (progT con) (callN (progT con) progP (n + 2)) ss (ρ.set y (some (.int x))) (CK σ c data (a + 4)) Q) : wpSs (progT con) (callN (progT con) progP (n + 2)) (.asg y (.meth (.var k) 43 []) :: ss) ρ (CK σ c data a) Q := by
  exact sAsgE (eMeth0 (EV.var hk) CK_c M_257_43 rfl (c_212 CK_c A.fit hx A.rest (by rw [CK_put]; exact h (A.next (u := f32 x)))))
end Mine
end
section
set_option tactic.hygienic false
set_option backward.match.sparseCases false
set_option maxRecDepth 10000
set_option linter.all false
namespace Mine
variable {con : Nat → Option (List V)} {C : Calls} {σ : Hp} {Q : K1} {n : Nat} {ρ : Rho} {ss : List S}
/-! ## Manifesto -/
noncomputable def RunsAt (σ : Hp) : List Nat → List Run → Prop
  | [], [] => True
  | r :: rs, e :: es => σ r = some (.inst 460 e.fs) ∧ RunsAt σ rs es
  | _, _ => False
theorem RunsAt.len {σ : Hp} : ∀ {rs es}, RunsAt σ rs es → rs.length = es.length
  | [], [], _ => rfl
  | _ :: _, _ :: _, h => by simp [RunsAt.len h.2]
  | [], _ :: _, h => h.elim
  | _ :: _, [], h => h.elim
theorem RunsAt.mono {σ τ : Hp} : ∀ {rs es}, RunsAt σ rs es → (∀ x fs, σ x = some (.inst 460 fs) → τ x = some (.inst 460 fs)) → RunsAt τ rs es
  | [], [], _, _ => trivial
  | _ :: _, _ :: _, h, g => ⟨g _ _ h.1, h.2.mono g⟩
  | [], _ :: _, h, _ => h.elim
  | _ :: _, [], h, _ => h.elim
theorem RunsAt.snoc {σ : Hp} {r : Nat} {e : Run} : ∀ {rs es}, RunsAt σ rs es → σ r = some (.inst 460 e.fs) → RunsAt σ (rs ++ [r]) (es ++ [e])
  | [], [], _, h => ⟨h, trivial⟩
  | _ :: _, _ :: _, h, g => ⟨h.1, h.2.snoc g⟩
  | [], _ :: _, h, _ => h.elim
  | _ :: _, [], h, _ => h.elim
structure Run.ok (e : Run) : Prop where
  level : e.level < 12
  size : e.size < 2 ^ 64
  check : e.check < 2 ^ 32
  small : e.small.length ≤ 10000
  large : e.large.length ≤ 10000
noncomputable def runB (e : Run) : List Nat := vb e.level ++ (vb e.size ++ (f32 e.check ++ ((vb e.small.length ++ e.small) ++ (vb e.large.length ++ e.large))))
theorem f32_len (x : Nat) : (f32 x).length = 4 := rfl
theorem runB_len {e : Run} (ok : e.ok) : (runB e).length ≤ 20040 := by
  obtain ⟨o1, o2, o3, o4, o5⟩ := ok
  have l1 := vb_len10 (n := e.level) (by lia)
  have l2 := vb_len10 o2
  have l4 := vb_len5 (n := e.small.length) (by lia)
  have l5 := vb_len5 (n := e.large.length) (by lia)
  simp [runB, f32_len]; lia
theorem runs_tot : ∀ es : List Run, (∀ e ∈ es, e.ok) → ((es.map runB).flatten).length ≤ 20040 * es.length
  | [], _ => by simp
  | e :: es, h => by
    have a := runB_len (h e (.head _))
    have b := runs_tot es fun x hx => h x (.tail _ hx)
    simp at *; lia
structure Man where
  index : Nat
  term : Nat
  conf : List Nat
  seq : Nat
  runs : List Run
structure Man.ok (m : Man) : Prop where
  index : m.index < 2 ^ 64
  term : m.term < 2 ^ 64
  conf : m.conf.length ≤ 10000
  seq : m.seq ≤ 72057594037927935
  few : m.runs.length ≤ 10
  each : ∀ e ∈ m.runs, e.ok
noncomputable def Man.fs (m : Man) (L : Nat) : List (Nat × V) := [(17, .int m.index), (18, .int m.term), (19, .bytes m.conf), (10, .int m.seq), (20, .ref L)]
noncomputable def Man.row (m : Man) : List V := [.int m.index, .int m.term, .bytes m.conf, .int m.seq, .tup (m.runs.map fun e => .tup e.row)]
noncomputable def Man.octets (m : Man) : List Nat := vb m.index ++ (vb m.term ++ (vb m.seq ++ ((vb m.conf.length ++ m.conf) ++ (vb m.runs.length ++ (m.runs.map runB).flatten))))
noncomputable def ManAt (σ : Hp) (r : Nat) (m : Man) : Prop := ∃ L rs, σ r = some (.inst 495 (m.fs L)) ∧ σ L = some (.lst (refs rs)) ∧ RunsAt σ rs m.runs
theorem Man.len {m : Man} (ok : m.ok) : m.octets.length ≤ 211000 := by
  obtain ⟨o1, o2, o3, o4, o5, o6⟩ := ok
  have l1 := vb_len10 o1
  have l2 := vb_len10 o2
  have l3 := vb_len10 (n := m.seq) (by lia)
  have l4 := vb_len5 (n := m.conf.length) (by lia)
  have l5 := vb_len10 (n := m.runs.length) (by lia)
  have l6 := runs_tot m.runs o6
  simp only [Man.octets, List.length_append]; lia
/-- Manifesto(..) -/
theorem c_478 {L : Nat} (m : Man) (h : ∀ r, σ r = none → Q (.ref r) (upd σ r (.inst 495 (m.fs L)))) : newP (progT con) (callN (progT con) progP (n + 1)) 495 [.int m.index, .int m.term, .bytes m.conf, .int m.seq, .ref L] σ Q := by
  show ∀ r, σ r = none → callN (progT con) progP (n + 1) 478 [.ref r, .int m.index, .int m.term, .bytes m.conf, .int m.seq, .ref L] (upd σ r (.inst 495 [])) fun v σ' => v = .none ∧ Q (.ref r) σ'
  intro r hr
  refine call_intro (d := ⟨6, 7, b_478, []⟩) rfl (Nat.le_refl 6) (Nat.le_refl 6) ?_
  exact initSeq (σ := σ) rfl [(17, 1), (18, 2), (19, 3), (10, 4), (20, 5)] [.int m.index, .int m.term, .bytes m.conf, .int m.seq, .ref L] [] rfl rfl (Nat.le_of_ble_eq_true rfl) ⟨_, Sub.refl _, rfl, h r hr⟩
theorem mrow_loop {q L : Nat} {all : List V} {Q : K2} {x0 x3 : Option V} (hq : σ q = none) (hL : σ L = some (.lst all)) : ∀ (rs : List Nat) (es : List Run) (acc : List V) (o : Option V), RunsAt σ rs es → acc.length + es.length ≤ 100 →
    (∀ o, Q .next [x0, some (.ref q), o, x3] (upd σ q (.lst (acc ++ es.map fun e => .tup e.row)))) →
    forLoop (.ref L) all (fun v ρ σ Q => wpSs (progT con) (callN (progT con) progP (n + 1)) [.ex (.meth (.var 1) 50 [.meth (.var 2) 48 []])] (ρ.set 2 (some v)) σ Q) (refs rs) [x0, some (.ref q), o, x3] (upd σ q (.lst acc)) Q
  | [], [], acc, o, _, _, hQ => for_end (itemsL (by rw [upd_ne _ _ (ne_of_free hL hq)]; exact hL)) (by rw [show ([] : List Run).map (fun e => V.tup e.row) = [] from rfl, List.append_nil] at hQ; exact hQ o)
  | [], _ :: _, _, _, h, _, _ => h.elim
  | _ :: _, [], _, _, h, _, _ => h.elim
  | r :: rs, e :: es, acc, o, h, hl, hQ => by
    have hl : acc.length + (es.length + 1) ≤ 100 := hl
    refine for_turn (itemsL (by rw [upd_ne _ _ (ne_of_free hL hq)]; exact hL)) fun R hR => ?_
    have hr : upd σ q (.lst acc) r = some (.inst 460 e.fs) := by rw [upd_ne _ _ (ne_of_free h.1 hq)]; exact h.1
    refine sPushE (EV.var rfl) (upd_at ..) (eMeth0 (EV.var rfl) hr M_460_48 rfl (c_450 e hr (PushP.mk (upd_at ..) (Nat.lt_of_le_of_lt (by lia : acc.length ≤ 99) (Nat.le_of_ble_eq_true rfl)) ⟨_, Sub.refl _, ?_⟩)))
    rw [upd_upd, hR]
    exact mrow_loop hq hL rs es _ _ h.2 (by rw [List.length_append, List.length_singleton]; lia) fun o => by rw [List.append_assoc]; exact hQ o
/-- Manifesto.row -/
theorem c_485 {r : Nat} {m : Man} (ok : m.ok) (hm : ManAt σ r m) (h : Q (.tup m.row) σ) : callN (progT con) progP (n + 2) 485 [.ref r] σ Q := by
  refine call_intro (d := ⟨1, 4, b_485, []⟩) rfl (Nat.le_refl 1) (Nat.le_refl 1) ?_
  obtain ⟨L, rs, h1, h2, h3⟩ := hm
  have hl := ok.few
  have rl : (refs rs).length = m.runs.length := by rw [refs_len, h3.len]
  have hle : (refs rs).length ≤ lim := by rw [rl]; exact Nat.le_trans hl (Nat.le_of_ble_eq_true rfl)
  refine sList0 fun q hq => ?_
  have n1 := ne_of_free h1 hq
  have n2 := ne_of_free h2 hq
  refine sFor (ev rfl (by rw [upd_ne _ _ n1]; exact h1) rfl rfl) (itemsL (by rw [upd_ne _ _ n2]; exact h2)) hle fun R hR => ?_
  refine mrow_loop hq h2 rs m.runs [] _ h3 (by rw [List.length_nil]; lia) fun o => ?_
  show R _ _
  rw [hR]; clear hR R
  have g : Sub σ (upd σ q (.lst ([] ++ m.runs.map fun e => .tup e.row))) := Sub.put (Sub.refl _) hq
  have k1 := g _ _ h1
  have k2 := upd_at σ q (.lst ([] ++ m.runs.map fun e => .tup e.row))
  have k3 : ([] ++ m.runs.map fun (e : Run) => V.tup e.row).length ≤ lim := by rw [List.nil_append, List.length_map]; exact Nat.le_trans hl (Nat.le_of_ble_eq_true rfl)
  generalize upd σ q (.lst ([] ++ m.runs.map fun e => .tup e.row)) = τ at *
  refine sRetE (EVs.tup (vs := m.row) ?_ (Nat.le_of_ble_eq_true rfl) _ ⟨σ, g, h⟩)
  exact ⟨ev rfl k1 rfl rfl, ev rfl k1 rfl rfl, ev rfl k1 rfl rfl, ev rfl k1 rfl rfl, EV.tupL (EV.var rfl) k2 k3, rfl⟩
theorem men_loop {s p L : Nat} {all : List V} {Q : K2} {x0 x3 : Option V} (hL : σ L = some (.lst all)) (F : New2 σ s p) : ∀ (rs : List Nat) (es : List Run) (b : List Nat) (o : Option V), RunsAt σ rs es → (∀ e ∈ es, e.ok) → b.length + 20040 * es.length ≤ 870000 →
    (∀ o, Q .next [x0, some (.ref s), o, x3] (SK σ s p (b ++ (es.map runB).flatten))) →
    forLoop (.ref L) all (fun v ρ σ Q => wpSs (progT con) (callN (progT con) progP (n + 3)) [.ex (.meth (.var 1) 42 [.attr (.var 2) 15]), .ex (.meth (.var 1) 42 [.attr (.var 2) 4]), .ex (.meth (.var 1) 43 [.attr (.var 2) 16]), .ex (.meth (.var 1) 44 [.attr (.var 2) 5]), .ex (.meth (.var 1) 44 [.attr (.var 2) 6])] (ρ.set 2 (some v)) σ Q) (refs rs) [x0, some (.ref s), o, x3] (SK σ s p b) Q
  | [], [], b, o, _, _, _, hQ => for_end (itemsL (SK_old F hL)) (by rw [show (([] : List Run).map runB).flatten = [] from rfl, List.append_nil] at hQ; exact hQ o)
  | [], _ :: _, _, _, h, _, _, _ => h.elim
  | _ :: _, [], _, _, h, _, _, _ => h.elim
  | r :: rs, e :: es, b, o, h, ok, hl, hQ => by
    have oe := ok e (.head _)
    have le := runB_len oe
    have hl : b.length + 20040 * (es.length + 1) ≤ 870000 := hl
    refine for_turn (itemsL (SK_old F hL)) fun R hR => ?_
    have at_ : ∀ b, SK σ s p b r = some (.inst 460 e.fs) := fun b => SK_old F h.1
    have hb : b.length ≤ 849960 := by lia
    refine j42 F hb rfl (ev rfl (at_ _) rfl rfl) (Nat.lt_trans oe.level (by decide)) (by decide) fun hb => ?_
    refine j42 F hb rfl (ev rfl (at_ _) rfl rfl) oe.size (by decide) fun hb => ?_
    refine j43 F hb rfl (ev rfl (at_ _) rfl rfl) oe.check (by decide) fun hb => ?_
    refine j44 F hb rfl (ev rfl (at_ _) rfl rfl) oe.small (by decide) fun hb => ?_
    refine j44 F hb rfl (ev rfl (at_ _) rfl rfl) oe.large (by decide) fun hb => ?_
    refine ⟨_, Sub.refl _, ?_⟩
    rw [hR, List.append_assoc, List.append_assoc, List.append_assoc, List.append_assoc]
    refine men_loop hL F rs es (b ++ runB e) _ h.2 (fun x hx => ok x (.tail _ hx)) (by rw [List.length_append]; lia) fun o => ?_
    rw [List.append_assoc]
    exact hQ o
/-- Manifesto.encode -/
theorem c_492 {r : Nat} {m : Man} (ok : m.ok) (hm : ManAt σ r m) (h : Q (.bytes m.octets) σ) : callN (progT con) progP (n + 4) 492 [.ref r] σ Q := by
  refine call_intro (d := ⟨1, 4, b_492, []⟩) rfl (Nat.le_refl 1) (Nat.le_refl 1) ?_
  obtain ⟨L, rs, h1, h2, h3⟩ := hm
  obtain ⟨o1, o2, o3, o4, o5, o6⟩ := ok
  have l6 := runs_tot m.runs o6
  have rl : (refs rs).length = m.runs.length := by rw [refs_len, h3.len]
  have hle : (refs rs).length ≤ lim := by rw [rl]; exact Nat.le_trans o5 (Nat.le_of_ble_eq_true rfl)
  refine kNew fun s p F => ?_
  have at_ : ∀ b, SK σ s p b r = some (.inst 495 (m.fs L)) := fun b => SK_old F h1
  have at2 : ∀ b, SK σ s p b L = _ := fun b => SK_old F h2
  refine j42 F (N := 0) (Nat.le_refl 0) rfl (ev rfl (at_ _) rfl rfl) o1 (by decide) fun hb => ?_
  refine j42 F hb rfl (ev rfl (at_ _) rfl rfl) o2 (by decide) fun hb => ?_
  refine j42 F hb rfl (ev rfl (at_ _) rfl rfl) (Nat.lt_of_le_of_lt o4 (by decide)) (by decide) fun hb => ?_
  refine j44 F hb rfl (ev rfl (at_ _) rfl rfl) o3 (by decide) fun hb => ?_
  refine j42 F hb rfl (x := m.runs.length) (by rw [← rl]; exact EV.lenL (ev rfl (at_ _) rfl rfl) (at2 _) hle) (Nat.lt_of_le_of_lt o5 (by decide)) (by decide) fun hb => ?_
  generalize hB : (_ ++ vb m.runs.length : List Nat) = B at hb ⊢
  have hBm : m.octets = B ++ (m.runs.map runB).flatten := by
    rw [← hB]; unfold Man.octets; simp only [List.append_assoc, List.nil_append]
  rw [hBm] at h
  refine sFor (ev rfl (at_ _) rfl rfl) (itemsL (at2 _)) hle fun R hR => ?_
  refine men_loop h2 F rs m.runs B none h3 o6 (by lia) fun o => ?_
  show R _ _
  rw [hR]; clear hR R
  exact j47 F (N := 300000) (by rw [List.length_append]; lia) rfl (by decide) ⟨σ, SK_sub F, h⟩
end Mine
end
section
set_option tactic.hygienic false
set_option backward.match.sparseCases false
set_option maxRecDepth 10000
set_option linter.all false
namespace Mine
variable {con : Nat → Option (List V)} {C : Calls} {σ : Hp} {n : Nat} {ρ : Rho} {ss : List S}
theorem sWhl {c : E} {b : List S} {Q : K2} (h : ∀ R : Rho → Hp → Prop, (∀ ρ σ, R ρ σ = wpSs (progT con) C ss ρ σ Q) → ∃ n, whileLoop (fun ρ σ Q => wpB (progT con) C c ρ σ Q) (fun ρ σ Q => wpSs (progT con) C b ρ σ Q) n ρ σ (Fin2 R Q)) : wpSs (progT con) C (.whl c b :: ss) ρ σ Q := seq_step fun R hR => by
  have g := h R hR
  have e : Fin2 R Q = fun f ρ σ => match f with
    | .next => R ρ σ
    | .ret r => Q (.ret r) ρ σ := by
    funext f ρ σ
    induction f using Mine.Fl.casesOn <;> rfl
  rw [e] at g
  exact g
noncomputable abbrev dmanBody : List S := [.asg 8 (.meth (.var 1) 42 []), .ite (.cmp .ge (.var 8) (.int 12)) [.raise] [], .asg 9 (.meth (.var 1) 42 []), .asg 10 (.meth (.var 1) 43 []), .asg 11 (.meth (.var 1) 44 []), .asg 12 (.meth (.var 1) 44 []), .ex (.meth (.var 7) 50 [.new 460 [.var 8, .var 9, .var 10, .var 11, .var 12]])]
section
variable {c q : Nat} {σ0 : Hp} {data tl : List Nat} {x0 x2 x3 x4 x5 x6 x13 : Option V}
theorem dman_step {o8 o9 o10 o11 o12 : Option V} {a : Nat} {e : Run} {rs : List Nat} {done : List Run} {υ : Hp} {Q : K2} (f1 : σ0 c = none) (f2 : σ0 q = none) (oe : e.ok) (A : At data a (runB e ++ tl)) (hs : Sub σ0 υ) (hk : υ c = some (cur data a)) (hL : υ q = some (.lst (refs rs))) (he : RunsAt υ rs done) (hl : done.length ≤ 100)
    (h : ∀ r υ' a' o8 o9 o10 o11 o12, At data a' tl → Sub σ0 υ' → υ' c = some (cur data a') → υ' q = some (.lst (refs (rs ++ [r]))) → RunsAt υ' (rs ++ [r]) (done ++ [e]) → Q .next [x0, some (.ref c), x2, x3, x4, x5, x6, some (.ref q), o8, o9, o10, o11, o12, x13] υ') :
    wpSs (progT con) (callN (progT con) progP (n + 5)) dmanBody [x0, some (.ref c), x2, x3, x4, x5, x6, some (.ref q), o8, o9, o10, o11, o12, x13] υ Q := by
  obtain ⟨o1, o2, o3, o4, o5⟩ := oe
  have h12 : ¬ 12 ≤ (e.level : Int) := by lia
  have hqc : q ≠ c := ne_of_obj hL hk (by intro h; cases h)
  rw [← CK_is hk]
  refine d42 (x := e.level) (tl := vb e.size ++ (f32 e.check ++ ((vb e.small.length ++ e.small) ++ ((vb e.large.length ++ e.large) ++ tl)))) rfl (by simpa [runB] using A) (by lia) fun A => ?_
  refine sIte false (TB.ge (EV.var rfl) EV.int (decide_eq_false h12)) ?_
  refine d42 rfl A o2 fun A => ?_
  refine d43 rfl A o3 fun A => ?_
  refine d44 rfl A (by lia) fun A => ?_
  refine d44 rfl A (by lia) fun A => ?_
  generalize a + _ + _ + _ + _ + _ = a1 at *
  have t1 : CK υ c data a1 q = _ := (CK_ne hqc).trans hL
  have t3 : CK υ c data a1 c = _ := CK_c
  have t4 : RunsAt (CK υ c data a1) rs done := he.mono fun x fs hx => (CK_keep (k := c)).at hk hx (by intro h; cases h)
  have t5 : Sub σ0 (CK υ c data a1) := Sub.put hs f1
  generalize CK υ c data a1 = υ1 at t1 t3 t4 t5
  refine sPushE (EV.var rfl) t1 (eNew (vs := e.row) ?_ (c_443 e fun r hr => ?_))
  · exact ⟨EV.var rfl, EV.var rfl, EV.var rfl, EV.var rfl, EV.var rfl, rfl⟩
  have n1 : q ≠ r := ne_of_free t1 hr
  have n3 : c ≠ r := ne_of_free t3 hr
  refine PushP.mk (by rw [upd_ne _ _ n1]; exact t1) (by rw [refs_len, he.len]; unfold lim; lia) ?_
  refine h r _ a1 _ _ _ _ _ A ?_ ?_ ?_ ?_
  · exact Sub.put (Sub.put t5 (t5.free hr)) f2
  · rw [upd_ne _ _ hqc.symm, upd_ne _ _ n3]; exact t3
  · rw [upd_at]; simp [refs]
  · refine RunsAt.snoc (t4.mono fun x fs hx => ?_) ?_
    · rw [upd_ne _ _ (ne_of_obj hx t1 (by intro h; cases h)), upd_ne _ _ (ne_of_free hx hr)]; exact hx
    · rw [upd_ne _ _ n1.symm, upd_at]
theorem dman_loop {cnt : Nat} {Q : K2} (f1 : σ0 c = none) (f2 : σ0 q = none) (h100 : cnt ≤ 100) : ∀ (es done : List Run) (a : Nat) (rs : List Nat) (υ : Hp) (o8 o9 o10 o11 o12 : Option V), (∀ e ∈ es, e.ok) → done.length + es.length = cnt → At data a ((es.map runB).flatten ++ tl) → Sub σ0 υ → υ c = some (cur data a) → υ q = some (.lst (refs rs)) → RunsAt υ rs done →
    (∀ o8 o9 o10 o11 o12 a rs υ, At data a tl → Sub σ0 υ → υ c = some (cur data a) → υ q = some (.lst (refs rs)) → RunsAt υ rs (done ++ es) → Q .next [x0, some (.ref c), x2, x3, x4, x5, some (.int cnt), some (.ref q), o8, o9, o10, o11, o12, x13] υ) →
    whileLoop (fun ρ σ Q => wpB (progT con) (callN (progT con) progP (n + 5)) (.cmp .lt (.bi .len [.var 7]) (.var 6)) ρ σ Q) (fun ρ σ Q => wpSs (progT con) (callN (progT con) progP (n + 5)) dmanBody ρ σ Q) (es.length + 1) [x0, some (.ref c), x2, x3, x4, x5, some (.int cnt), some (.ref q), o8, o9, o10, o11, o12, x13] υ Q := by
  intro es
  induction es with
  | nil =>
    intro done a rs υ o8 o9 o10 o11 o12 _ hc A hs hk hL he hQ
    have h2 : (refs rs).length = cnt := by rw [refs_len, he.len]; simpa using hc
    have h3 : (refs rs).length ≤ lim := by rw [h2]; unfold lim; lia
    have h4 : ¬ ((refs rs).length : Int) < (cnt : Int) := by lia
    refine while_turn fun R hR => ?_
    refine TB.lt (EV.lenL (EV.var rfl) hL h3) (EV.var rfl) (decide_eq_false h4) _ ?_
    show (if false = true then _ else _)
    rw [if_neg (by decide)]
    exact hQ _ _ _ _ _ a rs υ A hs hk hL (by rw [List.append_nil]; exact he)
  | cons e es ih =>
    intro done a rs υ o8 o9 o10 o11 o12 ok hc A hs hk hL he hQ
    simp at hc
    have h2 : (refs rs).length = done.length := by rw [refs_len, he.len]
    have h3 : (refs rs).length ≤ lim := by rw [h2]; unfold lim; lia
    have h4 : ((refs rs).length : Int) < (cnt : Int) := by lia
    refine while_turn fun R hR => ?_
    refine TB.lt (EV.lenL (EV.var rfl) hL h3) (EV.var rfl) (decide_eq_true h4) _ ?_
    show (if true = true then _ else _)
    rw [if_pos rfl]
    refine dman_step (tl := (es.map runB).flatten ++ tl) f1 f2 (ok e (.head _)) (by simpa using A) hs hk hL he (by lia) fun r υ' a' o8 o9 o10 o11 o12 A' hs' hk' hL' he' => ?_
    refine ⟨_, Sub.refl _, ?_⟩
    rw [hR]
    refine ih (done ++ [e]) a' (rs ++ [r]) υ' _ _ _ _ _ (fun x hx => ok x (.tail _ hx)) (by simp; lia) A' hs' hk' hL' he' fun o8 o9 o10 o11 o12 a rs υ A hs hk hL he => ?_
    exact hQ _ _ _ _ _ a rs υ A hs hk hL (by simpa using he)
end
/-- decode_manifesto -/
theorem c_506 {Q : K1} {m : Man} (ok : m.ok) (h : ∀ r τ, σ r = none → Sub σ τ → ManAt τ r m → Q (.ref r) τ) : callN (progT con) progP (n + 6) 506 [.bytes m.octets] σ Q := by
  refine call_intro (d := ⟨1, 14, b_506, []⟩) rfl (Nat.le_refl 1) (Nat.le_refl 1) ?_
  have lo := Man.len ok
  obtain ⟨o1, o2, o3, o4, o5, o6⟩ := ok
  refine dNew rfl (by unfold lim; lia) fun c hc A => ?_
  refine d42 (x := m.index) (tl := vb m.term ++ (vb m.seq ++ ((vb m.conf.length ++ m.conf) ++ (vb m.runs.length ++ (m.runs.map runB).flatten)))) rfl A o1 fun A => ?_
  refine d42 rfl A o2 fun A => ?_
  refine d42 rfl A (by lia) fun A => ?_
  have h1 : ¬ 72057594037927935 < (m.seq : Int) := by lia
  refine sIte false (TB.gt (EV.var rfl) EV.int (decide_eq_false h1)) ?_
  refine d44 rfl A (by lia) fun A => ?_
  refine d42 rfl A (by lia) fun A => ?_
  generalize 0 + _ + _ + _ + _ + _ = a at *
  refine sList0 fun q hq => ?_
  have hqc : q ≠ c := fun e => by subst e; rw [CK_c] at hq; cases hq
  have hq0 : σ q = none := by rwa [CK_ne hqc] at hq
  refine sWhl fun R hR => ?_
  refine ⟨m.runs.length + 1, dman_loop (σ0 := σ) (tl := []) hc hq0 (by lia) m.runs [] a [] _ none none none none none o6 (by simp) (by simpa using A) ?_ ?_ (upd_at ..) trivial fun o8 o9 o10 o11 o12 a rs υ A hs hk hL he => ?_⟩
  · exact Sub.put (CK_sub hc) hq0
  · rw [upd_ne _ _ hqc.symm]; exact CK_c
  show R _ _
  rw [hR, ← CK_is hk]; clear hR R
  refine d47 rfl A ?_
  rw [CK_is hk]
  refine sRetE (eNew (vs := [.int m.index, .int m.term, .bytes m.conf, .int m.seq, .ref q]) ?_ (c_478 m fun r hr => ?_))
  · exact ⟨EV.var rfl, EV.var rfl, EV.var rfl, EV.var rfl, EV.var rfl, rfl⟩
  refine ⟨_, Sub.refl _, h r _ (hs.free hr) (Sub.put hs (hs.free hr)) ⟨q, rs, upd_at .., ?_, ?_⟩⟩
  · rw [upd_ne _ _ (ne_of_free hL hr)]; exact hL
  · rw [List.nil_append] at he
    exact he.mono fun x fs hx => by rw [upd_ne _ _ (ne_of_free hx hr)]; exact hx
end Mine
end
section
set_option tactic.hygienic false
set_option backward.match.sparseCases false
set_option maxRecDepth 10000
set_option linter.all false
namespace Mine
variable {con : Nat → Option (List V)} {C : Calls} {σ : Hp} {n : Nat} {ρ : Rho} {ss : List S}
/-- a turn of a loop that takes a tuple apart -/
noncomputable def turnT (T : Tab) (C : Calls) (xs : List Nat) (b : List S) (v : V) (ρ : Rho) (σ : Hp) (Q : K2) : Prop := match v with
  | .tup vs => ∃ ρ', setAll xs vs ρ = some ρ' ∧ wpSs T C b ρ' σ Q
  | _ => False
theorem turnT_tup {T : Tab} {xs : List Nat} {b : List S} {vs : List V} {Q : K2} : turnT T C xs b (.tup vs) ρ σ Q = ∃ ρ', setAll xs vs ρ = some ρ' ∧ wpSs T C b ρ' σ Q := rfl
theorem forT_step {T : Tab} {xs : List Nat} {it : E} {b : List S} {Q : K2} (h : ∀ R : Rho → Hp → Prop, (∀ ρ σ, R ρ σ = wpSs T C ss ρ σ Q) → wpE T C it ρ σ fun s σ => ∃ all, itemsOf σ s = some all ∧ all.length ≤ lim ∧ forLoop s all (turnT T C xs b) all ρ σ fun f ρ σ => match f with
      | .next => R ρ σ
      | .ret r => Q (.ret r) ρ σ) : wpSs T C (.forT xs it b :: ss) ρ σ Q := by
  refine seq_step fun R hR => ?_
  exact h R hR
/-! ## VersionEdit -/
structure Edit where
  comp : Option (List Nat)
  log : Option Nat
  next : Option Nat
  seq : Option Nat
  points : List (Nat × List Nat)
  dropped : List (Nat × Nat)
  added : List (Nat × Fm)
  reset : Bool
noncomputable def numV : Option Nat → V
  | none => .none
  | some n => .int n
noncomputable def ptsV (l : List (Nat × List Nat)) : List V := l.map fun x => .tup [.int x.1, .bytes x.2]
noncomputable def drsV (l : List (Nat × Nat)) : List V := l.map fun x => .tup [.int x.1, .int x.2]
noncomputable def adsV : List Nat → List (Nat × Fm) → List V
  | r :: rs, x :: xs => .tup [.int x.1, .ref r] :: adsV rs xs
  | _, _ => []
noncomputable def MetasAt (σ : Hp) : List Nat → List (Nat × Fm) → Prop
  | [], [] => True
  | r :: rs, e :: es => σ r = some (.inst 362 e.2.fs) ∧ MetasAt σ rs es
  | _, _ => False
theorem MetasAt.len {σ : Hp} : ∀ {rs es}, MetasAt σ rs es → rs.length = es.length
  | [], [], _ => rfl
  | _ :: _, _ :: _, h => by simp [MetasAt.len h.2]
  | [], _ :: _, h => h.elim
  | _ :: _, [], h => h.elim
theorem MetasAt.mono {σ τ : Hp} : ∀ {rs es}, MetasAt σ rs es → (∀ x fs, σ x = some (.inst 362 fs) → τ x = some (.inst 362 fs)) → MetasAt τ rs es
  | [], [], _, _ => trivial
  | _ :: _, _ :: _, h, g => ⟨g _ _ h.1, h.2.mono g⟩
  | [], _ :: _, h, _ => h.elim
  | _ :: _, [], h, _ => h.elim
theorem MetasAt.snoc {σ : Hp} {r : Nat} {e : Nat × Fm} : ∀ {rs es}, MetasAt σ rs es → σ r = some (.inst 362 e.2.fs) → MetasAt σ (rs ++ [r]) (es ++ [e])
  | [], [], _, h => ⟨h, trivial⟩
  | _ :: _, _ :: _, h, g => ⟨h.1, h.2.snoc g⟩
  | [], _ :: _, h, _ => h.elim
  | _ :: _, [], h, _ => h.elim
theorem adsV_snoc {r : Nat} {e : Nat × Fm} : ∀ {rs es}, rs.length = es.length → adsV (rs ++ [r]) (es ++ [e]) = adsV rs es ++ [.tup [.int e.1, .ref r]]
  | [], [], _ => rfl
  | _ :: _, _ :: _, h => by simp [adsV, adsV_snoc (Nat.succ.inj h)]
  | [], _ :: _, h => by simp at h
  | _ :: _, [], h => by simp at h
theorem adsV_len : ∀ {rs es}, rs.length = es.length → (adsV rs es).length = es.length
  | [], [], _ => rfl
  | _ :: _, _ :: _, h => by simp [adsV, adsV_len (Nat.succ.inj h)]
  | [], _ :: _, h => by simp at h
  | _ :: _, [], h => by simp at h
noncomputable def Edit.fs (e : Edit) (P D A : Nat) : List (Nat × V) := [(7, optV e.comp), (8, numV e.log), (9, numV e.next), (10, numV e.seq), (11, .ref P), (12, .ref D), (13, .ref A), (14, .bool e.reset)]
noncomputable def adRow (x : Nat × Fm) : V := .tup [.int x.1, .tup x.2.row]
noncomputable def Edit.row (e : Edit) : List V := [optV e.comp, numV e.log, numV e.next, numV e.seq, .tup (ptsV e.points), .tup (drsV e.dropped), .tup (e.added.map adRow), .bool e.reset]
noncomputable def Edit.nil : Edit := ⟨none, none, none, none, [], [], [], false⟩
structure EdAt (υ : Hp) (r P D A : Nat) (as : List Nat) (e : Edit) : Prop where
  r : υ r = some (.inst 397 (e.fs P D A))
  p : υ P = some (.lst (ptsV e.points))
  d : υ D = some (.lst (drsV e.dropped))
  a : υ A = some (.lst (adsV as e.added))
  m : MetasAt υ as e.added
theorem EdAt.mono {υ τ : Hp} {r P D A : Nat} {as : List Nat} {e : Edit} (h : EdAt υ r P D A as e) (g : ∀ x o, υ x = some o → (∀ f, o ≠ .inst 257 f) → τ x = some o) : EdAt τ r P D A as e :=
  ⟨g _ _ h.r (fun f h => by cases h), g _ _ h.p (fun f h => by cases h), g _ _ h.d (fun f h => by cases h), g _ _ h.a (fun f h => by cases h), h.m.mono fun x fs hx => g _ _ hx (fun f h => by cases h)⟩
theorem EdAt.sub {υ τ : Hp} {r P D A : Nat} {as : List Nat} {e : Edit} (h : EdAt υ r P D A as e) (g : Sub υ τ) : EdAt τ r P D A as e := h.mono fun x o hx _ => g _ _ hx
/-- its own numbers are changed -/
theorem EdAt.set {υ : Hp} {r P D A : Nat} {as : List Nat} {e : Edit} (h : EdAt υ r P D A as e) (c : Option (List Nat)) (l x s : Option Nat) (t : Bool) : EdAt (upd υ r (.inst 397 ((Edit.mk c l x s e.points e.dropped e.added t).fs P D A))) r P D A as ⟨c, l, x, s, e.points, e.dropped, e.added, t⟩ :=
  ⟨upd_at .., (upd_ne _ _ (ne_of_obj h.p h.r (by intro h; cases h))).trans h.p, (upd_ne _ _ (ne_of_obj h.d h.r (by intro h; cases h))).trans h.d, (upd_ne _ _ (ne_of_obj h.a h.r (by intro h; cases h))).trans h.a,
    h.m.mono fun x fs hx => (upd_ne _ _ (ne_of_obj hx h.r (by intro h; cases h))).trans hx⟩
theorem EdAt.addP {υ : Hp} {r P D A : Nat} {as : List Nat} {e : Edit} (h : EdAt υ r P D A as e) (h1 : P ≠ D) (h2 : P ≠ A) (x : Nat × List Nat) : EdAt (upd υ P (.lst (ptsV e.points ++ [.tup [.int x.1, .bytes x.2]]))) r P D A as { e with points := e.points ++ [x] } :=
  ⟨(upd_ne _ _ (ne_of_obj h.r h.p (by intro h; cases h))).trans h.r, by rw [upd_at]; simp [ptsV], (upd_ne _ _ h1.symm).trans h.d, (upd_ne _ _ h2.symm).trans h.a, h.m.mono fun x fs hx => (upd_ne _ _ (ne_of_obj hx h.p (by intro h; cases h))).trans hx⟩
theorem EdAt.addD {υ : Hp} {r P D A : Nat} {as : List Nat} {e : Edit} (h : EdAt υ r P D A as e) (h1 : P ≠ D) (h2 : D ≠ A) (x : Nat × Nat) : EdAt (upd υ D (.lst (drsV e.dropped ++ [.tup [.int x.1, .int x.2]]))) r P D A as { e with dropped := e.dropped ++ [x] } :=
  ⟨(upd_ne _ _ (ne_of_obj h.r h.d (by intro h; cases h))).trans h.r, (upd_ne _ _ h1).trans h.p, by rw [upd_at]; simp [drsV], (upd_ne _ _ h2.symm).trans h.a, h.m.mono fun x fs hx => (upd_ne _ _ (ne_of_obj hx h.d (by intro h; cases h))).trans hx⟩
theorem EdAt.addA {υ : Hp} {r P D A q : Nat} {as : List Nat} {e : Edit} (h : EdAt υ r P D A as e) (h1 : P ≠ A) (h2 : D ≠ A) (x : Nat × Fm) (hq : υ q = some (.inst 362 x.2.fs)) : EdAt (upd υ A (.lst (adsV as e.added ++ [.tup [.int x.1, .ref q]]))) r P D A (as ++ [q]) { e with added := e.added ++ [x] } :=
  ⟨(upd_ne _ _ (ne_of_obj h.r h.a (by intro h; cases h))).trans h.r, (upd_ne _ _ h1).trans h.p, (upd_ne _ _ h2).trans h.d, by rw [upd_at, adsV_snoc h.m.len],
    (h.m.snoc hq).mono fun x fs hx => (upd_ne _ _ (ne_of_obj hx h.a (by intro h; cases h))).trans hx⟩
/-- o.f = [] -/
theorem stNil {r f cl j : Nat} {fs : List (Nat × V)} {Q : K2} (h0 : ρ.get j = some (.ref r)) (hr : σ r = some (.inst cl fs)) (hfl : fs.length ≤ 100) (hf : (progT con).fld cl f = true)
    (h : ∀ q τ, σ q = none → KeepX r σ τ → τ r = some (.inst cl (setF f (.ref q) fs)) → τ q = some (.lst []) → wpSs (progT con) C ss ρ τ Q) :
    wpSs (progT con) C (.asgA (.var j) f (.list []) :: ss) ρ σ Q := by
  refine sAsgAE ⟨Nat.zero_le _, fun q hq => ⟨_, h0, ?_⟩⟩
  have hqr : r ≠ q := ne_of_free hr hq
  simp only [upd_ne _ _ hqr, hr]
  refine ⟨hf, hfl, h q _ hq (fun y o hy e => ?_) (upd_at ..) (by rw [upd_ne _ _ hqr.symm, upd_at])⟩
  rw [upd_ne _ _ hy, upd_ne _ _ (ne_of_free e hq)]; exact e
/-- VersionEdit() -/
theorem c_380 {Q : K1} (h : ∀ r P D A τ, σ r = none → σ P = none → σ D = none → σ A = none → P ≠ D → P ≠ A → D ≠ A → Sub σ τ → EdAt τ r P D A [] Edit.nil → Q (.ref r) τ) : newP (progT con) (callN (progT con) progP (n + 1)) 397 [] σ Q := by
  show ∀ r, σ r = none → callN (progT con) progP (n + 1) 380 [.ref r] (upd σ r (.inst 397 [])) fun v σ' => v = .none ∧ Q (.ref r) σ'
  intro r hr
  refine call_intro (d := ⟨1, 2, b_380, []⟩) rfl (Nat.le_refl 1) (Nat.le_refl 1) ?_
  have k0 : ∀ o, KeepX r σ (upd σ r o) := fun x y o hy e => by rw [upd_ne _ _ hy]; exact e
  refine sFldU EV.none rfl F_397_7 (Nat.le_of_ble_eq_true rfl) ?_
  refine sFldU EV.none rfl F_397_8 (Nat.le_of_ble_eq_true rfl) ?_
  refine sFldU EV.none rfl F_397_9 (Nat.le_of_ble_eq_true rfl) ?_
  refine sFldU EV.none rfl F_397_10 (Nat.le_of_ble_eq_true rfl) ?_
  refine stNil rfl (upd_at ..) (Nat.le_of_ble_eq_true rfl) F_397_11 fun P τ1 f1 g1 r1 e1 => ?_
  have hP : P ≠ r := fun e => by subst e; rw [upd_at] at f1; cases f1
  rw [upd_ne _ _ hP] at f1
  refine stNil rfl r1 (Nat.le_of_ble_eq_true rfl) F_397_12 fun D τ2 f2 g2 r2 e2 => ?_
  have hDP : P ≠ D := ne_of_free e1 f2
  have hD : D ≠ r := (ne_of_free r1 f2).symm
  refine stNil rfl r2 (Nat.le_of_ble_eq_true rfl) F_397_13 fun A τ3 f3 g3 r3 e3 => ?_
  have hDA : D ≠ A := ne_of_free e2 f3
  have hPA : P ≠ A := ne_of_free (g2 _ _ hP e1) f3
  have hA : A ≠ r := (ne_of_free r2 f3).symm
  have k1 := (k0 _).trans g1
  have k2 := k1.trans g2
  have k3 := k2.trans g3
  have f2' : σ D = none := by
    induction e : σ D using Option.casesOn with
    | none => rfl
    | some o => rw [k1 _ _ hD e] at f2; cases f2
  have f3' : σ A = none := by
    induction e : σ A using Option.casesOn with
    | none => rfl
    | some o => rw [k2 _ _ hA e] at f3; cases f3
  refine sFld EV.bool rfl r3 F_397_14 (Nat.le_of_ble_eq_true rfl) ?_
  refine ⟨_, Sub.refl _, rfl, h r P D A _ hr f1 f2' f3' hDP hPA hDA (fun y o e => ?_) ⟨upd_at .., ?_, ?_, ?_, trivial⟩⟩
  · have hy := ne_of_free e hr
    rw [upd_ne _ _ hy]; exact k3 _ _ hy e
  · rw [upd_ne _ _ hP]; exact g3 _ _ hP (g2 _ _ hP e1)
  · rw [upd_ne _ _ hD]; exact g3 _ _ hD e2
  · rw [upd_ne _ _ hA]; exact e3
theorem erow_loop {q A : Nat} {all : List V} {Q : K2} {x0 x4 : Option V} (hq : σ q = none) (hA : σ A = some (.lst all)) : ∀ (as : List Nat) (es : List (Nat × Fm)) (acc : List V) (o2 o3 : Option V), MetasAt σ as es → acc.length + es.length ≤ 100 →
    (∀ o2 o3, Q .next [x0, some (.ref q), o2, o3, x4] (upd σ q (.lst (acc ++ es.map adRow)))) →
    forLoop (.ref A) all (turnT (progT con) (callN (progT con) progP (n + 1)) [2, 3] [.ex (.meth (.var 1) 50 [.tup [.var 2, .meth (.var 3) 48 []]])]) (adsV as es) [x0, some (.ref q), o2, o3, x4] (upd σ q (.lst acc)) Q
  | [], [], acc, o2, o3, _, _, hQ => for_end (itemsL (by rw [upd_ne _ _ (ne_of_free hA hq)]; exact hA)) (by rw [List.map_nil, List.append_nil] at hQ; exact hQ o2 o3)
  | [], _ :: _, _, _, _, h, _, _ => h.elim
  | _ :: _, [], _, _, _, h, _, _ => h.elim
  | r :: as, e :: es, acc, o2, o3, h, hl, hQ => by
    have hl : acc.length + (es.length + 1) ≤ 100 := hl
    refine for_turn (itemsL (by rw [upd_ne _ _ (ne_of_free hA hq)]; exact hA)) fun R hR => ?_
    rw [turnT_tup]
    refine ⟨_, rfl, ?_⟩
    have hr : upd σ q (.lst acc) r = some (.inst 362 e.2.fs) := by rw [upd_ne _ _ (ne_of_free h.1 hq)]; exact h.1
    refine sPushL rfl (upd_at ..) (EV.tup2 (EV.var rfl) (EV.meth0 (EV.var rfl) hr M_362_48 rfl fun Q h => c_359 e.2 hr h)) (Nat.lt_of_le_of_lt (by lia : acc.length ≤ 99) (Nat.le_of_ble_eq_true rfl)) ⟨_, Sub.refl _, ?_⟩
    rw [upd_upd, hR]
    exact erow_loop hq hA as es _ _ _ h.2 (by rw [List.length_append, List.length_singleton]; lia) fun o2 o3 => by rw [List.append_assoc]; exact hQ o2 o3
structure Edit.few (e : Edit) : Prop where
  p : e.points.length ≤ 10
  d : e.dropped.length ≤ 10
  a : e.added.length ≤ 10
/-- VersionEdit.row -/
theorem c_387 {Q : K1} {r P D A : Nat} {as : List Nat} {e : Edit} (few : e.few) (hm : EdAt σ r P D A as e) (h : Q (.tup e.row) σ) : callN (progT con) progP (n + 2) 387 [.ref r] σ Q := by
  refine call_intro (d := ⟨1, 5, b_387, []⟩) rfl (Nat.le_refl 1) (Nat.le_refl 1) ?_
  obtain ⟨h1, h2, h3, h4, h5⟩ := hm
  obtain ⟨l1, l2, l3⟩ := few
  refine sList0 fun q hq => ?_
  refine forT_step fun R hR => ?_
  refine ev rfl (by rw [upd_ne _ _ (ne_of_free h1 hq)]; exact h1) rfl rfl _ ⟨adsV as e.added, itemsL (by rw [upd_ne _ _ (ne_of_free h4 hq)]; exact h4), by rw [adsV_len h5.len]; exact Nat.le_trans l3 (Nat.le_of_ble_eq_true rfl), ?_⟩
  refine erow_loop hq h4 as e.added [] _ _ h5 (by rw [List.length_nil]; lia) fun o2 o3 => ?_
  show R _ _
  rw [hR]; clear hR R
  have g : Sub σ (upd σ q (.lst ([] ++ e.added.map adRow))) := Sub.put (Sub.refl _) hq
  have k1 := g _ _ h1
  have k2 := upd_at σ q (.lst ([] ++ e.added.map adRow))
  have k3 : ([] ++ e.added.map adRow).length ≤ lim := by rw [List.nil_append, List.length_map]; exact Nat.le_trans l3 (Nat.le_of_ble_eq_true rfl)
  have k4 := g _ _ h2
  have k5 := g _ _ h3
  have k6 : (ptsV e.points).length ≤ lim := by rw [ptsV, List.length_map]; exact Nat.le_trans l1 (Nat.le_of_ble_eq_true rfl)
  have k7 : (drsV e.dropped).length ≤ lim := by rw [drsV, List.length_map]; exact Nat.le_trans l2 (Nat.le_of_ble_eq_true rfl)
  generalize upd σ q (.lst ([] ++ e.added.map adRow)) = τ at *
  refine sRetE (EVs.tup (vs := e.row) ?_ (Nat.le_of_ble_eq_true rfl) _ ⟨σ, g, h⟩)
  exact ⟨ev rfl k1 rfl rfl, ev rfl k1 rfl rfl, ev rfl k1 rfl rfl, ev rfl k1 rfl rfl, EV.tupL (ev rfl k1 rfl rfl) k4 k6, EV.tupL (ev rfl k1 rfl rfl) k5 k7, EV.tupL (EV.var rfl) k2 k3, ev rfl k1 rfl rfl, rfl⟩
end Mine
end
section
set_option tactic.hygienic false
set_option backward.match.sparseCases false
set_option maxRecDepth 10000
set_option linter.all false
namespace Mine
variable {con : Nat → Option (List V)} {C : Calls} {σ : Hp} {n : Nat} {ρ : Rho} {ss : List S}
/-- what an edit's octets tell, one after the other -/
inductive It where
  | reset | comp (x : List Nat) | log (n : Nat) | next (n : Nat) | seq (n : Nat) | pt (l : Nat) (k : List Nat) | dr (l n : Nat) | ad (l : Nat) (m : Fm)
noncomputable def It.oct : It → List Nat
  | .reset => [10]
  | .comp x => 1 :: (vb x.length ++ x)
  | .log n => 2 :: vb n
  | .next n => 3 :: vb n
  | .seq n => 4 :: vb n
  | .pt l k => 5 :: (vb l ++ (vb k.length ++ k))
  | .dr l n => 6 :: (vb l ++ vb n)
  | .ad l m => 7 :: (vb l ++ (vb m.number ++ (vb m.size ++ ((vb m.small.length ++ m.small) ++ (vb m.large.length ++ m.large)))))
noncomputable def itsB (l : List It) : List Nat := (l.map It.oct).flatten
theorem itsB_app (a b : List It) : itsB (a ++ b) = itsB a ++ itsB b := by simp [itsB]
theorem itsB_cons (a : It) (b : List It) : itsB (a :: b) = a.oct ++ itsB b := by simp [itsB]
theorem itsB_nil : itsB [] = [] := rfl
structure Octs (k : List Nat) : Prop where
  pos : 0 < k.length
  le : k.length ≤ 10000
noncomputable def It.ok : It → Prop
  | .reset => True
  | .comp x => x.length ≤ 10000
  | .log n => n < 2 ^ 64
  | .next n => n < 2 ^ 64
  | .seq n => n ≤ 72057594037927935
  | .pt l k => l < 12 ∧ Octs k
  | .dr l n => l < 12 ∧ n < 2 ^ 64
  | .ad l m => l < 12 ∧ m.number < 2 ^ 64 ∧ m.size < 2 ^ 64 ∧ Octs m.small ∧ Octs m.large
theorem It.len : ∀ {i : It}, i.ok → i.oct.length ≤ 20100
  | .reset, _ => by simp [It.oct]
  | .comp x, h => by
    have h : x.length ≤ 10000 := h
    have := vb_len5 (n := x.length) (by lia)
    simp [It.oct]; lia
  | .log n, h => by have := vb_len10 (n := n) h; simp [It.oct]; lia
  | .next n, h => by have := vb_len10 (n := n) h; simp [It.oct]; lia
  | .seq n, h => by
    have h : n ≤ 72057594037927935 := h
    have := vb_len10 (n := n) (by lia)
    simp [It.oct]; lia
  | .pt l k, ⟨h1, h2, h3⟩ => by
    have a := vb_len10 (n := l) (by lia)
    have b := vb_len5 (n := k.length) (by lia)
    simp [It.oct]; lia
  | .dr l n, ⟨h1, h2⟩ => by
    have a := vb_len10 (n := l) (by lia)
    have b := vb_len10 h2
    simp [It.oct]; lia
  | .ad l m, ⟨h1, h2, h3, ⟨h4, h5⟩, ⟨h6, h7⟩⟩ => by
    have a := vb_len10 (n := l) (by lia)
    have b := vb_len10 h2
    have c := vb_len10 h3
    have d := vb_len5 (n := m.small.length) (by lia)
    have e := vb_len5 (n := m.large.length) (by lia)
    simp [It.oct]; lia
theorem its_len : ∀ (l : List It), (∀ i ∈ l, i.ok) → (itsB l).length ≤ 20100 * l.length := by
  intro l
  induction l with
  | nil =>
    intro _
    simp [itsB]
  | cons i l ih =>
    intro h
    have a := It.len (h i (.head _))
    have b := ih fun x hx => h x (.tail _ hx)
    rw [itsB_cons]
    simp at *; lia
noncomputable def Edit.items (e : Edit) : List It := (if e.reset then [.reset] else []) ++ (e.comp.toList.map .comp ++ (e.log.toList.map .log ++ (e.next.toList.map .next ++ (e.seq.toList.map .seq ++ (e.points.map (fun x => .pt x.1 x.2) ++ (e.dropped.map (fun x => .dr x.1 x.2) ++ e.added.map fun x => .ad x.1 x.2))))))
structure Edit.ok (e : Edit) : Prop where
  few : e.few
  each : ∀ i ∈ e.items, i.ok
noncomputable def Edit.octets (e : Edit) : List Nat := itsB e.items
theorem Edit.items_len {e : Edit} (h : e.few) : e.items.length ≤ 35 := by
  obtain ⟨h1, h2, h3⟩ := h
  have a : ∀ x : Option (List Nat), x.toList.length ≤ 1 := fun x => by induction x using Option.casesOn <;> simp
  have b : ∀ x : Option Nat, x.toList.length ≤ 1 := fun x => by induction x using Option.casesOn <;> simp
  have c : (if e.reset = true then [It.reset] else []).length ≤ 1 := by split <;> simp
  have := a e.comp
  have := b e.log
  have := b e.next
  have := b e.seq
  simp only [Edit.items, List.length_append, List.length_map]; lia
theorem Edit.len {e : Edit} (ok : e.ok) : e.octets.length ≤ 703500 := by
  have a := its_len e.items ok.each
  have b := Edit.items_len ok.few
  unfold Edit.octets; lia
theorem jTag {s p k t N : Nat} {b : List Nat} {Q : K2} (F : New2 σ s p) (hb : b.length ≤ N) (hk : ρ.get k = some (.ref s)) (ht : t < 128) (hN : N + 10 ≤ 900000)
    (h : (b ++ [t]).length ≤ N + 10 → wpSs (progT con) (callN (progT con) progP (n + 3)) ss ρ (SK σ s p (b ++ [t])) Q) : wpSs (progT con) (callN (progT con) progP (n + 3)) (.ex (.meth (.var k) 42 [.int t]) :: ss) ρ (SK σ s p b) Q :=
  j42 F hb hk EV.int (Nat.lt_trans ht (by decide)) hN fun hb => by
    rw [vb_small ht] at hb ⊢
    exact h hb
section
variable {s p r f t N : Nat} {b : List Nat} {fs : List (Nat × V)} {Q : K2}
theorem kOptN {v : Option Nat} {mk : Nat → It} (F : New2 σ s p) (hb : b.length ≤ N) (h0 : ρ.get 0 = some (.ref r)) (h1 : ρ.get 1 = some (.ref s)) (hr : σ r = some (.inst 397 fs)) (hf : (progT con).fld 397 f = true) (hg : getF f fs = some (numV v)) (ht : t < 128) (hm : ∀ n, (mk n).oct = t :: vb n) (hv : ∀ n, v = some n → n < 2 ^ 64) (hN : N + 30 ≤ 900000)
    (h : (b ++ itsB (v.toList.map mk)).length ≤ N + 20 → wpSs (progT con) (callN (progT con) progP (n + 3)) ss ρ (SK σ s p (b ++ itsB (v.toList.map mk))) Q) :
    wpSs (progT con) (callN (progT con) progP (n + 3)) (.ite (.cmp .isnt (.attr (.var 0) f) .none) [.ex (.meth (.var 1) 42 [.int t]), .ex (.meth (.var 1) 42 [.attr (.var 0) f])] [] :: ss) ρ (SK σ s p b) Q := by
  have at_ : ∀ b, SK σ s p b r = some (.inst 397 fs) := fun b => SK_old F hr
  induction v using Option.casesOn with
  | none =>
    rw [show itsB ((none : Option Nat).toList.map mk) = [] from rfl, List.append_nil] at h
    exact sIte false (TB.isnt (ev h0 (at_ _) hf hg) rfl) (h (Nat.le_trans hb (Nat.le_add_right _ _)))
  | some m =>
    refine sIte true (TB.isnt (ev h0 (at_ _) hf hg) rfl) ?_
    refine jTag F hb h1 ht (by lia) fun hb => ?_
    refine j42 F hb h1 (ev h0 (at_ _) hf hg) (hv m rfl) (by lia) fun hb => ?_
    have e : itsB ((some m).toList.map mk) = [t] ++ vb m := by
      show (mk m).oct ++ [] = _
      rw [hm, List.append_nil]; rfl
    rw [e] at h
    rw [List.append_assoc] at hb ⊢
    exact h hb
theorem kOptB {v : Option (List Nat)} (F : New2 σ s p) (hb : b.length ≤ N) (h0 : ρ.get 0 = some (.ref r)) (h1 : ρ.get 1 = some (.ref s)) (hr : σ r = some (.inst 397 fs)) (hf : (progT con).fld 397 f = true) (hg : getF f fs = some (optV v)) (hv : ∀ n, v = some n → n.length ≤ 10000) (hN : N + 10030 ≤ 900000)
    (h : (b ++ itsB (v.toList.map .comp)).length ≤ N + 10020 → wpSs (progT con) (callN (progT con) progP (n + 3)) ss ρ (SK σ s p (b ++ itsB (v.toList.map .comp))) Q) :
    wpSs (progT con) (callN (progT con) progP (n + 3)) (.ite (.cmp .isnt (.attr (.var 0) f) .none) [.ex (.meth (.var 1) 42 [.int 1]), .ex (.meth (.var 1) 44 [.attr (.var 0) f])] [] :: ss) ρ (SK σ s p b) Q := by
  have at_ : ∀ b, SK σ s p b r = some (.inst 397 fs) := fun b => SK_old F hr
  induction v using Option.casesOn with
  | none =>
    rw [show itsB ((none : Option (List Nat)).toList.map .comp) = [] from rfl, List.append_nil] at h
    exact sIte false (TB.isnt (ev h0 (at_ _) hf hg) rfl) (h (Nat.le_trans hb (Nat.le_add_right _ _)))
  | some m =>
    refine sIte true (TB.isnt (ev h0 (at_ _) hf hg) rfl) ?_
    refine jTag (t := 1) F hb h1 (by decide) (by lia) fun hb => ?_
    refine j44 F hb h1 (ev h0 (at_ _) hf hg) (hv m rfl) (by lia) fun hb => ?_
    have e : itsB ((some m).toList.map .comp) = [1] ++ (vb m.length ++ m) := List.append_nil _
    rw [e] at h
    rw [List.append_assoc] at hb ⊢
    exact h (Nat.le_trans hb (by lia))
end
section
variable {s p L : Nat} {all : List V} {Q : K2} {x0 x6 : Option V}
theorem ept_loop (hL : σ L = some (.lst all)) (F : New2 σ s p) : ∀ (es : List (Nat × List Nat)) (b : List Nat) (o2 o3 o4 o5 : Option V), (∀ x ∈ es, (It.pt x.1 x.2).ok) → b.length + 20100 * es.length ≤ 870000 →
    (∀ o2 o3, Q .next [x0, some (.ref s), o2, o3, o4, o5, x6] (SK σ s p (b ++ itsB (es.map fun x => .pt x.1 x.2)))) →
    forLoop (.ref L) all (turnT (progT con) (callN (progT con) progP (n + 3)) [2, 3] [.ex (.meth (.var 1) 42 [.int 5]), .ex (.meth (.var 1) 42 [.var 2]), .ex (.meth (.var 1) 44 [.var 3])]) (ptsV es) [x0, some (.ref s), o2, o3, o4, o5, x6] (SK σ s p b) Q := by
  intro es
  induction es with
  | nil =>
    exact fun b o2 o3 o4 o5 _ _ hQ => for_end (itemsL (SK_old F hL)) (by rw [List.map_nil, itsB_nil, List.append_nil] at hQ; exact hQ o2 o3)
  | cons e es ih =>
    intro b o2 o3 o4 o5 ok hl hQ
    have oe := ok e (.head _)
    have le := It.len oe
    obtain ⟨o1, oc, ol⟩ := oe
    have hl : b.length + 20100 * (es.length + 1) ≤ 870000 := hl
    have hb : b.length ≤ 849900 := by lia
    refine for_turn (itemsL (SK_old F hL)) fun R hR => ?_
    rw [turnT_tup]
    refine ⟨_, rfl, ?_⟩
    refine jTag (t := 5) F hb rfl (by decide) (by decide) fun hb => ?_
    refine j42 F hb rfl (EV.var rfl) (Nat.lt_trans o1 (by decide)) (by decide) fun hb => ?_
    refine j44 F hb rfl (EV.var rfl) ol (by decide) fun hb => ?_
    refine ⟨_, Sub.refl _, ?_⟩
    rw [hR, List.append_assoc, List.append_assoc]
    refine ih (b ++ (It.pt e.1 e.2).oct) _ _ o4 o5 (fun x hx => ok x (.tail _ hx)) (by rw [List.length_append]; lia) fun o2 o3 => ?_
    rw [List.append_assoc, ← itsB_cons]
    exact hQ o2 o3
theorem edr_loop (hL : σ L = some (.lst all)) (F : New2 σ s p) : ∀ (es : List (Nat × Nat)) (b : List Nat) (o2 o3 o4 o5 : Option V), (∀ x ∈ es, (It.dr x.1 x.2).ok) → b.length + 20100 * es.length ≤ 870000 →
    (∀ o2 o4, Q .next [x0, some (.ref s), o2, o3, o4, o5, x6] (SK σ s p (b ++ itsB (es.map fun x => .dr x.1 x.2)))) →
    forLoop (.ref L) all (turnT (progT con) (callN (progT con) progP (n + 3)) [2, 4] [.ex (.meth (.var 1) 42 [.int 6]), .ex (.meth (.var 1) 42 [.var 2]), .ex (.meth (.var 1) 42 [.var 4])]) (drsV es) [x0, some (.ref s), o2, o3, o4, o5, x6] (SK σ s p b) Q := by
  intro es
  induction es with
  | nil =>
    exact fun b o2 o3 o4 o5 _ _ hQ => for_end (itemsL (SK_old F hL)) (by rw [List.map_nil, itsB_nil, List.append_nil] at hQ; exact hQ o2 o4)
  | cons e es ih =>
    intro b o2 o3 o4 o5 ok hl hQ
    have oe := ok e (.head _)
    have le := It.len oe
    obtain ⟨o1, ol⟩ := oe
    have hl : b.length + 20100 * (es.length + 1) ≤ 870000 := hl
    have hb : b.length ≤ 849900 := by lia
    refine for_turn (itemsL (SK_old F hL)) fun R hR => ?_
    rw [turnT_tup]
    refine ⟨_, rfl, ?_⟩
    refine jTag (t := 6) F hb rfl (by decide) (by decide) fun hb => ?_
    refine j42 F hb rfl (EV.var rfl) (Nat.lt_trans o1 (by decide)) (by decide) fun hb => ?_
    refine j42 F hb rfl (EV.var rfl) ol (by decide) fun hb => ?_
    refine ⟨_, Sub.refl _, ?_⟩
    rw [hR, List.append_assoc, List.append_assoc]
    refine ih (b ++ (It.dr e.1 e.2).oct) _ o3 _ o5 (fun x hx => ok x (.tail _ hx)) (by rw [List.length_append]; lia) fun o2 o4 => ?_
    rw [List.append_assoc, ← itsB_cons]
    exact hQ o2 o4
theorem ead_loop (hL : σ L = some (.lst all)) (F : New2 σ s p) : ∀ (as : List Nat) (es : List (Nat × Fm)) (b : List Nat) (o2 o3 o4 o5 : Option V), MetasAt σ as es → (∀ x ∈ es, (It.ad x.1 x.2).ok) → b.length + 20100 * es.length ≤ 870000 →
    (∀ o2 o5, Q .next [x0, some (.ref s), o2, o3, o4, o5, x6] (SK σ s p (b ++ itsB (es.map fun x => .ad x.1 x.2)))) →
    forLoop (.ref L) all (turnT (progT con) (callN (progT con) progP (n + 3)) [2, 5] [.ex (.meth (.var 1) 42 [.int 7]), .ex (.meth (.var 1) 42 [.var 2]), .ex (.meth (.var 1) 42 [.attr (.var 5) 3]), .ex (.meth (.var 1) 42 [.attr (.var 5) 4]), .ex (.meth (.var 1) 44 [.attr (.var 5) 5]), .ex (.meth (.var 1) 44 [.attr (.var 5) 6])]) (adsV as es) [x0, some (.ref s), o2, o3, o4, o5, x6] (SK σ s p b) Q
  | [], [], b, o2, o3, o4, o5, _, _, _, hQ => for_end (itemsL (SK_old F hL)) (by rw [List.map_nil, itsB_nil, List.append_nil] at hQ; exact hQ o2 o5)
  | [], _ :: _, _, _, _, _, _, h, _, _, _ => h.elim
  | _ :: _, [], _, _, _, _, _, h, _, _, _ => h.elim
  | r :: as, e :: es, b, o2, o3, o4, o5, h, ok, hl, hQ => by
    have oe := ok e (.head _)
    have le := It.len oe
    obtain ⟨c1, c2, c3, ⟨c4, c5⟩, ⟨c6, c7⟩⟩ := oe
    have hl : b.length + 20100 * (es.length + 1) ≤ 870000 := hl
    have hb : b.length ≤ 849900 := by lia
    refine for_turn (itemsL (SK_old F hL)) fun R hR => ?_
    rw [turnT_tup]
    refine ⟨_, rfl, ?_⟩
    have at_ : ∀ b, SK σ s p b r = some (.inst 362 e.2.fs) := fun b => SK_old F h.1
    refine jTag (t := 7) F hb rfl (by decide) (by decide) fun hb => ?_
    refine j42 F hb rfl (EV.var rfl) (Nat.lt_trans c1 (by decide)) (by decide) fun hb => ?_
    refine j42 F hb rfl (ev rfl (at_ _) rfl rfl) c2 (by decide) fun hb => ?_
    refine j42 F hb rfl (ev rfl (at_ _) rfl rfl) c3 (by decide) fun hb => ?_
    refine j44 F hb rfl (ev rfl (at_ _) rfl rfl) c5 (by decide) fun hb => ?_
    refine j44 F hb rfl (ev rfl (at_ _) rfl rfl) c7 (by decide) fun hb => ?_
    refine ⟨_, Sub.refl _, ?_⟩
    rw [hR, List.append_assoc, List.append_assoc, List.append_assoc, List.append_assoc, List.append_assoc]
    refine ead_loop hL F as es (b ++ (It.ad e.1 e.2).oct) _ o3 o4 _ h.2 (fun x hx => ok x (.tail _ hx)) (by rw [List.length_append]; lia) fun o2 o5 => ?_
    rw [List.append_assoc, ← itsB_cons]
    exact hQ o2 o5
end
end Mine
end
section
set_option tactic.hygienic false
set_option backward.match.sparseCases false
set_option maxRecDepth 10000
set_option linter.all false
namespace Mine
variable {con : Nat → Option (List V)} {C : Calls} {σ : Hp} {n : Nat} {ρ : Rho} {ss : List S}
theorem len_step {b x : List Nat} {N k : Nat} (hb : b.length ≤ N) (hx : x.length ≤ 20100 * k) (hk : k ≤ 10) : (b ++ x).length ≤ N + 201000 := by rw [List.length_append]; lia
/-- VersionEdit.encode -/
theorem c_394 {Q : K1} {r P D A : Nat} {as : List Nat} {e : Edit} (ok : e.ok) (hm : EdAt σ r P D A as e) (h : Q (.bytes e.octets) σ) : callN (progT con) progP (n + 4) 394 [.ref r] σ Q := by
  refine call_intro (d := ⟨1, 7, b_394, []⟩) rfl (Nat.le_refl 1) (Nat.le_refl 1) ?_
  obtain ⟨h1, h2, h3, h4, h5⟩ := hm
  obtain ⟨⟨f1, f2, f3⟩, each⟩ := ok
  have m0 : ∀ i ∈ (if e.reset then [It.reset] else []), i.ok := fun i hi => each i (List.mem_append_left _ hi)
  have m1 : ∀ i ∈ e.comp.toList.map It.comp, i.ok := fun i hi => each i (List.mem_append_right _ (List.mem_append_left _ hi))
  have m2 : ∀ i ∈ e.log.toList.map It.log, i.ok := fun i hi => each i (List.mem_append_right _ (List.mem_append_right _ (List.mem_append_left _ hi)))
  have m3 : ∀ i ∈ e.next.toList.map It.next, i.ok := fun i hi => each i (List.mem_append_right _ (List.mem_append_right _ (List.mem_append_right _ (List.mem_append_left _ hi))))
  have m4 : ∀ i ∈ e.seq.toList.map It.seq, i.ok := fun i hi => each i (List.mem_append_right _ (List.mem_append_right _ (List.mem_append_right _ (List.mem_append_right _ (List.mem_append_left _ hi)))))
  have m5 : ∀ i ∈ e.points.map (fun x => It.pt x.1 x.2), i.ok := fun i hi => each i (List.mem_append_right _ (List.mem_append_right _ (List.mem_append_right _ (List.mem_append_right _ (List.mem_append_right _ (List.mem_append_left _ hi))))))
  have m6 : ∀ i ∈ e.dropped.map (fun x => It.dr x.1 x.2), i.ok := fun i hi => each i (List.mem_append_right _ (List.mem_append_right _ (List.mem_append_right _ (List.mem_append_right _ (List.mem_append_right _ (List.mem_append_right _ (List.mem_append_left _ hi)))))))
  have m7 : ∀ i ∈ e.added.map (fun x => It.ad x.1 x.2), i.ok := fun i hi => each i (List.mem_append_right _ (List.mem_append_right _ (List.mem_append_right _ (List.mem_append_right _ (List.mem_append_right _ (List.mem_append_right _ (List.mem_append_right _ hi)))))))
  have o1 : ∀ x, e.comp = some x → x.length ≤ 10000 := fun x hx => m1 (.comp x) (List.mem_map.mpr ⟨x, by rw [hx]; exact .head _, rfl⟩)
  have o2 : ∀ x, e.log = some x → x < 2 ^ 64 := fun x hx => m2 (.log x) (List.mem_map.mpr ⟨x, by rw [hx]; exact .head _, rfl⟩)
  have o3 : ∀ x, e.next = some x → x < 2 ^ 64 := fun x hx => m3 (.next x) (List.mem_map.mpr ⟨x, by rw [hx]; exact .head _, rfl⟩)
  have o4 : ∀ x, e.seq = some x → x < 2 ^ 64 := fun x hx => by
    have : x ≤ 72057594037927935 := m4 (.seq x) (List.mem_map.mpr ⟨x, by rw [hx]; exact .head _, rfl⟩)
    lia
  have o5 : ∀ x ∈ e.points, (It.pt x.1 x.2).ok := fun x hx => m5 _ (List.mem_map.mpr ⟨x, hx, rfl⟩)
  have o6 : ∀ x ∈ e.dropped, (It.dr x.1 x.2).ok := fun x hx => m6 _ (List.mem_map.mpr ⟨x, hx, rfl⟩)
  have o7 : ∀ x ∈ e.added, (It.ad x.1 x.2).ok := fun x hx => m7 _ (List.mem_map.mpr ⟨x, hx, rfl⟩)
  have l0 : (itsB (if e.reset then [It.reset] else [])).length ≤ 10 := by cases e.reset <;> exact Nat.le_of_ble_eq_true rfl
  have l5 := its_len _ m5
  have l6 := its_len _ m6
  have l7 := its_len _ m7
  rw [List.length_map] at l5 l6 l7
  have h' : Q (.bytes (itsB (if e.reset then [It.reset] else []) ++ itsB (e.comp.toList.map It.comp) ++ itsB (e.log.toList.map It.log) ++ itsB (e.next.toList.map It.next) ++ itsB (e.seq.toList.map It.seq) ++ itsB (e.points.map (fun x => It.pt x.1 x.2)) ++ itsB (e.dropped.map (fun x => It.dr x.1 x.2)) ++ itsB (e.added.map (fun x => It.ad x.1 x.2)))) σ := by
    have : e.octets = itsB (if e.reset then [It.reset] else []) ++ itsB (e.comp.toList.map It.comp) ++ itsB (e.log.toList.map It.log) ++ itsB (e.next.toList.map It.next) ++ itsB (e.seq.toList.map It.seq) ++ itsB (e.points.map (fun x => It.pt x.1 x.2)) ++ itsB (e.dropped.map (fun x => It.dr x.1 x.2)) ++ itsB (e.added.map (fun x => It.ad x.1 x.2)) := by
      simp only [Edit.octets, Edit.items, itsB_app, List.append_assoc]
    rw [← this]; exact h
  refine kNew fun s p F => ?_
  have at_ : ∀ b, SK σ s p b r = some (.inst 397 (e.fs P D A)) := fun b => SK_old F h1
  refine sIte e.reset (TB.attr rfl (at_ _) rfl rfl) ?_
  have st : wpSs (progT con) (callN (progT con) progP (n + 3)) (b_394.drop 2) [some (.ref r), some (.ref s), none, none, none, none, none] (SK σ s p (itsB (if e.reset then [It.reset] else []))) (fun fl _ σ' => ∃ τ, Sub τ σ' ∧ Q (match fl with | .ret v => v | .next => .none) τ) → wpSs (progT con) (callN (progT con) progP (n + 3)) ((if e.reset = true then [.ex (.meth (.var 1) 42 [.int 10])] else []) ++ b_394.drop 2) [some (.ref r), some (.ref s), none, none, none, none, none] (SK σ s p []) (fun fl _ σ' => ∃ τ, Sub τ σ' ∧ Q (match fl with | .ret v => v | .next => .none) τ) := fun g => by
    induction hr : e.reset using Bool.casesOn with
    | false => rw [hr] at g; exact g
    | true =>
      rw [hr] at g
      exact jTag (t := 10) (N := 0) F (Nat.le_refl 0) rfl (by decide) (by decide) fun _ => g
  refine st ?_
  refine kOptB F l0 rfl rfl h1 F_397_7 rfl o1 (by decide) fun hb => ?_
  refine kOptN (mk := .log) F hb rfl rfl h1 F_397_8 rfl (t := 2) (by decide) (fun n => rfl) o2 (by decide) fun hb => ?_
  refine kOptN (mk := .next) F hb rfl rfl h1 F_397_9 rfl (t := 3) (by decide) (fun n => rfl) o3 (by decide) fun hb => ?_
  refine kOptN (mk := .seq) F hb rfl rfl h1 F_397_10 rfl (t := 4) (by decide) (fun n => rfl) o4 (by decide) fun hb => ?_
  refine forT_step fun R hR => ev rfl (at_ _) rfl rfl _ ⟨ptsV e.points, itemsL (SK_old F h2), by rw [ptsV, List.length_map]; exact Nat.le_trans f1 (Nat.le_of_ble_eq_true rfl), ?_⟩
  refine ept_loop h2 F e.points _ none none none none o5 (by lia) fun v2 v3 => ?_
  show R _ _
  rw [hR]; clear hR R
  have hb := len_step hb l5 f1
  refine forT_step fun R hR => ev rfl (at_ _) rfl rfl _ ⟨drsV e.dropped, itemsL (SK_old F h3), by rw [drsV, List.length_map]; exact Nat.le_trans f2 (Nat.le_of_ble_eq_true rfl), ?_⟩
  refine edr_loop h3 F e.dropped _ v2 v3 none none o6 (by lia) fun v2 v4 => ?_
  show R _ _
  rw [hR]; clear hR R
  have hb := len_step hb l6 f2
  refine forT_step fun R hR => ev rfl (at_ _) rfl rfl _ ⟨adsV as e.added, itemsL (SK_old F h4), by rw [adsV_len h5.len]; exact Nat.le_trans f3 (Nat.le_of_ble_eq_true rfl), ?_⟩
  refine ead_loop h4 F as e.added _ v2 v3 v4 none h5 o7 (by lia) fun v2 v5 => ?_
  show R _ _
  rw [hR]; clear hR R
  exact j47 F (len_step hb l7 f3) rfl (by decide) ⟨σ, SK_sub F, h'⟩
end Mine
end
section
set_option tactic.hygienic false
set_option backward.match.sparseCases false
set_option maxRecDepth 10000
set_option linter.all false
namespace Mine
variable {con : Nat → Option (List V)} {C : Calls} {σ : Hp} {n : Nat} {ρ : Rho} {ss : List S}
section
variable {c a : Nat} {data tl : List Nat} {Q : K1}
/-- read_level -/
theorem c_408 {x : Nat} (A : At data a (vb x ++ tl)) (hx : x < 12) (h : At data (a + (vb x).length) tl → Q (.int x) (CK σ c data (a + (vb x).length))) : callN (progT con) progP (n + 4) 408 [.ref c] (CK σ c data a) Q := by
  refine call_intro (d := ⟨1, 3, b_408, []⟩) rfl (Nat.le_refl 1) (Nat.le_refl 1) ?_
  refine d42 rfl A (by lia) fun A => ?_
  have h1 : ¬ 12 ≤ (x : Int) := by lia
  refine sIte false (TB.ge (EV.var rfl) EV.int (decide_eq_false h1)) ?_
  exact sRet (EV.var rfl) ⟨_, Sub.refl _, h A⟩
/-- read_seq -/
theorem c_415 {x : Nat} (A : At data a (vb x ++ tl)) (hx : x ≤ 72057594037927935) (h : At data (a + (vb x).length) tl → Q (.int x) (CK σ c data (a + (vb x).length))) : callN (progT con) progP (n + 4) 415 [.ref c] (CK σ c data a) Q := by
  refine call_intro (d := ⟨1, 3, b_415, []⟩) rfl (Nat.le_refl 1) (Nat.le_refl 1) ?_
  refine d42 rfl A (by lia) fun A => ?_
  have h1 : ¬ 72057594037927935 < (x : Int) := by lia
  refine sIte false (TB.gt (EV.var rfl) EV.int (decide_eq_false h1)) ?_
  exact sRet (EV.var rfl) ⟨_, Sub.refl _, h A⟩
/-- read_ikey -/
theorem c_422 {x : List Nat} (A : At data a ((vb x.length ++ x) ++ tl)) (hx : Octs x) (h : At data (a + (vb x.length ++ x).length) tl → Q (.bytes x) (CK σ c data (a + (vb x.length ++ x).length))) : callN (progT con) progP (n + 5) 422 [.ref c] (CK σ c data a) Q := by
  refine call_intro (d := ⟨1, 3, b_422, []⟩) rfl (Nat.le_refl 1) (Nat.le_refl 1) ?_
  obtain ⟨h1, h2⟩ := hx
  refine d44 rfl A (by lia) fun A => ?_
  have h3 : ¬ (x.length : Int) = 0 := by lia
  have h4 : x.length ≤ lim := by unfold lim; lia
  refine sIte false (TB.eq (EV.lenB (EV.var rfl) h4) EV.int (decide_eq_false h3)) ?_
  exact sRet (EV.var rfl) ⟨_, Sub.refl _, h A⟩
end
theorem sNot {x : Nat} {t k : Int} {a b : List S} {Q : K2} (hx : ρ.get x = some (.int t)) (hb : decide (t = k) = false) (h : wpSs (progT con) C (b ++ ss) ρ σ Q) : wpSs (progT con) C (.ite (.cmp .eq (.var x) (.int k)) a b :: ss) ρ σ Q := sIte false (TB.eq (EV.var hx) EV.int hb) h
theorem sYes {x : Nat} {t k : Int} {a b : List S} {Q : K2} (hx : ρ.get x = some (.int t)) (hb : decide (t = k) = true) (h : wpSs (progT con) C (a ++ ss) ρ σ Q) : wpSs (progT con) C (.ite (.cmp .eq (.var x) (.int k)) a b :: ss) ρ σ Q := sIte true (TB.eq (EV.var hx) EV.int hb) h
theorem eTup2E {a b : E} {u : V} {G : K1} (h : EV con C a ρ σ u) (h' : wpE (progT con) C b ρ σ fun v σ' => [u, v].length ≤ lim ∧ G (.tup [u, v]) σ') : wpE (progT con) C (.tup [a, b]) ρ σ G := h _ h'
noncomputable def Edit.app (e : Edit) : It → Edit
  | .reset => ⟨e.comp, e.log, e.next, e.seq, e.points, e.dropped, e.added, true⟩
  | .comp x => ⟨some x, e.log, e.next, e.seq, e.points, e.dropped, e.added, e.reset⟩
  | .log x => ⟨e.comp, some x, e.next, e.seq, e.points, e.dropped, e.added, e.reset⟩
  | .next x => ⟨e.comp, e.log, some x, e.seq, e.points, e.dropped, e.added, e.reset⟩
  | .seq x => ⟨e.comp, e.log, e.next, some x, e.points, e.dropped, e.added, e.reset⟩
  | .pt l k => { e with points := e.points ++ [(l, k)] }
  | .dr l k => { e with dropped := e.dropped ++ [(l, k)] }
  | .ad l k => { e with added := e.added ++ [(l, k)] }
theorem fold_pt (e : Edit) : ∀ l : List (Nat × List Nat), (l.map fun x => It.pt x.1 x.2).foldl Edit.app e = { e with points := e.points ++ l }
  | [] => by simp
  | x :: l => by simp [Edit.app, fold_pt _ l]
theorem fold_dr (e : Edit) : ∀ l : List (Nat × Nat), (l.map fun x => It.dr x.1 x.2).foldl Edit.app e = { e with dropped := e.dropped ++ l }
  | [] => by simp
  | x :: l => by simp [Edit.app, fold_dr _ l]
theorem fold_ad (e : Edit) : ∀ l : List (Nat × Fm), (l.map fun x => It.ad x.1 x.2).foldl Edit.app e = { e with added := e.added ++ l }
  | [] => by simp
  | x :: l => by simp [Edit.app, fold_ad _ l]
section
variable (c : Option (List Nat)) (l x s : Option Nat) (p : List (Nat × List Nat)) (d : List (Nat × Nat)) (a : List (Nat × Fm)) (t : Bool)
theorem fold_r : (if t = true then [It.reset] else []).foldl Edit.app ⟨c, l, x, s, p, d, a, false⟩ = ⟨c, l, x, s, p, d, a, t⟩ := by induction t using Bool.casesOn <;> rfl
theorem fold_c : (c.toList.map It.comp).foldl Edit.app ⟨none, l, x, s, p, d, a, t⟩ = ⟨c, l, x, s, p, d, a, t⟩ := by induction c using Option.casesOn <;> rfl
theorem fold_l : (l.toList.map It.log).foldl Edit.app ⟨c, none, x, s, p, d, a, t⟩ = ⟨c, l, x, s, p, d, a, t⟩ := by induction l using Option.casesOn <;> rfl
theorem fold_n : (x.toList.map It.next).foldl Edit.app ⟨c, l, none, s, p, d, a, t⟩ = ⟨c, l, x, s, p, d, a, t⟩ := by induction x using Option.casesOn <;> rfl
theorem fold_s : (s.toList.map It.seq).foldl Edit.app ⟨c, l, x, none, p, d, a, t⟩ = ⟨c, l, x, s, p, d, a, t⟩ := by induction s using Option.casesOn <;> rfl
end
theorem Edit.fold (e : Edit) : e.items.foldl Edit.app Edit.nil = e := by
  obtain ⟨c, l, x, s, p, d, a, t⟩ := e
  unfold Edit.items Edit.nil
  simp only [List.foldl_append, fold_r, fold_c, fold_l, fold_n, fold_s, fold_pt, fold_dr, fold_ad, List.nil_append]
theorem EdAt.ck {υ : Hp} {r P D A c a a' : Nat} {data : List Nat} {as : List Nat} {e : Edit} (h : EdAt υ r P D A as e) (hk : υ c = some (cur data a)) : EdAt (CK υ c data a') r P D A as e :=
  h.mono fun x o hx hne => (CK_ne (ne_of_obj hx hk (hne _))).trans hx
section
variable {c r P D A : Nat} {σ0 : Hp} {data tl : List Nat} {x0 o9 : Option V}
noncomputable abbrev dedBody : List S := [.asg 3 (.meth (.var 2) 42 []), .ite (.cmp .eq (.var 3) (.int 1)) [.asgA (.var 1) 7 (.meth (.var 2) 44 [])] [.ite (.cmp .eq (.var 3) (.int 2)) [.asgA (.var 1) 8 (.meth (.var 2) 42 [])] [.ite (.cmp .eq (.var 3) (.int 3)) [.asgA (.var 1) 9 (.meth (.var 2) 42 [])] [.ite (.cmp .eq (.var 3) (.int 4)) [.asgA (.var 1) 10 (.call 415 [.var 2])] [.ite (.cmp .eq (.var 3) (.int 5)) [.asg 4 (.call 408 [.var 2]), .ex (.meth (.attr (.var 1) 11) 50 [.tup [.var 4, .call 422 [.var 2]]])] [.ite (.cmp .eq (.var 3) (.int 6)) [.asg 4 (.call 408 [.var 2]), .ex (.meth (.attr (.var 1) 12) 50 [.tup [.var 4, .meth (.var 2) 42 []]])] [.ite (.cmp .eq (.var 3) (.int 7)) [.asg 4 (.call 408 [.var 2]), .asg 5 (.meth (.var 2) 42 []), .asg 6 (.meth (.var 2) 42 []), .asg 7 (.call 422 [.var 2]), .asg 8 (.call 422 [.var 2]), .ex (.meth (.attr (.var 1) 13) 50 [.tup [.var 4, .new 362 [.var 5, .var 6, .var 7, .var 8]]])] [.ite (.cmp .eq (.var 3) (.int 10)) [.asgA (.var 1) 14 (.bool true)] [.raise]]]]]]]]]
structure Fr (σ0 : Hp) (c r P D A : Nat) : Prop where
  c : σ0 c = none
  r : σ0 r = none
  p : σ0 P = none
  d : σ0 D = none
  a : σ0 A = none
  pd : P ≠ D
  pa : P ≠ A
  da : D ≠ A
/-- one word more -/
theorem ded_step (F : Fr σ0 c r P D A) {i : It} {a : Nat} {as : List Nat} {e : Edit} {υ : Hp} {o3 o4 o5 o6 o7 o8 : Option V} {Q : K2} (ok : i.ok) (few : e.points.length + e.dropped.length + e.added.length ≤ 100) (A0 : At data a (i.oct ++ tl)) (hs : Sub σ0 υ) (hk : υ c = some (cur data a)) (he : EdAt υ r P D A as e)
    (h : ∀ υ' a' as' o3 o4 o5 o6 o7 o8, At data a' tl → Sub σ0 υ' → υ' c = some (cur data a') → EdAt υ' r P D A as' (e.app i) → Q .next [x0, some (.ref r), some (.ref c), o3, o4, o5, o6, o7, o8, o9] υ') :
    wpSs (progT con) (callN (progT con) progP (n + 5)) dedBody [x0, some (.ref r), some (.ref c), o3, o4, o5, o6, o7, o8, o9] υ Q := by
  have hrc : r ≠ c := ne_of_obj he.r hk (by intro h; cases h)
  have hPc : P ≠ c := ne_of_obj he.p hk (by intro h; cases h)
  have hDc : D ≠ c := ne_of_obj he.d hk (by intro h; cases h)
  have hAc : A ≠ c := ne_of_obj he.a hk (by intro h; cases h)
  have hrp : r ≠ P := ne_of_obj he.r he.p (by intro h; cases h)
  have sk : ∀ a', Sub σ0 (CK υ c data a') := fun a' => Sub.put hs F.c
  have hck : ∀ a', EdAt (CK υ c data a') r P D A as e := fun a' => he.ck hk
  rw [← CK_is hk]
  induction i using Mine.It.casesOn with
  | reset =>
    refine d42 (x := 10) (tl := tl) rfl (by rw [vb_small (by decide)]; exact A0) (by decide) fun A1 => ?_
    refine sNot rfl rfl ?_
    refine sNot rfl rfl ?_
    refine sNot rfl rfl ?_
    refine sNot rfl rfl ?_
    refine sNot rfl rfl ?_
    refine sNot rfl rfl ?_
    refine sNot rfl rfl ?_
    refine sYes rfl rfl ?_
    exact sFld EV.bool rfl (hck _).r F_397_14 (Nat.le_of_ble_eq_true rfl) (h _ _ as _ _ _ _ _ _ A1 (Sub.put (sk _) F.r) ((upd_ne _ _ hrc.symm).trans CK_c) ((hck _).set e.comp e.log e.next e.seq true))
  | comp x =>
    have ok : x.length ≤ 10000 := ok
    refine d42 (x := 1) (tl := (vb x.length ++ x) ++ tl) rfl (by rw [vb_small (by decide)]; exact A0) (by decide) fun A1 => ?_
    refine sYes rfl rfl ?_
    refine dA44 rfl rfl hrc he.r F_397_7 (Nat.le_of_ble_eq_true rfl) A1 (by lia) fun A1 => ?_
    exact h _ _ as _ _ _ _ _ _ A1 (Sub.put (Sub.put hs F.r) F.c) CK_c ((he.set (some x) e.log e.next e.seq e.reset).ck ((upd_ne _ _ hrc.symm).trans hk))
  | log x =>
    refine d42 (x := 2) (tl := vb x ++ tl) rfl (by rw [vb_small (by decide)]; exact A0) (by decide) fun A1 => ?_
    refine sNot rfl rfl ?_
    refine sYes rfl rfl ?_
    refine dA42 rfl rfl hrc he.r F_397_8 (Nat.le_of_ble_eq_true rfl) A1 ok fun A1 => ?_
    exact h _ _ as _ _ _ _ _ _ A1 (Sub.put (Sub.put hs F.r) F.c) CK_c ((he.set e.comp (some x) e.next e.seq e.reset).ck ((upd_ne _ _ hrc.symm).trans hk))
  | next x =>
    refine d42 (x := 3) (tl := vb x ++ tl) rfl (by rw [vb_small (by decide)]; exact A0) (by decide) fun A1 => ?_
    refine sNot rfl rfl ?_
    refine sNot rfl rfl ?_
    refine sYes rfl rfl ?_
    refine dA42 rfl rfl hrc he.r F_397_9 (Nat.le_of_ble_eq_true rfl) A1 ok fun A1 => ?_
    exact h _ _ as _ _ _ _ _ _ A1 (Sub.put (Sub.put hs F.r) F.c) CK_c ((he.set e.comp e.log (some x) e.seq e.reset).ck ((upd_ne _ _ hrc.symm).trans hk))
  | seq x =>
    have ok : x ≤ 72057594037927935 := ok
    refine d42 (x := 4) (tl := vb x ++ tl) rfl (by rw [vb_small (by decide)]; exact A0) (by decide) fun A1 => ?_
    refine sNot rfl rfl ?_
    refine sNot rfl rfl ?_
    refine sNot rfl rfl ?_
    refine sYes rfl rfl ?_
    exact sAsgAE (eCall1 (EV.var rfl) (c_415 A1 ok fun A1 => AsgP.mk rfl (hck _).r F_397_10 (Nat.le_of_ble_eq_true rfl) (h _ _ as _ _ _ _ _ _ A1 (Sub.put (sk _) F.r) ((upd_ne _ _ hrc.symm).trans CK_c) ((hck _).set e.comp e.log e.next (some x) e.reset))))
  | pt l k =>
    obtain ⟨o1, o2⟩ := ok
    refine d42 (x := 5) (tl := vb l ++ ((vb k.length ++ k) ++ tl)) rfl (by rw [vb_small (by decide)]; simpa [It.oct] using A0) (by decide) fun A1 => ?_
    refine sNot rfl rfl ?_
    refine sNot rfl rfl ?_
    refine sNot rfl rfl ?_
    refine sNot rfl rfl ?_
    refine sYes rfl rfl ?_
    refine sAsgE (eCall1 (EV.var rfl) (c_408 A1 o1 fun A1 => ?_))
    exact sPushE (ev rfl (hck _).r rfl rfl) (hck _).p (eTup2E (EV.var rfl) (eCall1 (EV.var rfl) (c_422 A1 o2 fun A1 => ⟨Nat.le_of_ble_eq_true rfl, PushP.mk (hck _).p (by rw [ptsV, List.length_map]; unfold lim; lia) (h _ _ as _ _ _ _ _ _ A1 (Sub.put (sk _) F.p) ((upd_ne _ _ hPc.symm).trans CK_c) ((hck _).addP F.pd F.pa (l, k)))⟩)))
  | dr l k =>
    obtain ⟨o1, o2⟩ := ok
    refine d42 (x := 6) (tl := vb l ++ (vb k ++ tl)) rfl (by rw [vb_small (by decide)]; simpa [It.oct] using A0) (by decide) fun A1 => ?_
    refine sNot rfl rfl ?_
    refine sNot rfl rfl ?_
    refine sNot rfl rfl ?_
    refine sNot rfl rfl ?_
    refine sNot rfl rfl ?_
    refine sYes rfl rfl ?_
    refine sAsgE (eCall1 (EV.var rfl) (c_408 A1 o1 fun A1 => ?_))
    exact sPushE (ev rfl (hck _).r rfl rfl) (hck _).d (eTup2E (EV.var rfl) (eMeth0 (EV.var rfl) CK_c M_257_42 rfl (c_205 CK_c A1.fit o2 A1.rest (by
      rw [CK_put]
      exact ⟨Nat.le_of_ble_eq_true rfl, PushP.mk (hck _).d (by rw [drsV, List.length_map]; unfold lim; lia) (h _ _ as _ _ _ _ _ _ A1.next (Sub.put (sk _) F.d) ((upd_ne _ _ hDc.symm).trans CK_c) ((hck _).addD F.pd F.da (l, k)))⟩))))
  | ad l k =>
    obtain ⟨o1, o2, o3, o4, o5⟩ := ok
    refine d42 (x := 7) (tl := vb l ++ (vb k.number ++ (vb k.size ++ ((vb k.small.length ++ k.small) ++ ((vb k.large.length ++ k.large) ++ tl))))) rfl (by rw [vb_small (by decide)]; simpa [It.oct] using A0) (by decide) fun A1 => ?_
    refine sNot rfl rfl ?_
    refine sNot rfl rfl ?_
    refine sNot rfl rfl ?_
    refine sNot rfl rfl ?_
    refine sNot rfl rfl ?_
    refine sNot rfl rfl ?_
    refine sYes rfl rfl ?_
    refine sAsgE (eCall1 (EV.var rfl) (c_408 A1 o1 fun A1 => ?_))
    refine d42 rfl A1 o2 fun A1 => ?_
    refine d42 rfl A1 o3 fun A1 => ?_
    refine sAsgE (eCall1 (EV.var rfl) (c_422 A1 o4 fun A1 => ?_))
    refine sAsgE (eCall1 (EV.var rfl) (c_422 A1 o5 fun A1 => ?_))
    generalize a + _ + _ + _ + _ + _ + _ = a1 at *
    have t1 := hck a1
    have t2 : CK υ c data a1 c = _ := CK_c
    have t3 := sk a1
    generalize CK υ c data a1 = υ1 at t1 t2 t3
    refine sPushE (ev rfl t1.r rfl rfl) t1.a (eTup2E (EV.var rfl) (eNew (vs := k.row) ?_ (c_352 k fun q hq => ?_)))
    · exact ⟨EV.var rfl, EV.var rfl, EV.var rfl, EV.var rfl, rfl⟩
    have t4 : EdAt (upd υ1 q (.inst 362 k.fs)) r P D A as e := t1.sub (Sub.put (Sub.refl _) hq)
    exact ⟨Nat.le_of_ble_eq_true rfl, PushP.mk t4.a (by rw [adsV_len t1.m.len]; unfold lim; lia) (h _ _ (as ++ [q]) _ _ _ _ _ _ A1 (Sub.put (Sub.put t3 (t3.free hq)) F.a) (by rw [upd_ne _ _ hAc.symm, upd_ne _ _ (ne_of_free t2 hq)]; exact t2) (t4.addA F.pa F.da (l, k) (upd_at ..)))⟩
end
end Mine
end
section
set_option tactic.hygienic false
set_option backward.match.sparseCases false
set_option maxRecDepth 10000
set_option linter.all false
namespace Mine
variable {con : Nat → Option (List V)} {C : Calls} {σ : Hp} {n : Nat} {ρ : Rho} {ss : List S}
theorem It.pos : ∀ i : It, 0 < i.oct.length
  | .reset => by simp [It.oct]
  | .comp _ => by simp [It.oct]
  | .log _ => by simp [It.oct]
  | .next _ => by simp [It.oct]
  | .seq _ => by simp [It.oct]
  | .pt _ _ => by simp [It.oct]
  | .dr _ _ => by simp [It.oct]
  | .ad _ _ => by simp [It.oct]
noncomputable def Edit.cnt (e : Edit) : Nat := e.points.length + e.dropped.length + e.added.length
theorem Edit.cnt_app (e : Edit) : ∀ i : It, (e.app i).cnt ≤ e.cnt + 1
  | .reset => by simp [Edit.app, Edit.cnt]
  | .comp _ => by simp [Edit.app, Edit.cnt]
  | .log _ => by simp [Edit.app, Edit.cnt]
  | .next _ => by simp [Edit.app, Edit.cnt]
  | .seq _ => by simp [Edit.app, Edit.cnt]
  | .pt _ _ => by simp [Edit.app, Edit.cnt]; lia
  | .dr _ _ => by simp [Edit.app, Edit.cnt]; lia
  | .ad _ _ => by simp [Edit.app, Edit.cnt]; lia
section
variable {c r P D A : Nat} {σ0 : Hp} {data : List Nat} {x0 o9 : Option V} {Q : K2}
theorem ded_test {a : Nat} {tl : List Nat} {υ : Hp} {o1 o3 o4 o5 o6 o7 o8 : Option V} {b : Bool} {Q : Bool → Hp → Prop} (hA : At data a tl) (hk : υ c = some (cur data a)) (hb : decide (0 < tl.length) = b) (h : Q b υ) :
    wpB (progT con) (callN (progT con) progP (n + 5)) (.cmp .gt (.meth (.var 2) 41 []) (.int 0)) [x0, o1, some (.ref c), o3, o4, o5, o6, o7, o8, o9] υ Q := by
  have hl := hA.len
  have e : decide (((data.length : Int) - (a : Int)) > 0) = b := by
    rw [← hb]
    have := hA.le
    by_cases hz : 0 < tl.length
    · rw [decide_eq_true hz, decide_eq_true (by lia)]
    · rw [decide_eq_false hz, decide_eq_false (by lia)]
  exact TB.gt (EV.meth0 (EV.var rfl) hk M_257_41 rfl fun Q h => c_198 hk hA.fit h) EV.int e _ h
theorem ded_loop (F : Fr σ0 c r P D A) : ∀ (l : List It) (e : Edit) (a : Nat) (as : List Nat) (υ : Hp) (o3 o4 o5 o6 o7 o8 : Option V), (∀ i ∈ l, i.ok) → e.cnt + l.length ≤ 100 → At data a (itsB l) → Sub σ0 υ → υ c = some (cur data a) → EdAt υ r P D A as e →
    (∀ υ' as' o3 o4 o5 o6 o7 o8, Sub σ0 υ' → EdAt υ' r P D A as' (l.foldl Edit.app e) → Q .next [x0, some (.ref r), some (.ref c), o3, o4, o5, o6, o7, o8, o9] υ') →
    whileLoop (fun ρ σ Q => wpB (progT con) (callN (progT con) progP (n + 5)) (.cmp .gt (.meth (.var 2) 41 []) (.int 0)) ρ σ Q) (fun ρ σ Q => wpSs (progT con) (callN (progT con) progP (n + 5)) dedBody ρ σ Q) (l.length + 1) [x0, some (.ref r), some (.ref c), o3, o4, o5, o6, o7, o8, o9] υ Q := by
  intro l
  induction l with
  | nil =>
    intro e a as υ o3 o4 o5 o6 o7 o8 _ _ hA hs hk he hQ
    refine while_turn fun R hR => ?_
    refine ded_test (b := false) hA hk rfl ?_
    exact hQ υ as _ _ _ _ _ _ hs he
  | cons i l ih =>
    intro e a as υ o3 o4 o5 o6 o7 o8 ok hl hA hs hk he hQ
    rw [itsB_cons] at hA
    simp at hl
    have ip := i.pos
    have hc := e.cnt_app i
    refine while_turn fun R hR => ?_
    refine ded_test (b := true) hA hk (decide_eq_true (by simp; lia)) ?_
    rw [if_pos rfl]
    refine ded_step F (ok i (.head _)) (by unfold Edit.cnt at hl; lia) hA hs hk he fun υ' a' as' o3 o4 o5 o6 o7 o8 hA' hs' hk' he' => ?_
    refine ⟨_, Sub.refl _, ?_⟩
    rw [hR]
    exact ih (e.app i) a' as' υ' _ _ _ _ _ _ (fun x hx => ok x (.tail _ hx)) (by lia) hA' hs' hk' he' hQ
end
/-- decode_edit -/
theorem c_429 {Q : K1} {e : Edit} (ok : e.ok) (h : ∀ r P D A as τ, Sub σ τ → EdAt τ r P D A as e → Q (.ref r) τ) : callN (progT con) progP (n + 6) 429 [.bytes e.octets] σ Q := by
  refine call_intro (d := ⟨1, 10, b_429, []⟩) rfl (Nat.le_refl 1) (Nat.le_refl 1) ?_
  have lo := Edit.len ok
  have li := Edit.items_len ok.few
  refine sAsgE (eNew (vs := []) rfl (c_380 fun r P D A τ hr hP hD hA pd pa da hs he => ?_))
  refine dNew rfl (by unfold lim; lia) fun c hc A1 => ?_
  have hc0 : σ c = none := hs.free hc
  refine sWhl fun R hR => ?_
  refine ⟨e.items.length + 1, ded_loop (σ0 := σ) ⟨hc0, hr, hP, hD, hA, pd, pa, da⟩ e.items Edit.nil 0 [] (CK τ c e.octets 0) none none none none none none ok.each (by simp [Edit.cnt, Edit.nil]; lia) A1 (Sub.put hs hc0) CK_c (he.sub (CK_sub hc)) fun υ as o3 o4 o5 o6 o7 o8 hs' he' => ?_⟩
  show R _ _
  rw [hR]; clear hR R
  rw [Edit.fold] at he'
  exact sRet (EV.var rfl) ⟨_, Sub.refl _, h r P D A as υ hs' he'⟩
end Mine
end
section
set_option tactic.hygienic false
set_option backward.match.sparseCases false
set_option maxRecDepth 10000
set_option linter.all false
namespace Mine
variable {con : Nat → Option (List V)} {σ : Hp} {n : Nat} {ρ : Rho} {ss : List S}
/-! ## what an expression of the law comes to, in every heap that knows as much -/
noncomputable def PV (con : Nat → Option (List V)) (n : Nat) (e : E) (ρ : Rho) (σ : Hp) (v : V) : Prop := ∀ τ, Sub σ τ → ∀ Q : K1, Q v τ → wpE (progT con) (callN (progT con) progP n) e ρ τ Q
noncomputable def PA (con : Nat → Option (List V)) (n : Nat) (e : E) (ρ : Rho) (σ : Hp) (v : V) : Prop := ∀ τ, Sub σ τ → ∀ Q : K1, (∀ υ, Sub τ υ → Q v υ) → wpE (progT con) (callN (progT con) progP n) e ρ τ Q
noncomputable def PR (con : Nat → Option (List V)) (n : Nat) (e : E) (ρ : Rho) (σ : Hp) (vs : List V) : Prop := ∀ τ, Sub σ τ → ∀ Q : K1, (∀ r υ, Sub τ υ → υ r = some (.lst vs) → Q (.ref r) υ) → wpE (progT con) (callN (progT con) progP n) e ρ τ Q
noncomputable def PL (con : Nat → Option (List V)) (n : Nat) (e : E) (ρ : Rho) (σ : Hp) (vs : List V) : Prop := ∀ τ, Sub σ τ → ∀ Q : K1, (∀ r υ, τ r = none → Sub τ υ → υ r = some (.lst vs) → Q (.ref r) υ) → wpE (progT con) (callN (progT con) progP n) e ρ τ Q
noncomputable def NB (con : Nat → Option (List V)) (n : Nat) (e : E) (ρ : Rho) (σ : Hp) : Prop := ∀ τ, Sub σ τ → ∀ Q : Bool → Hp → Prop, (∀ υ, Sub τ υ → Q false υ) → wpB (progT con) (callN (progT con) progP n) e ρ τ Q
noncomputable def PVs (con : Nat → Option (List V)) (n : Nat) : List E → Rho → Hp → List V → Prop
  | [], _, _, vs => vs = []
  | e :: es, ρ, σ, v :: vs => PV con n e ρ σ v ∧ PVs con n es ρ σ vs
  | _ :: _, _, _, [] => False
theorem PL.r {e : E} {vs : List V} (h : PL con n e ρ σ vs) : PR con n e ρ σ vs := fun τ s Q hq => h τ s Q fun r υ _ t g => hq r υ t g
theorem PV.a {e : E} {v : V} (h : PV con n e ρ σ v) : PA con n e ρ σ v := fun τ s Q hq => h τ s Q (hq τ (Sub.refl _))
theorem PV.ref {e : E} {r : Nat} {vs : List V} (h : PV con n e ρ σ (.ref r)) (g : σ r = some (.lst vs)) : PR con n e ρ σ vs := fun τ s Q hq => h τ s Q (hq r τ (Sub.refl _) (s _ _ g))
theorem PV.int {i : Int} : PV con n (.int i) ρ σ (.int i) := fun τ s Q h => h
theorem PV.bytes {i : List Nat} : PV con n (.bytes i) ρ σ (.bytes i) := fun τ s Q h => h
theorem PV.none : PV con n .none ρ σ .none := fun τ s Q h => h
theorem PV.bool {i : Bool} : PV con n (.bool i) ρ σ (.bool i) := fun τ s Q h => h
theorem PV.var {x : Nat} {v : V} (hx : ρ.get x = some v) : PV con n (.var x) ρ σ v := fun τ s Q h => by
  exact ⟨_, hx, h⟩
theorem PR.var {x r : Nat} {vs : List V} (hx : ρ.get x = some (.ref r)) (h : σ r = some (.lst vs)) : PR con n (.var x) ρ σ vs := (PV.var hx).ref h
theorem PVs.run : ∀ {es : List E} {vs : List V}, PVs con n es ρ σ vs → ∀ τ, Sub σ τ → ∀ Q : List V → Hp → Prop, Q vs τ → wpL (progT con) (callN (progT con) progP n) es ρ τ Q
  | [], vs, h, τ, s, Q, hq => by
    obtain rfl : vs = [] := h
    exact hq
  | e :: es, v :: vs, ⟨h1, h2⟩, τ, s, Q, hq => by
    exact h1 τ s _ (h2.run τ s _ hq)
  | _ :: _, [], h, _, _, _, _ => h.elim
theorem PV.tup {es : List E} {vs : List V} (h : PVs con n es ρ σ vs) (hl : vs.length ≤ lim) : PV con n (.tup es) ρ σ (.tup vs) := fun τ s Q hq => by
  exact h.run τ s _ ⟨hl, hq⟩
theorem PL.list {es : List E} {vs : List V} (h : PVs con n es ρ σ vs) (hl : vs.length ≤ lim) : PL con n (.list es) ρ σ vs := fun τ s Q hq => by
  exact h.run τ s _ ⟨hl, fun r hr => hq r _ hr (Sub.put (Sub.refl _) hr) (upd_at ..)⟩
theorem PL.add {e e' : E} {xs ys : List V} (h : PR con n e ρ σ xs) (h' : PR con n e' ρ σ ys) (hl : xs.length + ys.length ≤ lim) : PL con n (.bin .add e e') ρ σ (xs ++ ys) := fun τ s Q hq => by
  refine h τ s _ fun r υ t g => ?_
  refine h' υ (s.trans t) _ fun r' υ' t' g' => ?_
  rw [L6, t' _ _ g, g']
  exact ⟨rfl, hl, fun q hq' => hq q _ ((t.trans t').free hq') ((t.trans t').trans (Sub.put (Sub.refl _) hq')) (upd_at ..)⟩
section
variable {e e' : E} {i j : Int} (h : PV con n e ρ σ (.int i)) (h' : PV con n e' ρ σ (.int j))
include h h'
theorem PV.fdiv (hj : 0 < j) (hj' : j < 1073741824) : PV con n (.bin .fdiv e e') ρ σ (.int (i / j)) := fun τ s Q hq => by
  exact h τ s _ (h' τ s _ ⟨hj, hj', hq⟩)
theorem PV.mod (hj : 0 < j) : PV con n (.bin .mod e e') ρ σ (.int (i % j)) := fun τ s Q hq => by
  exact h τ s _ (h' τ s _ ⟨hj, hq⟩)
theorem PV.add : PV con n (.bin .add e e') ρ σ (.int (i + j)) := fun τ s Q hq => by
  exact h τ s _ (h' τ s _ hq)
theorem PV.mul (hi : i.natAbs < 2 ^ 64) (hj : j.natAbs < 2 ^ 64) : PV con n (.bin .mul e e') ρ σ (.int (i * j)) := fun τ s Q hq => by
  exact h τ s _ (h' τ s _ ⟨hi, hj, hq⟩)
theorem PV.pow (hi : i.natAbs < 2 ^ 64) (hj : 0 ≤ j) (hj' : j ≤ 100) : PV con n (.bin .pow e e') ρ σ (.int (i ^ j.toNat)) := fun τ s Q hq => by
  exact h τ s _ (h' τ s _ ⟨hj, hj', hi, hq⟩)
theorem PV.eqI : PV con n (.cmp .eq e e') ρ σ (.bool (decide (i = j))) := fun τ s Q hq => by
  exact h τ s _ (h' τ s _ hq)
end
theorem PV.idxT {e e' : E} {vs : List V} {i : Nat} {v : V} (h : PV con n e ρ σ (.tup vs)) (h' : PV con n e' ρ σ (.int i)) (hl : vs.length ≤ lim) (hv : vs[i]? = some v) : PV con n (.idx e e') ρ σ v := fun τ s Q hq => by
  refine h τ s _ (h' τ s _ ?_)
  exact ⟨by lia, hl, v, by rw [Int.toNat_natCast]; exact hv, hq⟩
theorem PV.idxL {e e' : E} {vs : List V} {r i : Nat} {v : V} (h : PV con n e ρ σ (.ref r)) (hr : σ r = some (.lst vs)) (h' : PV con n e' ρ σ (.int i)) (hl : vs.length ≤ lim) (hv : vs[i]? = some v) : PV con n (.idx e e') ρ σ v := fun τ s Q hq => by
  refine h τ s _ (h' τ s _ ?_)
  rw [L15, s _ _ hr]
  exact ⟨hl, Or.inl ⟨by lia, v, by rw [Int.toNat_natCast]; exact hv, hq⟩⟩
theorem PV.lenL {e : E} {vs : List V} {r : Nat} (h : PV con n e ρ σ (.ref r)) (hr : σ r = some (.lst vs)) (hl : vs.length ≤ lim) : PV con n (.bi .len [e]) ρ σ (.int vs.length) := fun τ s Q hq => by
  refine u_bi (ul_cons (h τ s _ (ul_nil ?_)))
  rw [L20, s _ _ hr]
  exact ⟨hl, hq⟩
theorem PV.lenB {e : E} {b : List Nat} (h : PV con n e ρ σ (.bytes b)) (hl : b.length ≤ lim) : PV con n (.bi .len [e]) ρ σ (.int b.length) := fun τ s Q hq => by
  refine u_bi (ul_cons (h τ s _ (ul_nil ?_)))
  rw [L18]
  exact ⟨hl, hq⟩
theorem PL.listB {e : E} {b : List Nat} (h : PV con n e ρ σ (.bytes b)) (hl : b.length ≤ lim) : PL con n (.bi .list [e]) ρ σ (natsV b) := fun τ s Q hq => by
  refine u_bi (ul_cons (h τ s _ (ul_nil ?_)))
  rw [L27]
  exact ⟨hl, fun r hr => hq r _ hr (Sub.put (Sub.refl _) hr) (upd_at ..)⟩
theorem PV.tupL {e : E} {vs : List V} {r : Nat} (h : PV con n e ρ σ (.ref r)) (hr : σ r = some (.lst vs)) (hl : vs.length ≤ lim) : PV con n (.bi .tuple [e]) ρ σ (.tup vs) := fun τ s Q hq => by
  refine u_bi (ul_cons (h τ s _ (ul_nil ?_)))
  rw [L28, s _ _ hr]
  exact ⟨hl, hq⟩
theorem PL.mulI {e e' : E} {xs : List V} {i : Nat} (h : PR con n e ρ σ xs) (h' : PV con n e' ρ σ (.int i)) (hi : i ≤ 1000) (hl : xs.length * i ≤ lim) : PL con n (.bin .mul e e') ρ σ (repL i xs) := fun τ s Q hq => by
  refine h τ s _ fun r υ t g => ?_
  refine h' υ (s.trans t) _ ?_
  rw [L5, g]
  exact ⟨rfl, by lia, by lia, by rw [Int.toNat_natCast]; exact hl, fun q hq' => by rw [Int.toNat_natCast]; exact hq q _ (t.free hq') (t.trans (Sub.put (Sub.refl _) hq')) (upd_at ..)⟩
theorem PV.mulB {e e' : E} {xs : List Nat} {i : Nat} (h : PV con n e ρ σ (.bytes xs)) (h' : PV con n e' ρ σ (.int i)) (hx : xs ≠ []) (hi : i ≤ 1000) (hl : xs.length * i ≤ lim) : PV con n (.bin .mul e e') ρ σ (.bytes (repL i xs)) := fun τ s Q hq => by
  refine h τ s _ (h' τ s _ ?_)
  rw [L4]
  exact ⟨rfl, hx, by lia, by lia, by rw [Int.toNat_natCast]; exact hl, by rw [Int.toNat_natCast]; exact hq⟩
/-! ## statements -/
section
variable {k : Nat} {e : E} {v : V} {vs : List V} {Q : K2}
theorem asgV (h : PV con n e ρ σ v) (g : wpSs (progT con) (callN (progT con) progP n) ss (ρ.set k (some v)) σ Q) : wpSs (progT con) (callN (progT con) progP n) (.asg k e :: ss) ρ σ Q := by
  refine seq_step fun R hR => ?_
  refine h σ (Sub.refl _) _ ?_
  simp only
  rw [hR]; exact g
theorem asgA (h : PA con n e ρ σ v) (g : ∀ τ, Sub σ τ → wpSs (progT con) (callN (progT con) progP n) ss (ρ.set k (some v)) τ Q) : wpSs (progT con) (callN (progT con) progP n) (.asg k e :: ss) ρ σ Q := by
  refine seq_step fun R hR => ?_
  refine h σ (Sub.refl _) _ fun υ t => ?_
  simp only
  rw [hR]; exact g υ t
theorem asgL (h : PL con n e ρ σ vs) (g : ∀ r τ, σ r = none → Sub σ τ → τ r = some (.lst vs) → wpSs (progT con) (callN (progT con) progP n) ss (ρ.set k (some (.ref r))) τ Q) : wpSs (progT con) (callN (progT con) progP n) (.asg k e :: ss) ρ σ Q := by
  refine seq_step fun R hR => ?_
  refine h σ (Sub.refl _) _ fun r τ h1 h2 h3 => ?_
  simp only
  rw [hR]; exact g r τ h1 h2 h3
theorem NB.ite {b : List S} (h : NB con n e ρ σ) (g : ∀ τ, Sub σ τ → wpSs (progT con) (callN (progT con) progP n) ss ρ τ Q) : wpSs (progT con) (callN (progT con) progP n) (.ite e b [] :: ss) ρ σ Q := by
  refine seq_step fun R hR => ?_
  refine h σ (Sub.refl _) _ fun τ t => ?_
  rw [if_neg (by decide)]
  refine uss_nil ?_
  simp only
  rw [hR]; exact g τ t
end
theorem NB.or2 {a b : E} (h : NB con n a ρ σ) (h' : NB con n b ρ σ) : NB con n (.bop false [a, b]) ρ σ := fun τ s Q hq => by
  refine h τ s _ fun υ t => ?_
  rw [if_pos rfl]
  refine h' υ (s.trans t) _ fun υ' t' => ?_
  rw [if_pos rfl]
  exact hq _ (t.trans t')
theorem NB.or3 {a b c : E} (h : NB con n a ρ σ) (h' : NB con n b ρ σ) (h'' : NB con n c ρ σ) : NB con n (.bop false [a, b, c]) ρ σ := fun τ s Q hq => by
  refine h τ s _ fun υ t => ?_
  rw [if_pos rfl]
  refine h' υ (s.trans t) _ fun υ' t' => ?_
  rw [if_pos rfl]
  refine h'' υ' ((s.trans t).trans t') _ fun υ'' t'' => ?_
  rw [if_pos rfl]
  exact hq _ ((t.trans t').trans t'')
theorem eqP_refl {v : V} {σ : Hp} {Q : Bool → Prop} (hp : pureV 8 v = true) (h : Q true) : eqP v v σ Q := by
  induction v using Mine.V.casesOn <;> simp_all [eqP, pureV]
theorem NB.ne {e e' : E} {v : V} (h : PA con n e ρ σ v) (h' : PA con n e' ρ σ v) (hp : pureV 8 v = true) : NB con n (.cmp .ne e e') ρ σ := fun τ s Q hq => by
  refine h τ s _ fun υ t => ?_
  refine h' υ (s.trans t) _ fun υ' t' => ?_
  exact eqP_refl (Q := fun t => Q (!t) υ') hp (hq _ (t.trans t'))
theorem NB.neL {e e' : E} {vs : List V} (h : PR con n e ρ σ vs) (h' : PR con n e' ρ σ vs) (hp : vs.all (pureV 8) = true) : NB con n (.cmp .ne e e') ρ σ := fun τ s Q hq => by
  refine h τ s _ fun r υ t g => ?_
  refine h' υ (s.trans t) _ fun r' υ' t' g' => ?_
  rw [L43, L8, t' _ _ g, g']
  exact ⟨rfl, hp, hq _ (t.trans t')⟩
theorem PA.eq {e e' : E} {v : V} (h : PA con n e ρ σ v) (h' : PA con n e' ρ σ v) (hp : pureV 8 v = true) : PA con n (.cmp .eq e e') ρ σ (.bool true) := fun τ s Q hq => by
  refine h τ s _ fun υ t => ?_
  refine h' υ (s.trans t) _ fun υ' t' => ?_
  exact eqP_refl (Q := fun t => Q (.bool t) υ') hp (hq _ (t.trans t'))
theorem nats_pure (l : List Nat) : (natsV l).all (pureV 8) = true := by simp [natsV, pureV]
/-- return True -/
theorem retA {e : E} {v : V} {σ0 : Hp} {Q : K1} (h : PA con n e ρ σ v) (s : Sub σ0 σ) (hq : Q v σ0) : wpSs (progT con) (callN (progT con) progP n) [.ret e] ρ σ (fun fl _ σ' => ∃ τ, Sub τ σ' ∧ Q (match fl with | .ret v => v | .next => .none) τ) := by
  refine seq_step fun R hR => ?_
  refine h σ (Sub.refl _) _ fun υ t => ?_
  exact ⟨σ0, s.trans t, hq⟩
end Mine
end
section
set_option tactic.hygienic false
set_option backward.match.sparseCases false
set_option maxRecDepth 10000
set_option linter.all false
namespace Mine
variable {con : Nat → Option (List V)} {σ : Hp} {n : Nat} {ρ : Rho} {ss : List S}
theorem castMod (a b : Nat) : (a : Int) % (b : Int) = ((a % b : Nat) : Int) := by simp
theorem castDiv (a b : Nat) : (a : Int) / (b : Int) = ((a / b : Nat) : Int) := by simp
theorem castMul (a b : Nat) : (a : Int) * (b : Int) = ((a * b : Nat) : Int) := by simp
theorem castAdd (a b : Nat) : (a : Int) + (b : Int) = ((a + b : Nat) : Int) := by simp
theorem castPow (a b : Nat) : (a : Int) ^ ((b : Int).toNat) = ((a ^ b : Nat) : Int) := by simp
section
variable {e e' : E} {i j : Nat} (h : PV con n e ρ σ (.int i)) (h' : PV con n e' ρ σ (.int j))
include h h'
theorem PV.fdivN (hj : 0 < j) (hj' : j < 1073741824) : PV con n (.bin .fdiv e e') ρ σ (.int ((i / j : Nat) : Int)) := by
  rw [← castDiv]; exact PV.fdiv h h' (by lia) (by lia)
theorem PV.modN (hj : 0 < j) : PV con n (.bin .mod e e') ρ σ (.int ((i % j : Nat) : Int)) := by
  rw [← castMod]; exact PV.mod h h' (by lia)
theorem PV.addN : PV con n (.bin .add e e') ρ σ (.int ((i + j : Nat) : Int)) := by
  rw [← castAdd]; exact PV.add h h'
theorem PV.mulN (hi : i < 2 ^ 64) (hj : j < 2 ^ 64) : PV con n (.bin .mul e e') ρ σ (.int ((i * j : Nat) : Int)) := by
  rw [← castMul]; exact PV.mul h h' (by lia) (by lia)
theorem PV.powN (hi : i < 2 ^ 64) (hj : j ≤ 100) : PV con n (.bin .pow e e') ρ σ (.int ((i ^ j : Nat) : Int)) := by
  rw [← castPow]; exact PV.pow h h' (by lia) (by lia) (by lia)
end
theorem PV.nat {i : Nat} : PV con n (.int i) ρ σ (.int i) := PV.int
/-- _law_draw -/
theorem c_840 {x : Nat} {l : List Int} {i : Nat} {Q : K1} (hx : σ x = some (.lst (l.map .int))) (hl : 0 < l.length) (h64 : l.length ≤ 64) (hb : ∀ v ∈ l, 0 ≤ v ∧ v < 999983) (hi : i ≤ 100) (h : ∀ v : Nat, v < 1200000 → Q (.int v) σ) : callN (progT con) progP (n + 1) 840 [.ref x, .int i] σ Q := by
  refine call_intro (d := ⟨2, 3, b_840, []⟩) rfl (Nat.le_refl 2) (Nat.le_refl 2) ?_
  have hm : i % l.length < l.length := Nat.mod_lt _ hl
  have hv := hb _ (List.getElem_mem hm)
  generalize hw : l[i % l.length] = w at hv
  have hw' : (l.map V.int)[i % l.length]? = some (.int w) := by rw [List.getElem?_map, List.getElem?_eq_getElem hm, hw]; rfl
  obtain ⟨k, rfl⟩ : ∃ k : Nat, w = k := ⟨w.toNat, by lia⟩
  have hq : i / l.length ≤ i := Nat.div_le_self _ _
  have v0 : PV con n (.var 0) [some (.ref x), some (.int i), none] σ (.ref x) := PV.var rfl
  have v1 : PV con n (.var 1) [some (.ref x), some (.int i), none] σ (.int i) := PV.var rfl
  have ln : PV con n (.bi .len [.var 0]) [some (.ref x), some (.int i), none] σ (.int l.length) := by
    have := PV.lenL v0 hx (by simp; unfold lim; lia)
    rwa [List.length_map] at this
  have p1 := PV.idxL v0 hx (PV.modN v1 ln hl) (by simp; unfold lim; lia) hw'
  have p2 := PV.mulN (PV.nat (i := 1009) (con := con) (n := n) (ρ := [some (.ref x), some (.int i), none]) (σ := σ)) (PV.fdivN v1 ln hl (by lia)) (by decide) (by lia)
  exact retA (PV.addN p1 p2).a (Sub.refl _) (h _ (by lia))
/-! ## great, octs, said -/
noncomputable def G (y : Nat) : Nat := match y % 6 with
  | 0 => 1 | 1 => 127 | 2 => 128 | 3 => 16384 | 4 => 4294967296 | _ => 72057594037927935
theorem G_le (y : Nat) : G y ≤ 72057594037927935 := by unfold G; split <;> decide
theorem c_847 {y : Nat} {Q : K1} (h : Q (.int (G y)) σ) : callN (progT con) progP (n + 1) 847 [.int y] σ Q := by
  refine call_intro (d := ⟨1, 2, b_847, []⟩) rfl (Nat.le_refl 1) (Nat.le_refl 1) ?_
  have v0 : PV con n (.var 0) [some (.int y), none] σ (.int y) := PV.var rfl
  refine retA (PV.a (PV.idxT (vs := [.int 1, .int 127, .int 128, .int 16384, .int 4294967296, .int 72057594037927935]) (PV.tup ⟨PV.int, PV.int, PV.int, PV.int, PV.int, PV.int, rfl⟩ (by decide)) (PV.modN v0 (PV.nat (i := 6)) (by decide)) (by decide) (v := .int (G y)) ?_)) (Sub.refl _) h
  have : y % 6 = 0 ∨ y % 6 = 1 ∨ y % 6 = 2 ∨ y % 6 = 3 ∨ y % 6 = 4 ∨ y % 6 = 5 := by lia
  rcases this with h | h | h | h | h | h <;> simp [G, h]
noncomputable def sz (k : Nat) : Nat := match k with
  | 0 => 1 | 1 => 2 | 2 => 3 | 3 => 127 | 4 => 128 | _ => 130
noncomputable def O (y : Nat) : List Nat := (repL 44 [y % 256, 0, 255]).take (sz (y / 256 % 6))
theorem sz_le (k : Nat) : 1 ≤ sz k ∧ sz k ≤ 130 := by unfold sz; split <;> decide
theorem O_len (y : Nat) : (O y).length = sz (y / 256 % 6) := by
  have := sz_le (y / 256 % 6)
  simp [O, repL]; lia
theorem O_le (y : Nat) : (O y).length ≤ 130 := by rw [O_len]; exact (sz_le _).2
theorem O_pos (y : Nat) : 0 < (O y).length := by rw [O_len]; exact (sz_le _).1
theorem c_854 {y : Nat} {Q : K1} (h : Q (.bytes (O y)) σ) : callN (progT con) progP (n + 1) 854 [.int y] σ Q := by
  refine call_intro (d := ⟨1, 2, b_854, []⟩) rfl (Nat.le_refl 1) (Nat.le_refl 1) ?_
  have v0 : PV con n (.var 0) [some (.int y), none] σ (.int y) := PV.var rfl
  have pl := PL.list (vs := [.int ((y % 256 : Nat) : Int), .int 0, .int 255]) (es := [.bin .mod (.var 0) (.int 256), .int 0, .int 255]) ⟨PV.modN v0 (PV.nat (i := 256)) (by decide), PV.int, PV.int, rfl⟩ (by simp [lim])
  have pi := PV.idxT (vs := [.int 1, .int 2, .int 3, .int 127, .int 128, .int 130]) (PV.tup (es := [.int 1, .int 2, .int 3, .int 127, .int 128, .int 130]) ⟨PV.int, PV.int, PV.int, PV.int, PV.int, PV.int, rfl⟩ (by decide)) (PV.modN (PV.fdivN v0 (PV.nat (i := 256)) (by decide) (by decide)) (PV.nat (i := 6)) (by decide)) (by decide) (v := .int (sz (y / 256 % 6))) (by
    have : y / 256 % 6 = 0 ∨ y / 256 % 6 = 1 ∨ y / 256 % 6 = 2 ∨ y / 256 % 6 = 3 ∨ y / 256 % 6 = 4 ∨ y / 256 % 6 = 5 := by lia
    rcases this with h | h | h | h | h | h <;> simp [sz, h])
  have pa : PA con n (.slc (.bin .mul (.bi .bytes [.list [.bin .mod (.var 0) (.int 256), .int 0, .int 255]]) (.int 44)) .none (.idx (.tup [.int 1, .int 2, .int 3, .int 127, .int 128, .int 130]) (.bin .mod (.bin .fdiv (.var 0) (.int 256)) (.int 6)))) [some (.int y), none] σ (.bytes (O y)) := fun τ s Q hq => by
    refine u_slc (u_bin (u_bi (ul_cons (pl τ s _ fun r υ h1 h2 h3 => ul_nil ?_))))
    show biP .bytes [.ref r] υ _
    rw [L23, h3]
    refine ⟨by simp [lim], [((y % 256 : Nat) : Int), 0, 255], [y % 256, 0, 255], rfl, bytesOfInts_nat [y % 256, 0, 255] (by intro x hx; simp at hx; lia), ?_⟩
    refine u_int ?_
    show binP .mul (.bytes _) (.int 44) υ _
    rw [L4]
    refine ⟨rfl, by simp, by decide, by decide, by simp [lim], ?_⟩
    refine u_none ?_
    refine pi υ (s.trans h2) _ ?_
    rw [L16]
    have := sz_le (y / 256 % 6)
    refine ⟨by simp [repL, lim], 0, sz (y / 256 % 6), rfl, ?_, ?_⟩
    · have h60 : ((sz (y / 256 % 6) : Nat) : Int) < 1152921504606846976 := by lia
      simp [bnd, h60]
    · exact hq υ h2
  exact retA pa (Sub.refl _) h
noncomputable def said {α : Type} (d : Nat) (a b c : α) : α := match d with
  | 0 => a | 1 => b | _ => c
theorem said_ix {d : Nat} (hd : d < 3) (a b c : V) : [a, b, c][d]? = some (said d a b c) := by
  have : d = 0 ∨ d = 1 ∨ d = 2 := by lia
  rcases this with rfl | rfl | rfl <;> rfl
theorem said_map {α β : Type} (f : α → β) (d : Nat) (a b c : α) : f (said d a b c) = said d (f a) (f b) (f c) := by unfold said; split <;> rfl
theorem c_861 {d : Nat} {a b : V} {Q : K1} (hd : d < 3) (h : Q (said d .none a b) σ) : callN (progT con) progP (n + 1) 861 [.int d, a, b] σ Q := by
  refine call_intro (d := ⟨3, 4, b_861, []⟩) rfl (Nat.le_refl 3) (Nat.le_refl 3) ?_
  exact retA (PV.a (PV.idxT (vs := [.none, a, b]) (PV.tup ⟨PV.none, PV.var rfl, PV.var rfl, rfl⟩ (Nat.le_of_ble_eq_true rfl)) (PV.var rfl) (Nat.le_of_ble_eq_true rfl) (said_ix hd ..))) (Sub.refl _) h
/-! ## var, text, maybe -/
theorem c_868 : ∀ (k x : Nat) {σ : Hp} {Q : K1}, (vb x).length ≤ k + 1 → k ≤ 100 → (∀ r, σ r = none → Q (.ref r) (upd σ r (.lst (natsV (vb x))))) → callN (progT con) progP (n + k + 1) 868 [.int x] σ Q := by
  intro k
  induction k with
  | zero =>
    intro x σ Q hl _ h
    refine call_intro (d := ⟨1, 2, b_868, []⟩) rfl (Nat.le_refl 1) (Nat.le_refl 1) ?_
    have hx : x < 128 := by
      apply Classical.byContradiction
      intro hn
      rw [vb_big hn] at hl
      have := vb_pos (x / 128)
      rw [List.length_cons] at hl
      lia
    have h1 : (x : Int) < 128 := by lia
    rw [vb_small hx] at h
    refine sIte true (TB.lt (EV.var rfl) EV.int (decide_eq_true h1)) ?_
    refine seq_step fun R hR => ?_
    exact us_ret (u_list (ul_cons (u_var ⟨_, rfl, ul_nil ⟨Nat.le_of_ble_eq_true rfl, fun r hr => ⟨_, Sub.refl _, h r hr⟩⟩⟩)))
  | succ k ih =>
    intro x σ Q hl hk h
    refine call_intro (d := ⟨1, 2, b_868, []⟩) rfl (Nat.le_refl 1) (Nat.le_refl 1) ?_
    by_cases hx : x < 128
    · have h1 : (x : Int) < 128 := by lia
      rw [vb_small hx] at h
      refine sIte true (TB.lt (EV.var rfl) EV.int (decide_eq_true h1)) ?_
      refine seq_step fun R hR => ?_
      exact us_ret (u_list (ul_cons (u_var ⟨_, rfl, ul_nil ⟨Nat.le_of_ble_eq_true rfl, fun r hr => ⟨_, Sub.refl _, h r hr⟩⟩⟩)))
    · have h1 : ¬ (x : Int) < 128 := by lia
      rw [vb_big hx] at h hl
      simp at hl
      refine sIte false (TB.lt (EV.var rfl) EV.int (decide_eq_false h1)) ?_
      refine seq_step fun R hR => ?_
      have v0 : PV con (n + (k + 1)) (.var 0) [some (.int x), none] σ (.int x) := PV.var rfl
      have pl := PL.list (vs := [.int ((x % 128 + 128 : Nat) : Int)]) (es := [.bin .add (.bin .mod (.var 0) (.int 128)) (.int 128)]) ⟨PV.addN (PV.modN v0 (PV.nat (i := 128)) (by decide)) (PV.nat (i := 128)), rfl⟩ (Nat.le_of_ble_eq_true rfl)
      have pr : PR con (n + (k + 1)) (.call 868 [.bin .fdiv (.var 0) (.int 128)]) [some (.int x), none] σ (natsV (vb (x / 128))) := fun τ s Q hq => by
        refine u_call (ul_cons ?_)
        refine PV.fdivN v0 (PV.nat (i := 128)) (by decide) (by decide) τ s _ ?_
        refine ul_nil ?_
        exact ih (x / 128) hl (by lia) fun r hr => hq r _ (Sub.put (Sub.refl _) hr) (upd_at ..)
      have hfin := PL.add pl.r pr (by rw [natsV_len]; unfold lim; simp; lia)
      refine us_ret ?_
      refine hfin σ (Sub.refl _) _ fun r υ hr t g => ?_
      exact ⟨upd σ r (.lst (natsV ((x % 128 + 128) :: vb (x / 128)))), Sub.both t g, h r hr⟩
theorem PL.vr {e : E} {x : Nat} (h : PV con (n + 10) e ρ σ (.int x)) (hx : x < 2 ^ 64) : PL con (n + 10) (.call 868 [e]) ρ σ (natsV (vb x)) := fun τ s Q hq => by
  refine u_call (ul_cons ?_)
  refine h τ s _ ?_
  refine ul_nil ?_
  exact c_868 9 x (vb_len10 hx) (by decide) fun r hr => hq r _ hr (Sub.put (Sub.refl _) hr) (upd_at ..)
theorem c_875 {b : List Nat} {Q : K1} (hb : b.length ≤ 100000) (h : ∀ r, σ r = none → Q (.ref r) (upd σ r (.lst (natsV (vb b.length ++ b))))) : callN (progT con) progP (n + 11) 875 [.bytes b] σ Q := by
  refine call_intro (d := ⟨1, 2, b_875, []⟩) rfl (Nat.le_refl 1) (Nat.le_refl 1) ?_
  have v0 : PV con (n + 10) (.var 0) [some (.bytes b), none] σ (.bytes b) := PV.var rfl
  have l1 := vb_len10 (n := b.length) (by lia)
  have hl : b.length ≤ lim := by unfold lim; lia
  have p := PL.add (PL.vr (PV.lenB v0 hl) (by lia)).r (PL.listB v0 hl).r (by rw [natsV_len, natsV_len]; unfold lim; lia)
  refine seq_step fun R hR => ?_
  refine us_ret ?_
  refine p σ (Sub.refl _) _ fun r υ hr t g => ?_
  rw [← natsV_app] at g
  exact ⟨upd σ r (.lst (natsV (vb b.length ++ b))), Sub.both t g, h r hr⟩
theorem PL.text {e : E} {b : List Nat} (h : PV con (n + 11) e ρ σ (.bytes b)) (hb : b.length ≤ 100000) : PL con (n + 11) (.call 875 [e]) ρ σ (natsV (vb b.length ++ b)) := fun τ s Q hq => by
  refine u_call (ul_cons ?_)
  refine h τ s _ ?_
  refine ul_nil ?_
  exact c_875 hb fun r hr => hq r _ hr (Sub.put (Sub.refl _) hr) (upd_at ..)
end Mine
end
section
set_option tactic.hygienic false
set_option backward.match.sparseCases false
set_option maxRecDepth 10000
set_option linter.all false
namespace Mine
variable {con : Nat → Option (List V)} {σ : Hp} {n : Nat} {ρ : Rho} {ss : List S}
/-- _law_maybe -/
theorem c_882 {x : Option (List Nat)} {Q : K1} (hb : optLen x ≤ 100000) (h : ∀ r, σ r = none → Q (.ref r) (upd σ r (.lst (natsV (optB x))))) : callN (progT con) progP (n + 12) 882 [optV x] σ Q := by
  refine call_intro (d := ⟨1, 2, b_882, []⟩) rfl (Nat.le_refl 1) (Nat.le_refl 1) ?_
  induction x using Option.casesOn with
  | none =>
    refine sIte true (TB.is (EV.var rfl) rfl) ?_
    refine seq_step fun R hR => ?_
    exact ⟨Nat.le_of_ble_eq_true rfl, fun r hr => ⟨_, Sub.refl _, h r hr⟩⟩
  | some b =>
    have hb : b.length ≤ 100000 := hb
    refine sIte false (TB.is (EV.var rfl) rfl) ?_
    have l1 := vb_len10 (n := b.length) (by lia)
    have v0 : PV con (n + 11) (.var 0) [some (.bytes b), none] σ (.bytes b) := PV.var rfl
    have p := PL.add (PL.list (es := [.int 1]) (vs := natsV [1]) (con := con) (n := n + 11) (ρ := [some (.bytes b), none]) (σ := σ) ⟨PV.int, rfl⟩ (Nat.le_of_ble_eq_true rfl)).r (PL.text v0 hb).r (by rw [natsV_len, natsV_len]; unfold lim; simp; lia)
    refine seq_step fun R hR => ?_
    refine p σ (Sub.refl _) _ fun r υ hr t g => ?_
    rw [← natsV_app] at g
    exact ⟨upd σ r (.lst (natsV (optB (some b)))), Sub.both t g, h r hr⟩
theorem PL.maybe {e : E} {x : Option (List Nat)} (h : PV con (n + 12) e ρ σ (optV x)) (hb : optLen x ≤ 100000) : PL con (n + 12) (.call 882 [e]) ρ σ (natsV (optB x)) := fun τ s Q hq => by
  refine h τ s _ ?_
  exact c_882 hb fun r hr => hq r _ hr (Sub.put (Sub.refl _) hr) (upd_at ..)
theorem PV.great {e : E} {y : Nat} (h : PV con (n + 1) e ρ σ (.int y)) : PV con (n + 1) (.call 847 [e]) ρ σ (.int (G y)) := fun τ s Q hq => by
  refine h τ s _ ?_
  exact c_847 hq
theorem PV.octs {e : E} {y : Nat} (h : PV con (n + 1) e ρ σ (.int y)) : PV con (n + 1) (.call 854 [e]) ρ σ (.bytes (O y)) := fun τ s Q hq => by
  refine h τ s _ ?_
  exact c_854 hq
theorem PVs.call {es : List E} {vs : List V} {f : Nat} {v : V} (h : PVs con n es ρ σ vs) (g : ∀ τ, Sub σ τ → ∀ Q : K1, Q v τ → callN (progT con) progP n f vs τ Q) : PV con n (.call f es) ρ σ v := fun τ s Q hq => by
  exact h.run τ s _ (g τ s _ hq)
theorem PV.said {e0 e1 e2 : E} {d : Nat} {a b : V} (h0 : PV con (n + 1) e0 ρ σ (.int d)) (hd : d < 3) (h1 : PV con (n + 1) e1 ρ σ a) (h2 : PV con (n + 1) e2 ρ σ b) : PV con (n + 1) (.call 861 [e0, e1, e2]) ρ σ (said d .none a b) :=
  PVs.call (vs := [.int d, a, b]) ⟨h0, h1, h2, rfl⟩ fun τ _ Q hq => c_861 hd hq
/-- a thing made -/
noncomputable def PO (con : Nat → Option (List V)) (n : Nat) (e : E) (ρ : Rho) (σ : Hp) (P : Nat → Hp → Prop) : Prop := ∀ τ, Sub σ τ → ∀ Q : K1, (∀ r υ, Sub τ υ → P r υ → Q (.ref r) υ) → wpE (progT con) (callN (progT con) progP n) e ρ τ Q
theorem PO.meth {e : E} {P : Nat → Hp → Prop} {m : Nat} {v : V} (h : PO con n e ρ σ P) (g : ∀ r υ, P r υ → ∃ cl fs f, υ r = some (.inst cl fs) ∧ (progT con).meth cl m = some f ∧ getF m fs = none ∧ ∀ Q : K1, Q v υ → callN (progT con) progP n f [.ref r] υ Q) : PA con n (.meth e m []) ρ σ v := fun τ s Q hq => by
  refine h τ s _ fun r υ t p => ?_
  obtain ⟨cl, fs, f, h1, h2, h3, h4⟩ := g r υ p
  have m1 : methK (progT con) m υ (.ref r) = some (f + 3) := by rw [L31, h1]; simp [h2, h3]
  refine ⟨_, m1, m1, ?_⟩
  rw [L32, h1]
  simp only [h2]
  exact ⟨by rw [h3]; rfl, h4 _ (hq υ t)⟩
theorem PV.meth {e : E} {m r cl f : Nat} {fs : List (Nat × V)} {v : V} (h : PV con n e ρ σ (.ref r)) (h1 : σ r = some (.inst cl fs)) (h2 : (progT con).meth cl m = some f) (h3 : getF m fs = Option.none) (g : ∀ τ, Sub σ τ → ∀ Q : K1, Q v τ → callN (progT con) progP n f [.ref r] τ Q) : PV con n (.meth e m []) ρ σ v := fun τ s Q hq => by
  refine h τ s _ ?_
  have h1' := s _ _ h1
  have m1 : methK (progT con) m τ (.ref r) = some (f + 3) := by rw [L31, h1']; simp [h2, h3]
  refine ⟨_, m1, m1, ?_⟩
  rw [L32, h1']
  simp only [h2]
  exact ⟨by rw [h3]; rfl, g τ s _ hq⟩
/-- the draws -/
noncomputable def D (d : List Nat) (i : Nat) : Nat := d.getD i 0
theorem nats_get {d : List Nat} {i : Nat} (h : i < d.length) : (natsV d)[i]? = some (.int (D d i)) := by
  simp [natsV, D, List.getD, h]
theorem PV.d {e : E} {x i : Nat} {d : List Nat} {k : Nat} (hk : ρ.get k = some (.ref x)) (hx : σ x = some (.lst (natsV d))) (he : PV con n e ρ σ (.int i)) (hi : i < d.length) (hl : d.length ≤ 1000) : PV con n (.idx (.var k) e) ρ σ (.int (D d i)) :=
  PV.idxL (PV.var hk) hx he (by rw [natsV_len]; unfold lim; lia) (nats_get hi)
theorem repL_len {α : Type} (k : Nat) (l : List α) : (repL k l).length = k * l.length := by simp [repL]
theorem optV_said (d : Nat) (a b c : Option (List Nat)) : optV (said d a b c) = said d (optV a) (optV b) (optV c) := said_map optV d a b c
theorem numV_said (d : Nat) (a b c : Option Nat) : numV (said d a b c) = said d (numV a) (numV b) (numV c) := said_map numV d a b c
theorem opt_pure (x : Option (List Nat)) : pureV 7 (optV x) = true := by induction x using Option.casesOn <;> rfl
theorem num_pure (x : Option Nat) : pureV 7 (numV x) = true := by induction x using Option.casesOn <;> rfl
end Mine
end
section
set_option tactic.hygienic false
set_option backward.match.sparseCases false
set_option maxRecDepth 10000
set_option linter.all false
namespace Mine
variable {con : Nat → Option (List V)} {σ : Hp} {n : Nat} {ρ : Rho} {ss : List S}
theorem PV.y {y k : Nat} (h : ρ.get 1 = some (.int y)) (hk : 0 < k) (hk' : k < 1000000) : PV con n (.bin .fdiv (.var 1) (.int k)) ρ σ (.int ((y / k : Nat) : Int)) := PV.fdivN (PV.var h) PV.nat hk (by lia)
theorem mulG {a k y : Nat} (h : a < 2) : a * G y ≤ 72057594037927935 := by
  have := Nat.mul_le_mul (show a ≤ 1 by lia) (G_le y)
  lia
theorem PV.dG {e e' : E} {a y : Nat} (h : PV con (n + 1) e ρ σ (.int a)) (ha : a < 2) (h' : PV con (n + 1) e' ρ σ (.int y)) : PV con (n + 1) (.bin .mul e (.call 847 [e'])) ρ σ (.int ((a * G y : Nat) : Int)) :=
  PV.mulN h (PV.great h') (by lia) (by have := G_le y; lia)
theorem PV.dO {e e' : E} {a y : Nat} (h : PV con (n + 1) e ρ σ (.int a)) (ha : a < 2) (h' : PV con (n + 1) e' ρ σ (.int y)) : PV con (n + 1) (.bin .mul (.call 854 [e']) e) ρ σ (.bytes (repL a (O y))) :=
  PV.mulB (PV.octs h') h (by have := O_pos y; intro e; rw [e] at this; simp at this) (by lia) (by
    have := Nat.mul_le_mul (O_le y) (show a ≤ 1 by lia)
    unfold lim; lia)
theorem repO_le {a y : Nat} (ha : a < 2) : (repL a (O y)).length ≤ 130 := by
  rw [repL_len]
  have := Nat.mul_le_mul (show a ≤ 1 by lia) (O_le y)
  lia
theorem saidO_le {d y : Nat} : optLen (said d none (some []) (some (O y))) ≤ 130 := by
  unfold said
  split
  · simp [optLen]
  · simp [optLen]
  · exact O_le y
/-- the command -/
noncomputable def cmdOf (d : List Nat) (y : Nat) : Cmd := ⟨y % 7, D d 0 * G y, D d 1 * G (y / 6), repL (D d 2) (O (y / 2)), repL (D d 3) (O (y / 3)), said (D d 4) none (some []) (some (O (y / 5)))⟩
structure DOrd (d : List Nat) : Prop where
  len : d.length = 9
  d0 : D d 0 < 2
  d1 : D d 1 < 2
  d2 : D d 2 < 2
  d3 : D d 3 < 2
  d4 : D d 4 < 3
  d5 : D d 5 < 3
  d6 : D d 6 < 2
  d7 : D d 7 < 2
  d8 : D d 8 < 2
theorem cmdOk {d : List Nat} {y : Nat} (h : DOrd d) : (cmdOf d y).ok := by
  refine ⟨?_, ?_, ?_, ?_, ?_, ?_⟩
  · show y % 7 ≤ 6
    lia
  · have := mulG (k := 0) (y := y) h.d0
    show D d 0 * G y < 2 ^ 64
    lia
  · have := mulG (k := 0) (y := y / 6) h.d1
    show D d 1 * G (y / 6) < 2 ^ 64
    lia
  · have := repO_le (y := y / 2) h.d2
    show (repL (D d 2) (O (y / 2))).length ≤ 10000
    lia
  · have := repO_le (y := y / 3) h.d3
    show (repL (D d 3) (O (y / 3))).length ≤ 10000
    lia
  · have := saidO_le (d := D d 4) (y := y / 5)
    show optLen (said (D d 4) none (some []) (some (O (y / 5)))) ≤ 10000
    lia
theorem PO.call {es : List E} {vs : List V} {f : Nat} {P : Nat → Hp → Prop} (h : PVs con n es ρ σ vs) (g : ∀ τ, Sub σ τ → ∀ Q : K1, (∀ r υ, Sub τ υ → P r υ → Q (.ref r) υ) → callN (progT con) progP n f vs τ Q) : PO con n (.call f es) ρ σ P := fun τ s Q hq => by
  exact h.run τ s _ (g τ s _ hq)
/-- x = C(..) -/
theorem asgNew {k cl : Nat} {es : List E} {vs : List V} {Q : K2} {P : Nat → Hp → Prop} (h : PVs con n es ρ σ vs) (hn : ∀ Q : K1, (∀ r τ, σ r = none → Sub σ τ → P r τ → Q (.ref r) τ) → newP (progT con) (callN (progT con) progP n) cl vs σ Q)
    (g : ∀ r τ, σ r = none → Sub σ τ → P r τ → wpSs (progT con) (callN (progT con) progP n) ss (ρ.set k (some (.ref r))) τ Q) : wpSs (progT con) (callN (progT con) progP n) (.asg k (.new cl es) :: ss) ρ σ Q := by
  refine seq_step fun R hR => ?_
  refine h.run σ (Sub.refl _) _ (hn _ fun r τ h1 h2 h3 => ?_)
  simp only
  rw [hR]; exact g r τ h1 h2 h3
theorem cmd_pure (c : Cmd) : pureV 8 (.tup c.row) = true := by
  simp [pureV, Cmd.row, opt_pure]
end Mine
end
section
set_option tactic.hygienic false
set_option backward.match.sparseCases false
set_option maxRecDepth 10000
set_option linter.all false
namespace Mine
variable {con : Nat → Option (List V)} {σ : Hp} {n : Nat} {ρ : Rho} {ss : List S}
theorem PV.i0 {k r i : Nat} {l : List Nat} {v : Nat} (hk : ρ.get k = some (.ref r)) (hr : σ r = some (.lst (natsV l))) (hv : l[i]? = some v) (hl : l.length ≤ 1000) : PV con n (.idx (.var k) (.int i)) ρ σ (.int v) :=
  PV.idxL (PV.var hk) hr PV.nat (by rw [natsV_len]; unfold lim; lia) (by simp [natsV, hv])
theorem PL.one {e : E} {a : Nat} (h : PV con n e ρ σ (.int a)) : PL con n (.list [e]) ρ σ (natsV [a]) := PL.list (vs := [.int a]) ⟨h, rfl⟩ (Nat.le_of_ble_eq_true rfl)
theorem addN {e e' : E} {xs ys : List Nat} (h : PR con n e ρ σ (natsV xs)) (h' : PR con n e' ρ σ (natsV ys)) (hl : xs.length + ys.length ≤ 900000) : PL con n (.bin .add e e') ρ σ (natsV (xs ++ ys)) := by
  rw [natsV_app]
  exact PL.add h h' (by rw [natsV_len, natsV_len]; unfold lim; lia)
/-- _law_order -/
theorem c_899 {x y : Nat} {d : List Nat} {Q : K1} (hx : σ x = some (.lst (natsV d))) (ok : DOrd d) (h : Q (.bool true) σ) : callN (progT con) progP (n + 31) 899 [.ref x, .int y] σ Q := by
  refine call_intro (d := ⟨2, 15, b_899, []⟩) rfl (Nat.le_refl 2) (Nat.le_refl 2) ?_
  show wpSs _ _ b_899 [some (.ref x), some (.int y), none, none, none, none, none, none, none, none, none, none, none, none, none] _ _
  have dg : ∀ {ρ : Rho} {τ : Hp} (i : Nat), Sub σ τ → ρ.get 0 = some (.ref x) → i < 9 → PV con (n + 30) (.idx (.var 0) (.int i)) ρ τ (.int (D d i)) := fun i s h hi => PV.d h (s _ _ hx) PV.nat (by rw [ok.len]; exact hi) (by rw [ok.len]; decide)
  have cok := cmdOk (y := y) ok
  have l2 := vb_len10 cok.client
  have l3 := vb_len10 cok.number
  have l4 := cok.key
  have l5 := cok.value
  have l6 := optB_len (x := (cmdOf d y).expect) (by have := cok.expect; lia)
  have l7 := cok.expect
  have l8 := vb_len5 (n := (cmdOf d y).key.length) (by lia)
  have l9 := vb_len5 (n := (cmdOf d y).value.length) (by lia)
  -- head
  refine asgL (vs := natsV [y % 7, D d 0 * G y, D d 1 * G (y / 6)]) (PL.list ⟨PV.modN (PV.var rfl) (PV.nat (i := 7)) (by decide), PV.dG (dg 0 (Sub.refl _) rfl (by decide)) ok.d0 (PV.var rfl), PV.dG (dg 1 (Sub.refl _) rfl (by decide)) ok.d1 (PV.y rfl (by decide) (by decide)), rfl⟩ (Nat.le_of_ble_eq_true rfl)) fun h2 τ _ s1 e2 => ?_
  simp only [List.set_cons_succ, List.set_cons_zero]
  refine asgV (v := .bytes (cmdOf d y).key) (PV.dO (dg 2 s1 rfl (by decide)) ok.d2 (PV.y rfl (by decide) (by decide))) ?_
  simp only [List.set_cons_succ, List.set_cons_zero]
  refine asgV (v := .bytes (cmdOf d y).value) (PV.dO (dg 3 s1 rfl (by decide)) ok.d3 (PV.y rfl (by decide) (by decide))) ?_
  simp only [List.set_cons_succ, List.set_cons_zero]
  refine asgV (v := optV (cmdOf d y).expect) (by
    have := PV.said (dg (ρ := [some (.ref x), some (.int y), some (.ref h2), some (.bytes (cmdOf d y).key), some (.bytes (cmdOf d y).value), none, none, none, none, none, none, none, none, none, none]) 4 s1 rfl (by decide)) ok.d4 (PV.bytes (i := [])) (PV.octs (n := n + 29) (PV.y (k := 5) rfl (by decide) (by decide)))
    rw [show optV (cmdOf d y).expect = _ from optV_said ..]
    exact this) ?_
  simp only [List.set_cons_succ, List.set_cons_zero]
  have i0 : ∀ {ρ : Rho} {τ' : Hp}, Sub τ τ' → ρ.get 2 = some (.ref h2) → PV con (n + 30) (.idx (.var 2) (.int 0)) ρ τ' (.int (cmdOf d y).kind) := fun s hr => PV.i0 (i := 0) hr (s _ _ e2) rfl (by simp)
  have i1 : ∀ {ρ : Rho} {τ' : Hp}, Sub τ τ' → ρ.get 2 = some (.ref h2) → PV con (n + 30) (.idx (.var 2) (.int 1)) ρ τ' (.int (cmdOf d y).client) := fun s hr => PV.i0 (i := 1) hr (s _ _ e2) rfl (by simp)
  have i2 : ∀ {ρ : Rho} {τ' : Hp}, Sub τ τ' → ρ.get 2 = some (.ref h2) → PV con (n + 30) (.idx (.var 2) (.int 2)) ρ τ' (.int (cmdOf d y).number) := fun s hr => PV.i0 (i := 2) hr (s _ _ e2) rfl (by simp)
  have hk := cok.kind
  generalize hc : cmdOf d y = c at *
  have l1 := vb_len10 (n := c.kind) (by lia)
  refine asgNew (vs := c.row) (P := fun r τ => τ r = some (.inst 537 c.fs)) ⟨i0 (Sub.refl _) rfl, i1 (Sub.refl _) rfl, i2 (Sub.refl _) rfl, PV.var rfl, PV.var rfl, PV.var rfl, rfl⟩ (fun Q g => c_520 c fun r hr => g r _ hr (Sub.put (Sub.refl _) hr) (upd_at ..)) fun h6 τ2 _ s2 e6 => ?_
  simp only [List.set_cons_succ, List.set_cons_zero]
  refine asgL (addN (addN (PL.vr (n := n + 20) (i0 s2 rfl) (by lia)).r (PL.vr (n := n + 20) (i1 s2 rfl) cok.client).r (by lia)).r (PL.vr (n := n + 20) (i2 s2 rfl) cok.number).r (by simp; lia)) fun h7 τ3 _ s3 e7 => ?_
  simp only [List.set_cons_succ, List.set_cons_zero]
  refine asgL (addN (addN (addN (PR.var rfl e7) (PL.text (n := n + 19) (b := c.key) (PV.var rfl) (by lia)).r (by simp; lia)).r (PL.text (n := n + 19) (b := c.value) (PV.var rfl) (by lia)).r (by simp; lia)).r (PL.maybe (n := n + 18) (x := c.expect) (PV.var rfl) (by lia)).r (by simp; lia)) fun h7' τ4 _ s4 e7' => ?_
  simp only [List.set_cons_succ, List.set_cons_zero]
  have eo : vb c.kind ++ vb c.client ++ vb c.number ++ (vb c.key.length ++ c.key) ++ (vb c.value.length ++ c.value) ++ optB c.expect = c.octets := by simp [Cmd.octets]
  rw [eo] at e7'
  have lo : c.octets.length ≤ 100000 := by simp [Cmd.octets]; lia
  have e6' := s4 _ _ (s3 _ _ e6)
  have st : Sub τ τ4 := (s2.trans s3).trans s4
  refine asgV (v := .tup c.row) (PV.tup ⟨i0 st rfl, i1 st rfl, i2 st rfl, PV.var rfl, PV.var rfl, PV.var rfl, rfl⟩ (Nat.le_of_ble_eq_true rfl)) ?_
  simp only [List.set_cons_succ, List.set_cons_zero]
  refine asgV (v := .bytes c.octets) (PV.meth (PV.var rfl) e6' M_537_49 rfl fun τ s Q hq => c_534 (n := n + 25) c cok (s _ _ e6') hq) ?_
  simp only [List.set_cons_succ, List.set_cons_zero]
  refine NB.ite (NB.or3 (NB.ne (PV.a (PV.meth (PV.var rfl) e6' M_537_48 rfl fun τ s Q hq => c_527 (n := n + 29) c (s _ _ e6') hq)) (PV.a (PV.var rfl)) (cmd_pure c)) (NB.neL (PL.listB (b := c.octets) (PV.var rfl) (by unfold lim; lia)).r (PR.var rfl e7') (nats_pure _)) (NB.ne (PO.meth (P := fun r υ => υ r = some (.inst 537 c.fs)) (PO.call (vs := [.bytes c.octets]) ⟨PV.var rfl, rfl⟩ fun τ s Q g => c_562 (n := n + 24) c cok fun r hr => g r _ (Sub.put (Sub.refl _) hr) (upd_at ..)) fun r υ p => ⟨_, _, _, p, M_537_48, rfl, fun Q hq => c_527 (n := n + 29) c p hq⟩) (PV.a (PV.var rfl)) (cmd_pure c))) fun τ5 s5 => ?_
  have sd : Sub σ τ5 := (s1.trans st).trans s5
  -- the reply
  have q1 := saidO_le (d := D d 5) (y := y / 7)
  have q2 : optV (said (D d 5) none (some []) (some (O (y / 7)))) = said (D d 5) .none (.bytes []) (.bytes (O (y / 7))) := optV_said ..
  have pe := fun ρ (h0 : Rho.get ρ 0 = some (.ref x)) (h1 : Rho.get ρ 1 = some (.int y)) => PV.said (n := n + 29) (dg (ρ := ρ) 5 sd h0 (by decide)) ok.d5 (PV.bytes (i := [])) (PV.octs (n := n + 29) (PV.y (k := 7) h1 (by decide) (by decide)))
  rw [← q2] at pe
  generalize said (D d 5) none (some []) (some (O (y / 7))) = o at q1 pe
  refine asgV (v := optV o) (pe _ rfl rfl) ?_
  simp only [List.set_cons_succ, List.set_cons_zero]
  have c4 : ∀ {ρ : Rho}, ρ.get 1 = some (.int y) → PV con (n + 30) (.bin .mod (.var 1) (.int 4)) ρ τ5 (.int ((y % 4 : Nat) : Int)) := fun h => PV.modN (PV.var h) (PV.nat (i := 4)) (by decide)
  have hk4 : y % 4 ≤ 3 := by lia
  generalize y % 4 = code at c4 hk4
  have q3 := optB_len (x := o) (by lia)
  refine asgV (v := .bytes (code :: optB o)) (PVs.call (vs := [.int code, optV o]) ⟨c4 rfl, PV.var rfl, rfl⟩ fun τ s Q hq => c_569 (n := n + 25) (by lia) (by lia) hq) ?_
  simp only [List.set_cons_succ, List.set_cons_zero]
  refine NB.ite (NB.or2 (NB.neL (PL.listB (b := code :: optB o) (PV.var rfl) (by unfold lim; simp; lia)).r (addN (xs := [code]) (PL.one (c4 rfl)).r (PL.maybe (n := n + 18) (x := o) (PV.var rfl) (by lia)).r (by simp; lia)).r (nats_pure _)) (NB.ne (v := .tup [.int code, optV o]) (PV.a (PVs.call (vs := [.bytes (code :: optB o)]) ⟨PV.var rfl, rfl⟩ fun τ s Q hq => c_576 (n := n + 24) hk4 (by lia) hq)) (PV.a (PV.tup ⟨c4 rfl, PV.var rfl, rfl⟩ (Nat.le_of_ble_eq_true rfl))) (by simp [pureV, opt_pure]))) fun τ6 s6 => ?_
  have sd6 : Sub σ τ6 := sd.trans s6
  -- the session
  have q5 : D d 6 * G (y / 5) < 2 ^ 64 := by have := mulG (k := 0) (y := y / 5) ok.d6; lia
  have pl := fun ρ (h0 : Rho.get ρ 0 = some (.ref x)) (h1 : Rho.get ρ 1 = some (.int y)) => PV.dG (n := n + 29) (dg (ρ := ρ) 6 sd6 h0 (by decide)) ok.d6 (PV.y (k := 5) h1 (by decide) (by decide))
  generalize D d 6 * G (y / 5) = last at q5 pl
  refine asgV (v := .int last) (pl _ rfl rfl) ?_
  simp only [List.set_cons_succ, List.set_cons_zero]
  have q6 : (repL (D d 8) (code :: optB o)).length ≤ 1000 := by
    have := Nat.mul_le_mul (show D d 8 ≤ 1 by have := ok.d8; lia) (show (code :: optB o).length ≤ 1000 by simp; lia)
    rw [repL_len]; lia
  have pk := fun ρ (h0 : Rho.get ρ 0 = some (.ref x)) (h1 : Rho.get ρ 11 = some (.bytes (code :: optB o))) => PV.mulB (PV.var h1) (dg (ρ := ρ) 8 sd6 h0 (by decide)) (by simp) (by have := ok.d8; lia) (by
    have := Nat.mul_le_mul (show (code :: optB o).length ≤ 1000 by simp; lia) (show D d 8 ≤ 1 by have := ok.d8; lia)
    unfold lim; lia)
  generalize repL (D d 8) (code :: optB o) = kept at q6 pk
  refine asgV (v := .bytes kept) (pk _ rfl rfl) ?_
  simp only [List.set_cons_succ, List.set_cons_zero]
  have pt : ∀ {ρ : Rho} {τ : Hp}, Sub σ τ → ρ.get 0 = some (.ref x) → PV con (n + 30) (.cmp .eq (.idx (.var 0) (.int 7)) (.int 1)) ρ τ (.bool (decide ((D d 7 : Int) = 1))) := fun s h => PV.eqI (dg 7 s h (by decide)) PV.int
  have ft : [if decide ((D d 7 : Int) = 1) = true then 1 else 0] = [D d 7] := by
    have := ok.d7
    have : D d 7 = 0 ∨ D d 7 = 1 := by lia
    rcases this with e | e <;> simp [e]
  have p7 : ∀ {ρ : Rho} {τ : Hp}, Sub σ τ → ρ.get 0 = some (.ref x) → PV con (n + 30) (.idx (.var 0) (.int 7)) ρ τ (.int (D d 7)) := fun s h => dg 7 s h (by decide)
  generalize decide ((D d 7 : Int) = 1) = t at pt ft
  generalize D d 7 = d7 at p7 ft
  have l10 := vb_len10 q5
  have l11 := vb_len5 (n := kept.length) (by lia)
  refine asgV (v := .bytes (sesB last t kept)) (PVs.call (vs := [.int last, .bool t, .bytes kept]) ⟨PV.var rfl, pt sd6 rfl, PV.var rfl, rfl⟩ fun τ s Q hq => c_583 (n := n + 25) q5 (by lia) hq) ?_
  simp only [List.set_cons_succ, List.set_cons_zero]
  have es : sesB last t kept = vb last ++ [d7] ++ (vb kept.length ++ kept) := by unfold sesB; rw [ft]; simp
  refine NB.ite (NB.neL (vs := natsV (vb last ++ [d7] ++ (vb kept.length ++ kept))) (by rw [← es]; exact (PL.listB (PV.var rfl) (by rw [es]; unfold lim; simp; lia)).r) (addN (addN (PL.vr (n := n + 20) (PV.var rfl) q5).r (PL.one (p7 sd6 rfl)).r (by simp; lia)).r (PL.text (n := n + 19) (PV.var rfl) (by lia)).r (by simp; lia)).r (nats_pure _)) fun τ7 s7 => ?_
  exact retA (PA.eq (v := .tup [.int last, .bool t, .bytes kept]) (PV.a (PVs.call (vs := [.bytes (sesB last t kept)]) ⟨PV.var rfl, rfl⟩ fun τ s Q hq => c_590 (n := n + 24) q5 (by lia) hq)) (PV.a (PV.tup ⟨PV.var rfl, pt (sd6.trans s7) rfl, PV.var rfl, rfl⟩ (Nat.le_of_ble_eq_true rfl))) (by simp [pureV])) (sd6.trans s7) h
end Mine
end
section
set_option tactic.hygienic false
set_option backward.match.sparseCases false
set_option maxRecDepth 10000
set_option linter.all false
namespace Mine
variable {con : Nat → Option (List V)} {σ : Hp} {n : Nat} {ρ : Rho} {ss : List S}
theorem comp_go {T : Tab} {C : Calls} {s : V} {all : List V} {elt : V → Hp → K1 → Prop} {test : V → Hp → (Bool → Hp → Prop) → Prop} (ht : ∀ v σ Q, Q true σ → test v σ Q) (hi : itemsOf σ s = some all) {f : V → V} {Q : List V → Hp → Prop} : ∀ (vs acc : List V), (∀ v ∈ vs, ∀ Q : K1, Q (f v) σ → elt v σ Q) → acc.length + vs.length ≤ lim → Q (acc ++ vs.map f) σ → compLoop s all test elt vs acc σ Q := by
  intro vs
  induction vs with
  | nil =>
    exact fun acc _ _ h => ⟨hi, by simpa using h⟩
  | cons v vs ih =>
    intro acc he hl h
    refine ⟨hi, ht v σ _ ?_⟩
    rw [if_pos rfl]
    simp at hl
    refine he v (.head _) _ ⟨by lia, ?_⟩
    exact ih _ (fun u hu => he u (.tail _ hu)) (by simp; lia) (by simpa using h)
theorem PL.compR {elt iter : E} {x lo k : Nat} {g : Nat → V} (hi : PV con n iter ρ σ (.range lo ((lo + k : Nat) : Int))) (hk : k ≤ 1000) (h : ∀ j, j < k → PV con n elt (ρ.set x (some (.int ((lo + j : Nat) : Int)))) σ (g j)) : PL con n (.comp elt x iter []) ρ σ ((List.range k).map g) := fun τ s Q hq => by
  refine hi τ s _ ⟨(List.range k).map fun j : Nat => .int ((lo + j : Nat) : Int), ?_, by simp; unfold lim; lia, ?_⟩
  · simp only [itemsOf]
    rw [show (((lo + k : Nat) : Int) - (lo : Int)).toNat = k by lia]
    simp
  refine comp_go (T := progT con) (C := callN (progT con) progP n) (f := fun v => match v with | .int i => g (i.toNat - lo) | _ => .none) (fun v σ Q h => by exact h) ?_ _ [] (fun v hv Q hq => ?_) (by simp; unfold lim; lia) ?_
  · simp only [itemsOf]
    rw [show (((lo + k : Nat) : Int) - (lo : Int)).toNat = k by lia]
    simp
  · obtain ⟨j, hj, rfl⟩ := List.mem_map.mp hv
    have hj := List.mem_range.mp hj
    simp only at hq
    rw [show ((lo + j : Nat) : Int).toNat - lo = j by lia] at hq
    exact h j hj τ s _ hq
  · intro r hr
    refine hq r _ hr (Sub.put (Sub.refl _) hr) ?_
    rw [upd_at, List.nil_append, List.map_map]
    congr 3
    funext j
    simp only [Function.comp]
    congr 1
    lia
theorem PV.range1 {k : Nat} (hk : k < 1000) : PV con n (.bi .range [.int k]) ρ σ (.range (0 : Nat) ((0 + k : Nat) : Int)) := fun τ s Q h => by
  refine u_bi (ul_cons (u_int (ul_nil ?_)))
  rw [L25]
  refine ⟨by lia, ?_⟩
  rw [Nat.zero_add] at h
  exact h
theorem PV.range2 {lo k : Nat} (hl : lo < 1000) (hk : k < 1000) : PV con n (.bi .range [.int lo, .int ((lo + k : Nat) : Int)]) ρ σ (.range lo ((lo + k : Nat) : Int)) := fun τ s Q h => by
  refine u_bi (ul_cons (u_int (ul_cons (u_int (ul_nil ?_)))))
  rw [L26]
  exact ⟨by lia, by lia, h⟩
theorem PL.sel3 {e a b c : E} {d : Nat} {va vb vc : List V} (ha : PL con n a ρ σ va) (hb : PL con n b ρ σ vb) (hc : PL con n c ρ σ vc) (he : PV con n e ρ σ (.int d)) (hd : d < 3) : PL con n (.idx (.tup [a, b, c]) e) ρ σ (said d va vb vc) := fun τ s Q hq => by
  refine ha τ s _ fun r1 τ1 f1 s1 e1 => ?_
  refine hb τ1 (s.trans s1) _ fun r2 τ2 f2 s2 e2 => ?_
  refine hc τ2 ((s.trans s1).trans s2) _ fun r3 τ3 f3 s3 e3 => ?_
  refine ⟨Nat.le_of_ble_eq_true rfl, he τ3 (((s.trans s1).trans s2).trans s3) _ ?_⟩
  rw [L13]
  refine ⟨by lia, Nat.le_of_ble_eq_true rfl, said d (.ref r1) (.ref r2) (.ref r3), by rw [Int.toNat_natCast]; exact said_ix hd .., ?_⟩
  have t := (s1.trans s2).trans s3
  have : d = 0 ∨ d = 1 ∨ d = 2 := by lia
  rcases this with rfl | rfl | rfl
  · exact hq _ _ f1 t ((s2.trans s3) _ _ e1)
  · exact hq _ _ (s1.free f2) t (s3 _ _ e2)
  · exact hq _ _ ((s1.trans s2).free f3) t e3
/-- o.f = value -/
theorem asgF {j f r cl : Nat} {e : E} {v : V} {fs : List (Nat × V)} {Q : K2} (h : PV con n e ρ σ v) (hj : ρ.get j = some (.ref r)) (hr : σ r = some (.inst cl fs)) (hf : (progT con).fld cl f = true) (hl : fs.length ≤ 100)
    (g : wpSs (progT con) (callN (progT con) progP n) ss ρ (upd σ r (.inst cl (setF f v fs))) Q) : wpSs (progT con) (callN (progT con) progP n) (.asgA (.var j) f e :: ss) ρ σ Q := by
  refine seq_step fun R hR => ?_
  refine h σ (Sub.refl _) _ ?_
  refine ⟨_, hj, ?_⟩
  simp only [hr]
  refine ⟨hf, hl, ?_⟩
  rw [hR]; exact g
/-- o.f = C(..) -/
theorem asgFO {j f r cl : Nat} {e : E} {P : Nat → Hp → Prop} {fs : List (Nat × V)} {Q : K2} (h : PO con n e ρ σ P) (hj : ρ.get j = some (.ref r)) (hr : σ r = some (.inst cl fs)) (hf : (progT con).fld cl f = true) (hl : fs.length ≤ 100)
    (g : ∀ q τ, Sub σ τ → P q τ → wpSs (progT con) (callN (progT con) progP n) ss ρ (upd τ r (.inst cl (setF f (.ref q) fs))) Q) : wpSs (progT con) (callN (progT con) progP n) (.asgA (.var j) f e :: ss) ρ σ Q := by
  refine seq_step fun R hR => ?_
  refine h σ (Sub.refl _) _ fun q τ s p => ?_
  refine ⟨_, hj, ?_⟩
  simp only [s _ _ hr]
  refine ⟨hf, hl, ?_⟩
  rw [hR]; exact g q τ s p
theorem PO.conf {e1 e2 e3 e4 : E} {c : Conf} (ok : c.ok) (h1 : PL con (n + 2) e1 ρ σ (natsV c.voters)) (h2 : PL con (n + 2) e2 ρ σ (natsV c.learners)) (h3 : PL con (n + 2) e3 ρ σ (natsV c.outgoing)) (h4 : PL con (n + 2) e4 ρ σ (natsV c.next)) : PO con (n + 2) (.new 698 [e1, e2, e3, e4, .bool c.auto]) ρ σ (fun r υ => ConfAt υ r c) := fun τ s Q hq => by
  refine h1 τ s _ fun r1 τ1 f1 s1 g1 => ?_
  refine h2 τ1 (s.trans s1) _ fun r2 τ2 f2 s2 g2 => ?_
  have t2 := s1.trans s2
  refine h3 τ2 (s.trans t2) _ fun r3 τ3 f3 s3 g3 => ?_
  have t3 := t2.trans s3
  refine h4 τ3 (s.trans t3) _ fun r4 τ4 f4 s4 g4 => ?_
  have t4 := t3.trans s4
  refine c_681 ok ((s3.trans s4) _ _ (s2 _ _ g1)) ((s3.trans s4) _ _ g2) (s4 _ _ g3) g4 fun r υ hr su hc => ?_
  exact hq r υ (t4.trans su) hc
theorem PO.snap {e1 e2 e3 e4 : E} {w : Snp} (h1 : PV con (n + 1) e1 ρ σ (.int w.index)) (h2 : PV con (n + 1) e2 ρ σ (.int w.term)) (h3 : PO con (n + 1) e3 ρ σ (fun r υ => ConfAt υ r w.conf)) (h4 : PV con (n + 1) e4 ρ σ (.bytes w.data)) : PO con (n + 1) (.new 768 [e1, e2, e3, e4]) ρ σ (fun r υ => SnpAt υ r w) := fun τ s Q hq => by
  refine h1 τ s _ ?_
  refine h2 τ s _ ?_
  refine h3 τ s _ fun q τ1 s1 hc => ?_
  refine h4 τ1 (s.trans s1) _ ?_
  exact c_744 w hc fun r υ _ su hs => hq r υ (s1.trans su) hs
end Mine
end
section
set_option tactic.hygienic false
set_option backward.match.sparseCases false
set_option maxRecDepth 10000
set_option linter.all false
namespace Mine
variable {con : Nat → Option (List V)} {σ : Hp} {n : Nat} {ρ : Rho} {ss : List S}
theorem MsgAt.sub {σ τ : Hp} {r : Nat} {m : Msg} (h : MsgAt σ r m) (g : Sub σ τ) : MsgAt τ r m := by
  obtain ⟨L, sv, rs, h1, h2, h3, h4⟩ := h
  refine ⟨L, sv, rs, g _ _ h1, g _ _ h2, h3.mono fun x fs hx => g _ _ hx, ?_⟩
  induction hs : m.snap using Option.casesOn with
  | none => rw [hs] at h4; exact h4
  | some w =>
    rw [hs] at h4
    obtain ⟨q, e, hq⟩ := h4
    exact ⟨q, e, hq.sub g⟩
theorem ent_pure (e : Ent) : pureV 6 (.tup e.row) = true := by simp [pureV, Ent.row]
theorem msg_pure (m : Msg) : pureV 8 (.tup m.row) = true := by
  have h1 : pureV 7 (snpRow m.snap) = true := by
    induction m.snap using Option.casesOn with
    | none => rfl
    | some s =>
      have h : ∀ l : List Nat, (natsV l).all (pureV 4) = true := fun l => by simp [natsV, pureV]
      simp [pureV, snpRow, Snp.row, Conf.row, h]
  have h2 : (m.entries.map fun e => V.tup e.row).all (pureV 6) = true := by
    simp [ent_pure]
  simp [pureV, Msg.row, h1]
  intro e _
  have := ent_pure e
  simpa [pureV] using this
/-- the end of _law_word -/
theorem word_tail {Q : K1} {r x hn rw_ o : Nat} {y : Int} {σ0 : Hp} {m : Msg} {B : List Nat} {x3 x8 x9 x11 x12 x15 : Option V} (ok : m.ok) (s0 : Sub σ0 σ) (hm : MsgAt σ r m) (hn' : σ hn = some (.lst (natsV [m.kind, m.src, m.dst, m.term, m.lterm, m.index, m.commit, m.hint]))) (hw : σ rw_ = some (.lst (m.entries.map fun e => .tup e.row))) (ho : σ o = some (.lst (natsV B))) (hB : B ++ (vb m.ctx.length ++ m.ctx) = m.octets)
    (h8 : ∀ {ρ : Rho} {τ : Hp}, Sub σ τ → ρ.get 0 = some (.ref x) → PV con (n + 30) (.cmp .eq (.idx (.var 0) (.int 8)) (.int 1)) ρ τ (.bool m.rej)) (h : Q (.bool true) σ0) :
    wpSs (progT con) (callN (progT con) progP (n + 30)) (b_904.drop 17) [some (.ref x), some (.int y), some (.ref hn), x3, some (.ref rw_), some (.bytes m.ctx), some (.ref r), some (.ref o), x8, x9, some (snpRow m.snap), x11, x12, none, none, x15] σ (fun fl _ σ' => ∃ τ, Sub τ σ' ∧ Q (match fl with | .ret v => v | .next => .none) τ) := by
  have lo := Msg.len ok
  have lB : B.length + (vb m.ctx.length ++ m.ctx).length ≤ 130000 := by
    have := congrArg List.length hB
    rw [List.length_append] at this; lia
  have lc := ok.ctx
  have lf := ok.few
  refine asgL (addN (PR.var rfl ho) (PL.text (n := n + 19) (b := m.ctx) (PV.var rfl) (by lia)).r (by lia)) fun o' τ _ s1 e7 => ?_
  simp only [List.set_cons_succ, List.set_cons_zero]
  rw [hB] at e7
  have hnτ := s1 _ _ hn'
  have hwτ := s1 _ _ hw
  have ix : ∀ {ρ : Rho} (i v : Nat), ρ.get 2 = some (.ref hn) → [m.kind, m.src, m.dst, m.term, m.lterm, m.index, m.commit, m.hint][i]? = some v → PV con (n + 30) (.idx (.var 2) (.int i)) ρ τ (.int v) := fun i v hr hv => PV.i0 hr hnτ hv (by simp)
  refine asgV (v := .tup m.row) (PV.tup ⟨ix 0 _ rfl rfl, ix 1 _ rfl rfl, ix 2 _ rfl rfl, ix 3 _ rfl rfl, ix 4 _ rfl rfl, ix 5 _ rfl rfl, PV.tupL (PV.var rfl) hwτ (by simp; unfold lim; lia), ix 6 _ rfl rfl, PV.var rfl, h8 s1 rfl, ix 7 _ rfl rfl, PV.var rfl, rfl⟩ (Nat.le_of_ble_eq_true rfl)) ?_
  simp only [List.set_cons_succ, List.set_cons_zero]
  have hm' := hm.sub s1
  refine asgV (v := .bytes m.octets) (PVs.call (vs := [.ref r]) ⟨PV.var rfl, rfl⟩ fun τ s Q hq => c_826 (n := n + 22) ok (hm'.sub s) hq) ?_
  simp only [List.set_cons_succ, List.set_cons_zero]
  have obj : ∀ {r υ}, MsgAt υ r m → ∃ fs, υ r = some (.inst 815 fs) ∧ getF 48 fs = none := fun h => by
    obtain ⟨L, sv, rs, h1, _⟩ := h
    exact ⟨_, h1, rfl⟩
  obtain ⟨fs, hr, hg⟩ := obj hm'
  refine NB.ite (NB.or2 (NB.ne (PV.a (PV.meth (PV.var rfl) hr M_815_48 hg fun τ s Q hq => c_805 (n := n + 27) ok (hm'.sub s) hq)) (PV.a (PV.var rfl)) (msg_pure m)) (NB.neL (PL.listB (b := m.octets) (PV.var rfl) (by unfold lim; lia)).r (PR.var rfl e7) (nats_pure _))) fun τ2 s2 => ?_
  refine retA (PA.eq (PO.meth (P := fun r υ => MsgAt υ r m) (PO.call (vs := [.bytes m.octets]) ⟨PV.var rfl, rfl⟩ fun τ s Q g => c_833 (n := n + 21) ok fun r υ _ su hu => g r υ su hu) fun r υ p => ?_) (PV.a (PV.var rfl)) (msg_pure m)) ((s0.trans s1).trans s2) h
  obtain ⟨fs, hr, hg⟩ := obj p
  exact ⟨_, fs, _, hr, M_815_48, hg, fun Q hq => c_805 (n := n + 27) ok p hq⟩
end Mine
end
section
set_option tactic.hygienic false
set_option backward.match.sparseCases false
set_option maxRecDepth 10000
set_option linter.all false
namespace Mine
variable {con : Nat → Option (List V)} {σ : Hp} {n : Nat} {ρ : Rho} {ss : List S}
theorem L49 {xs : List V} {x : Nat} {Q : K1} : biP .list [.ref x] σ Q = (match σ x with
    | some (.lst xs) => xs.length ≤ lim ∧ ∀ r, σ r = none → Q (.ref r) (upd σ r (.lst xs))
    | _ => False) := rfl
/-- _law_text of a list -/
theorem PL.textL {e : E} {b : List Nat} (h : PR con (n + 11) e ρ σ (natsV b)) (hb : b.length ≤ 100000) : PL con (n + 11) (.call 875 [e]) ρ σ (natsV (vb b.length ++ b)) := fun τ s Q hq => by
  refine h τ s _ fun x υ t g => ?_
  show callN (progT con) progP (n + 11) 875 [.ref x] υ Q
  refine call_intro (d := ⟨1, 2, b_875, []⟩) rfl (Nat.le_refl 1) (Nat.le_refl 1) ?_
  have v0 : PV con (n + 10) (.var 0) [some (.ref x), none] υ (.ref x) := PV.var rfl
  have l1 := vb_len10 (n := b.length) (by lia)
  have hl : (natsV b).length ≤ lim := by rw [natsV_len]; unfold lim; lia
  have ln := PV.lenL v0 g hl
  rw [natsV_len] at ln
  have pl : PL con (n + 10) (.bi .list [.var 0]) [some (.ref x), none] υ (natsV b) := fun τ s Q hq => by
    refine u_bi (ul_cons (u_var ⟨_, rfl, ul_nil ?_⟩))
    rw [L49 (xs := []), s _ _ g]
    exact ⟨hl, fun r hr => hq r _ hr (Sub.put (Sub.refl _) hr) (upd_at ..)⟩
  have p := PL.add (PL.vr ln (by lia)).r pl.r (by rw [natsV_len, natsV_len]; unfold lim; lia)
  refine seq_step fun R hR => ?_
  refine p υ (Sub.refl _) _ fun r υ' hr t' g' => ?_
  rw [← natsV_app] at g'
  exact ⟨υ', Sub.refl _, hq r υ' (t.free hr) (t.trans t') g'⟩
section
variable {x0 x1 x2 x3 x4 x5 x6 x9 x10 x11 x12 x13 x14 x15 : Option V} {L : Nat} {oL : AObj} {src : V} {all : List V} {Q : K2}
theorem w8_loop (hsrc : ∀ τ, Sub σ τ → itemsOf τ src = some all) (hL : σ L = some oL) : ∀ (rest acc : List Nat) (o : Nat) (o8 : Option V) (τ : Hp), Sub σ τ → τ o = some (.lst (natsV acc)) → o ≠ L → (∀ i ∈ rest, i < 2 ^ 64) → acc.length + 10 * rest.length ≤ 100000 →
    (∀ o o8 τ, Sub σ τ → τ o = some (.lst (natsV (acc ++ (rest.map vb).flatten))) → o ≠ L → Q .next [x0, x1, x2, x3, x4, x5, x6, some (.ref o), o8, x9, x10, x11, x12, x13, x14, x15] τ) →
    forLoop src all (fun v ρ σ Q => wpSs (progT con) (callN (progT con) progP (n + 30)) [.asg 7 (.bin .add (.var 7) (.call 868 [.var 8]))] (ρ.set 8 (some v)) σ Q) (natsV rest) [x0, x1, x2, x3, x4, x5, x6, some (.ref o), o8, x9, x10, x11, x12, x13, x14, x15] τ Q := by
  intro rest
  induction rest with
  | nil =>
    exact fun acc o o8 τ s ho hne _ _ hQ => for_end (hsrc τ s) (hQ o o8 τ s (by simpa using ho) hne)
  | cons i rest ih =>
    intro acc o o8 τ s ho hne h64 hl hQ
    have hi := h64 i (.head _)
    have li := vb_len10 hi
    simp at hl
    refine for_turn (hsrc τ s) fun R hR => ?_
    simp only [List.set_cons_succ, List.set_cons_zero]
    refine asgL (addN (PR.var rfl ho) (PL.vr (n := n + 20) (x := i) (PV.var rfl) hi).r (by lia)) fun o' τ' hf s' e => ?_
    simp only [List.set_cons_succ, List.set_cons_zero]
    refine ⟨_, Sub.refl _, ?_⟩
    rw [hR]
    refine ih (acc ++ vb i) o' _ τ' (s.trans s') e (ne_of_free (s _ _ hL) hf).symm (fun j hj => h64 j (.tail _ hj)) (by simp; lia) fun o o8 τ s e hne => ?_
    exact hQ o o8 τ s (by simpa using e) hne
end
section
variable {β : Hp} {x0 x1 x2 x3 x4 x5 x8 x10 x11 x12 x13 x14 x15 : Option V} {L r : Nat} {fs : List (Nat × V)} {src : V} {all : List V} {Q : K2}
noncomputable abbrev w9Body : List S := [.ex (.meth (.attr (.var 6) 35) 50 [.new 649 [.idx (.var 9) (.int 0), .idx (.var 9) (.int 1), .idx (.var 9) (.int 2), .idx (.var 9) (.int 3)]]), .asg 7 (.bin .add (.var 7) (.call 875 [.bin .add (.bin .add (.bin .add (.call 868 [.idx (.var 9) (.int 0)]) (.call 868 [.idx (.var 9) (.int 1)])) (.list [.idx (.var 9) (.int 2)])) (.call 875 [.idx (.var 9) (.int 3)])]))]
theorem w9_step {e : Ent} {rs : List Nat} {done : List Ent} {acc : List Nat} {o : Nat} {τ : Hp} (oe : e.ok) (f2 : β L = none) (hf : getF 35 fs = some (.ref L)) (s : Sub β τ) (hr : τ r = some (.inst 815 fs)) (hL : τ L = some (.lst (refs rs))) (he : EntsAt τ rs done) (ho : τ o = some (.lst (natsV acc))) (hne : o ≠ L) (hl : acc.length ≤ 200000) (hd : done.length ≤ 100)
    (h : ∀ q o τ, Sub β τ → τ r = some (.inst 815 fs) → τ L = some (.lst (refs (rs ++ [q]))) → EntsAt τ (rs ++ [q]) (done ++ [e]) → τ o = some (.lst (natsV (acc ++ entB e))) → o ≠ L → Q .next [x0, x1, x2, x3, x4, x5, some (.ref r), some (.ref o), x8, some (.tup e.row), x10, x11, x12, x13, x14, x15] τ) :
    wpSs (progT con) (callN (progT con) progP (n + 30)) w9Body [x0, x1, x2, x3, x4, x5, some (.ref r), some (.ref o), x8, some (.tup e.row), x10, x11, x12, x13, x14, x15] τ Q := by
  have le := Ent.octets_len oe
  have ix : ∀ {ρ : Rho} {τ : Hp} (i : Nat) {v : V}, ρ.get 9 = some (.tup e.row) → e.row[i]? = some v → PV con (n + 30) (.idx (.var 9) (.int i)) ρ τ v := fun i v hr hv => PV.idxT (PV.var hr) PV.nat (Nat.le_of_ble_eq_true rfl) hv
  obtain ⟨o1, o2, o3, o4⟩ := oe
  have l1 := vb_len10 o1
  have l2 := vb_len10 o2
  have l4 := vb_len5 (n := e.data.length) (by lia)
  have pvs : PVs con (n + 30) [.idx (.var 9) (.int 0), .idx (.var 9) (.int 1), .idx (.var 9) (.int 2), .idx (.var 9) (.int 3)] [x0, x1, x2, x3, x4, x5, some (.ref r), some (.ref o), x8, some (.tup e.row), x10, x11, x12, x13, x14, x15] τ e.row := ⟨ix 0 rfl rfl, ix 1 rfl rfl, ix 2 rfl rfl, ix 3 rfl rfl, rfl⟩
  refine seq_step fun R hR => ?_
  refine ⟨_, rfl, ?_⟩
  show attrP (progT con) (.ref r) 35 τ _
  rw [L33, hr]
  refine ⟨F_815_35, _, hf, 0, by rw [L31, hL]; rfl, ?_⟩
  refine ul_cons (u_new (pvs.run τ (Sub.refl _) _ (c_618 (n := n + 29) e fun q hq => ul_nil ?_)))
  have n1 : L ≠ q := ne_of_free hL hq
  have n2 : r ≠ q := ne_of_free hr hq
  have n3 : o ≠ q := ne_of_free ho hq
  have hrL : r ≠ L := ne_of_obj hr hL (by intro h; cases h)
  rw [L31, L32, upd_ne _ _ n1, hL]
  refine ⟨rfl, rfl, ?_, ?_⟩
  · rw [refs_len, he.len]; unfold lim; lia
  show R _ _
  rw [hR]; clear hR R
  have a1 : Sub β (upd (upd τ q (.inst 649 e.fs)) L (.lst (refs rs ++ [.ref q]))) := Sub.put (Sub.put s (s.free hq)) f2
  have a2 : upd (upd τ q (.inst 649 e.fs)) L (.lst (refs rs ++ [.ref q])) r = some (.inst 815 fs) := by rw [upd_ne _ _ hrL, upd_ne _ _ n2]; exact hr
  have a3 : upd (upd τ q (.inst 649 e.fs)) L (.lst (refs rs ++ [.ref q])) L = some (.lst (refs (rs ++ [q]))) := by rw [upd_at]; simp [refs]
  have a4 : EntsAt (upd (upd τ q (.inst 649 e.fs)) L (.lst (refs rs ++ [.ref q]))) (rs ++ [q]) (done ++ [e]) := by
    refine EntsAt.snoc (he.mono fun x fs hx => ?_) ?_
    · rw [upd_ne _ _ (ne_of_obj hx hL (by intro h; cases h)), upd_ne _ _ (ne_of_free hx hq)]; exact hx
    · rw [upd_ne _ _ n1.symm, upd_at]
  have a5 : upd (upd τ q (.inst 649 e.fs)) L (.lst (refs rs ++ [.ref q])) o = some (.lst (natsV acc)) := by rw [upd_ne _ _ hne, upd_ne _ _ n3]; exact ho
  generalize upd (upd τ q (.inst 649 e.fs)) L (.lst (refs rs ++ [.ref q])) = τ1 at a1 a2 a3 a4 a5
  have hk : vb e.kind = [e.kind] := vb_small (by lia)
  have p := addN (addN (addN (PL.vr (n := n + 20) (ix (ρ := [x0, x1, x2, x3, x4, x5, some (.ref r), some (.ref o), x8, some (.tup e.row), x10, x11, x12, x13, x14, x15]) (τ := τ1) 0 rfl rfl) o1).r (PL.vr (n := n + 20) (ix 1 rfl rfl) o2).r (by lia)).r (PL.one (ix 2 rfl rfl)).r (by simp; lia)).r (PL.text (n := n + 19) (b := e.data) (ix 3 rfl rfl) (by lia)).r (by simp; lia)
  have eo : vb e.term ++ vb e.index ++ [e.kind] ++ (vb e.data.length ++ e.data) = e.octets := by simp [Ent.octets, hk]
  rw [eo] at p
  have lb := vb_len5 (n := e.octets.length) (by lia)
  refine asgL (addN (PR.var rfl a5) (PL.textL (n := n + 19) p.r (by lia)).r (by simp; lia)) fun o' τ2 hf2 s2 e2 => ?_
  simp only [List.set_cons_succ, List.set_cons_zero]
  exact h q o' τ2 (a1.trans s2) (s2 _ _ a2) (s2 _ _ a3) (a4.mono fun x fs hx => s2 _ _ hx) e2 (ne_of_free a3 hf2).symm
theorem w9_loop (hsrc : ∀ τ, Sub β τ → itemsOf τ src = some all) (f2 : β L = none) (hf : getF 35 fs = some (.ref L)) : ∀ (es done : List Ent) (rs : List Nat) (acc : List Nat) (o : Nat) (o9 : Option V) (τ : Hp), (∀ e ∈ es, e.ok) → Sub β τ → τ r = some (.inst 815 fs) → τ L = some (.lst (refs rs)) → EntsAt τ rs done → τ o = some (.lst (natsV acc)) → o ≠ L → acc.length + 10050 * es.length ≤ 200000 → done.length + es.length ≤ 100 →
    (∀ rs o o9 τ, Sub β τ → τ r = some (.inst 815 fs) → τ L = some (.lst (refs rs)) → EntsAt τ rs (done ++ es) → τ o = some (.lst (natsV (acc ++ (es.map entB).flatten))) → o ≠ L → Q .next [x0, x1, x2, x3, x4, x5, some (.ref r), some (.ref o), x8, o9, x10, x11, x12, x13, x14, x15] τ) →
    forLoop src all (fun v ρ σ Q => wpSs (progT con) (callN (progT con) progP (n + 30)) w9Body (ρ.set 9 (some v)) σ Q) (es.map fun e => .tup e.row) [x0, x1, x2, x3, x4, x5, some (.ref r), some (.ref o), x8, o9, x10, x11, x12, x13, x14, x15] τ Q := by
  intro es
  induction es with
  | nil =>
    exact fun done rs acc o o9 τ _ s hr hL he ho hne _ _ hQ => for_end (hsrc τ s) (hQ rs o o9 τ s hr hL (by simpa using he) (by simpa using ho) hne)
  | cons e es ih =>
    intro done rs acc o o9 τ ok s hr hL he ho hne hl hd hQ
    have oe := ok e (.head _)
    have le := entB_len oe
    simp at hl hd
    refine for_turn (hsrc τ s) fun R hR => ?_
    simp only [List.set_cons_succ, List.set_cons_zero]
    refine w9_step oe f2 hf s hr hL he ho hne (by lia) (by lia) fun q o τ s hr hL he ho hne => ?_
    refine ⟨_, Sub.refl _, ?_⟩
    rw [hR]
    refine ih (done ++ [e]) (rs ++ [q]) (acc ++ entB e) o _ τ (fun x hx => ok x (.tail _ hx)) s hr hL he ho hne (by simp; lia) (by simp; lia) fun rs o o9 τ s hr hL he ho hne => ?_
    exact hQ rs o o9 τ s hr hL (by simpa using he) (by simpa using ho) hne
end
end Mine
end
section
set_option tactic.hygienic false
set_option backward.match.sparseCases false
set_option maxRecDepth 10000
set_option linter.all false
namespace Mine
variable {con : Nat → Option (List V)} {σ : Hp} {n : Nat} {ρ : Rho} {ss : List S}
structure DWord (d : List Nat) : Prop where
  len : d.length = 12
  lo : ∀ i, i < 9 → D d i < 2
  d9 : D d 9 < 3
  d10 : D d 10 < 3
  d11 : D d 11 < 2
noncomputable def wN (d : List Nat) (y f : Nat) : Nat := D d f * G (y / 6 ^ f)
noncomputable def eG (y : Nat) : Ent := ⟨G (y / 2), G (y / 3), 2, O (y / 5)⟩
noncomputable def eA : Ent := ⟨0, 0, 0, []⟩
noncomputable def eB : Ent := ⟨0, 0, 2, []⟩
noncomputable def entsOf (d : List Nat) (y : Nat) : List Ent := said (D d 9) [] [eA] [eG y, eB]
noncomputable def cfA : Conf := ⟨[], [], [], [], false⟩
noncomputable def cfB (v : Nat) : Conf := ⟨[v], [9], [v, 8], [8], true⟩
noncomputable def snA : Snp := ⟨0, 0, cfA, []⟩
noncomputable def snB (y : Nat) : Snp := ⟨G (y / 7), 0, cfB (1 + y % 5), O (y / 4)⟩
noncomputable def msgOf (d : List Nat) (y : Nat) (sn : Option Snp) : Msg := ⟨D d 0 * (1 + y % 20), wN d y 1, wN d y 2, wN d y 3, wN d y 4, wN d y 5, entsOf d y, wN d y 6, sn, decide ((D d 8 : Int) = 1), wN d y 7, repL (D d 11) (O y)⟩
theorem wN_lt {d : List Nat} {y f : Nat} (h : D d f < 2) : wN d y f < 2 ^ 64 := by
  have := mulG (k := 0) (y := y / 6 ^ f) h
  unfold wN; lia
theorem ids0 : idsOk [] := ⟨.nil, by decide, by simp⟩
theorem ids1 {v : Nat} (h : v < 100) : idsOk [v] := ⟨by simp, by simp, by simp; lia⟩
theorem ids2 {v : Nat} (h : v < 8) : idsOk [v, 8] := ⟨by simp; lia, by simp, by simp; lia⟩
theorem cfA_ok : cfA.ok := ⟨ids0, ids0, ids0, ids0⟩
theorem cfB_ok {v : Nat} (h : v < 8) : (cfB v).ok := ⟨ids1 (by lia), ids1 (by decide), ids2 h, ids1 (by decide)⟩
theorem snA_ok : snA.ok := ⟨by decide, by decide, cfA_ok, by decide⟩
theorem snB_ok (y : Nat) : (snB y).ok := ⟨by have := G_le (y / 7); show G (y / 7) < 2 ^ 64; lia, by show (0 : Nat) < 2 ^ 64; decide, cfB_ok (by lia), by have := O_le (y / 4); show (O (y / 4)).length ≤ 10000; lia⟩
theorem eG_ok (y : Nat) : (eG y).ok := ⟨by have := G_le (y / 2); show G (y / 2) < 2 ^ 64; lia, by have := G_le (y / 3); show G (y / 3) < 2 ^ 64; lia, .inr rfl, by have := O_le (y / 5); show (O (y / 5)).length ≤ 10000; lia⟩
theorem eA_ok : eA.ok := ⟨by decide, by decide, .inl rfl, by decide⟩
theorem eB_ok : eB.ok := ⟨by decide, by decide, .inr rfl, by decide⟩
theorem entsOf_ok (d : List Nat) (y : Nat) : (entsOf d y).length ≤ 2 ∧ ∀ e ∈ entsOf d y, e.ok := by
  unfold entsOf said
  split
  · simp
  · exact ⟨by simp, by simp; exact eA_ok⟩
  · exact ⟨by simp, by simp; exact ⟨eG_ok y, eB_ok⟩⟩
theorem msgOk {d : List Nat} {y : Nat} {sn : Option Snp} (h : DWord d) (hs : ∀ s, sn = some s → s.ok) : (msgOf d y sn).ok := by
  refine ⟨?_, wN_lt (h.lo 1 (by decide)), wN_lt (h.lo 2 (by decide)), wN_lt (h.lo 3 (by decide)), wN_lt (h.lo 4 (by decide)), wN_lt (h.lo 5 (by decide)), ?_, (entsOf_ok d y).2, wN_lt (h.lo 6 (by decide)), hs, wN_lt (h.lo 7 (by decide)), ?_⟩
  · have := h.lo 0 (by decide)
    have := Nat.mul_le_mul (show D d 0 ≤ 1 by lia) (show 1 + y % 20 ≤ 20 by lia)
    show D d 0 * (1 + y % 20) ≤ 20
    lia
  · have := (entsOf_ok d y).1
    show (entsOf d y).length ≤ 10
    lia
  · have := repO_le (y := y) h.d11
    show (repL (D d 11) (O y)).length ≤ 10000
    lia
end Mine
end
section
set_option tactic.hygienic false
set_option backward.match.sparseCases false
set_option maxRecDepth 10000
set_option linter.all false
namespace Mine
variable {con : Nat → Option (List V)} {σ : Hp} {n : Nat} {ρ : Rho} {ss : List S}
theorem testEq {e : E} {a k : Int} {b : Bool} {Q : Bool → Hp → Prop} (h : PV con n e ρ σ (.int a)) (hb : decide (a = k) = b) (hq : Q b σ) : wpB (progT con) (callN (progT con) progP n) (.cmp .eq e (.int k)) ρ σ Q := by
  refine h σ (Sub.refl _) _ ?_
  refine u_int ?_
  rw [L34, hb]; exact hq
noncomputable def nlOf (d : List Nat) (y : Nat) : List Nat := [D d 0 * (1 + y % 20), wN d y 1, wN d y 2, wN d y 3, wN d y 4, wN d y 5, wN d y 6, wN d y 7]
noncomputable def wB0 (d : List Nat) (y : Nat) : List Nat := ((nlOf d y).map vb).flatten ++ ([D d 8] ++ [(entsOf d y).length]) ++ ((entsOf d y).map entB).flatten
theorem wB_octets {d : List Nat} {y : Nat} {sn : Option Snp} (ok : DWord d) : wB0 d y ++ snpB sn ++ (vb (repL (D d 11) (O y)).length ++ repL (D d 11) (O y)) = (msgOf d y sn).octets := by
  have ft : [if decide ((D d 8 : Int) = 1) = true then 1 else 0] = [D d 8] := by
    have := ok.lo 8 (by decide)
    have : D d 8 = 0 ∨ D d 8 = 1 := by lia
    rcases this with e | e <;> simp [e]
  have el : vb (entsOf d y).length = [(entsOf d y).length] := vb_small (by have := (entsOf_ok d y).1; lia)
  show _ = vb (D d 0 * (1 + y % 20)) ++ (vb (wN d y 1) ++ (vb (wN d y 2) ++ (vb (wN d y 3) ++ (vb (wN d y 4) ++ (vb (wN d y 5) ++ (vb (wN d y 6) ++ (vb (wN d y 7) ++ ([if decide ((D d 8 : Int) = 1) = true then 1 else 0] ++ (vb (entsOf d y).length ++ (((entsOf d y).map entB).flatten ++ (snpB sn ++ (vb (repL (D d 11) (O y)).length ++ repL (D d 11) (O y)))))))))))))
  rw [ft, el]
  simp [wB0, nlOf]
theorem nl_lt {d : List Nat} {y : Nat} (ok : DWord d) : ∀ i ∈ nlOf d y, i < 2 ^ 64 := by
  have h := fun f (hf : f < 9) => wN_lt (y := y) (ok.lo f hf)
  have h0 : D d 0 * (1 + y % 20) < 2 ^ 64 := by
    have := ok.lo 0 (by decide)
    have := Nat.mul_le_mul (show D d 0 ≤ 1 by lia) (show 1 + y % 20 ≤ 20 by lia)
    lia
  intro i hi
  simp only [nlOf, List.mem_cons, List.not_mem_nil, or_false] at hi
  rcases hi with rfl | rfl | rfl | rfl | rfl | rfl | rfl | rfl
  · exact h0
  · exact h 1 (by decide)
  · exact h 2 (by decide)
  · exact h 3 (by decide)
  · exact h 4 (by decide)
  · exact h 5 (by decide)
  · exact h 6 (by decide)
  · exact h 7 (by decide)
theorem vbs_le : ∀ l : List Nat, (∀ i ∈ l, i < 2 ^ 64) → ((l.map vb).flatten).length ≤ 10 * l.length
  | [], _ => by simp
  | i :: l, h => by
    have a := vb_len10 (h i (.head _))
    have b := vbs_le l fun j hj => h j (.tail _ hj)
    simp at *; lia
/-- _law_word, as far as the snapshot: what the heap knows then -/
structure WAt (β τ : Hp) (r L o : Nat) (d : List Nat) (y : Nat) : Prop where
  s : Sub β τ
  fr : β r = none
  fL : β L = none
  hr : τ r = some (.inst 815 ((msgOf d y none).fs L .none))
  hL : ∃ rs, τ L = some (.lst (refs rs)) ∧ EntsAt τ rs (entsOf d y)
  ho : τ o = some (.lst (natsV (wB0 d y)))
theorem word_head {Q : K2} {x y : Nat} {d : List Nat} (hx : σ x = some (.lst (natsV d))) (ok : DWord d)
    (h : ∀ β τ r L o hn rw_ x3 x8 x9, Sub σ β → β hn = some (.lst (natsV (nlOf d y))) → β rw_ = some (.lst ((entsOf d y).map fun e => .tup e.row)) → WAt β τ r L o d y →
      wpSs (progT con) (callN (progT con) progP (n + 30)) (b_904.drop 15) [some (.ref x), some (.int y), some (.ref hn), x3, some (.ref rw_), some (.bytes (repL (D d 11) (O y))), some (.ref r), some (.ref o), x8, x9, none, none, none, none, none, none] τ Q) :
    wpSs (progT con) (callN (progT con) progP (n + 30)) b_904 [some (.ref x), some (.int y), none, none, none, none, none, none, none, none, none, none, none, none, none, none] σ Q := by
  have dg : ∀ {ρ : Rho} {τ : Hp} (i : Nat), Sub σ τ → ρ.get 0 = some (.ref x) → i < 12 → PV con (n + 30) (.idx (.var 0) (.int i)) ρ τ (.int (D d i)) := fun i s h hi => PV.d h (s _ _ hx) PV.nat (by rw [ok.len]; exact hi) (by rw [ok.len]; decide)
  have q0 := ok.lo 0 (by decide)
  have p1 : PL con (n + 30) (.bin .add (.list [.bin .mul (.idx (.var 0) (.int 0)) (.bin .add (.int 1) (.bin .mod (.var 1) (.int 20)))]) (.comp (.bin .mul (.idx (.var 0) (.var 15)) (.call 847 [.bin .fdiv (.var 1) (.bin .pow (.int 6) (.var 15))])) 15 (.bi .range [.int 1, .int 8]) [])) [some (.ref x), some (.int y), none, none, none, none, none, none, none, none, none, none, none, none, none, none] σ (natsV (nlOf d y)) :=
    PL.add (PL.one (PV.mulN (dg 0 (Sub.refl _) rfl (by decide)) (PV.addN (PV.nat (i := 1)) (PV.modN (PV.var rfl) (PV.nat (i := 20)) (by decide))) (by lia) (by lia))).r (PL.compR (lo := 1) (k := 7) (g := fun j => .int (wN d y (1 + j))) (PV.range2 (lo := 1) (k := 7) (by decide) (by decide)) (by decide) fun j hj => PV.dG (n := n + 29) (PV.d rfl hx (PV.var rfl) (by rw [ok.len]; lia) (by rw [ok.len]; decide)) (ok.lo _ (by lia)) (PV.fdivN (PV.var rfl) (PV.powN (PV.nat (i := 6)) (PV.var rfl) (by decide) (by lia)) (Nat.pow_pos (by decide)) (by
      have : 6 ^ (1 + j) ≤ 6 ^ 7 := Nat.pow_le_pow_right (by decide) (by lia)
      lia))).r (Nat.le_of_ble_eq_true rfl)
  refine asgL p1 fun hn τ1 _ s1 e1 => ?_
  simp only [List.set_cons_succ, List.set_cons_zero]
  refine asgV (v := .tup (eG y).row) (PV.tup ⟨PV.great (n := n + 29) (PV.y rfl (by decide) (by decide)), PV.great (n := n + 29) (PV.y rfl (by decide) (by decide)), PV.int, PV.octs (n := n + 29) (PV.y rfl (by decide) (by decide)), rfl⟩ (Nat.le_of_ble_eq_true rfl)) ?_
  simp only [List.set_cons_succ, List.set_cons_zero]
  have hrow : ((entsOf d y).map fun e => V.tup e.row) = said (D d 9) [] [.tup eA.row] [.tup (eG y).row, .tup eB.row] := by
    unfold entsOf; rw [said_map (fun l : List Ent => l.map fun e => V.tup e.row)]; rfl
  have p3 := PL.sel3 (con := con) (n := n + 30) (ρ := [some (.ref x), some (.int y), some (.ref hn), some (.tup (eG y).row), none, none, none, none, none, none, none, none, none, none, none, none]) (σ := τ1) (va := []) (vb := [.tup eA.row]) (vc := [.tup (eG y).row, .tup eB.row])
    (PL.list (es := []) rfl (Nat.le_of_ble_eq_true rfl)) (PL.list (es := [.tup [.int 0, .int 0, .int 0, .bytes []]]) ⟨PV.tup ⟨PV.int, PV.int, PV.int, PV.bytes, rfl⟩ (Nat.le_of_ble_eq_true rfl), rfl⟩ (Nat.le_of_ble_eq_true rfl)) (PL.list (es := [.var 3, .tup [.int 0, .int 0, .int 2, .bytes []]]) ⟨PV.var rfl, PV.tup ⟨PV.int, PV.int, PV.int, PV.bytes, rfl⟩ (Nat.le_of_ble_eq_true rfl), rfl⟩ (Nat.le_of_ble_eq_true rfl)) (dg 9 s1 rfl (by decide)) ok.d9
  rw [← hrow] at p3
  refine asgL p3 fun rw_ τ2 _ s2 e2 => ?_
  simp only [List.set_cons_succ, List.set_cons_zero]
  clear p3 hrow p1
  have t2 := s1.trans s2
  refine asgV (v := .bytes (repL (D d 11) (O y))) (PV.dO (n := n + 29) (dg 11 t2 rfl (by decide)) ok.d11 (PV.var rfl)) ?_
  simp only [List.set_cons_succ, List.set_cons_zero]
  have e1' := s2 _ _ e1
  have lw : (nlOf d y).length = 8 := rfl
  have ix : ∀ {ρ : Rho} {τ : Hp} (i v : Nat), Sub τ2 τ → ρ.get 2 = some (.ref hn) → (nlOf d y)[i]? = some v → PV con (n + 30) (.idx (.var 2) (.int i)) ρ τ (.int v) := fun i v s hr hv => PV.i0 hr (s _ _ e1') hv (by rw [lw]; decide)
  refine asgNew (vs := [.int ((D d 0 * (1 + y % 20) : Nat) : Int), .int (wN d y 1), .int (wN d y 2), .int (wN d y 3)]) (P := fun r τ => ∃ L, τ2 L = none ∧ r ≠ L ∧ τ r = some (.inst 815 (Msg.fs ⟨D d 0 * (1 + y % 20), wN d y 1, wN d y 2, wN d y 3, 0, 0, [], 0, none, false, 0, []⟩ L .none)) ∧ τ L = some (.lst []))
    ⟨ix 0 _ (Sub.refl _) rfl rfl, ix 1 _ (Sub.refl _) rfl rfl, ix 2 _ (Sub.refl _) rfl rfl, ix 3 _ (Sub.refl _) rfl rfl, rfl⟩ (fun Q g => c_800 (n := n + 29) fun r L hr hL hne => g r _ hr (Sub.put (Sub.put (Sub.refl _) hL) hr) ⟨L, hL, hne, upd_at .., by rw [upd_ne _ _ hne.symm, upd_at]⟩) fun r τ3 fr s3 ⟨L, fL, hne, e3, eL⟩ => ?_
  simp only [List.set_cons_succ, List.set_cons_zero]
  have sp : ∀ o, Sub τ2 (upd τ3 r o) := fun o => Sub.put s3 fr
  refine asgF (ix 4 _ s3 rfl rfl) rfl e3 F_815_34 (Nat.le_of_ble_eq_true rfl) ?_
  refine asgF (ix 5 _ (sp _) rfl rfl) rfl (upd_at ..) F_815_17 (Nat.le_of_ble_eq_true rfl) ?_
  rw [upd_upd]
  refine asgF (ix 6 _ (sp _) rfl rfl) rfl (upd_at ..) F_815_36 (Nat.le_of_ble_eq_true rfl) ?_
  rw [upd_upd]
  refine asgF (ix 7 _ (sp _) rfl rfl) rfl (upd_at ..) F_815_39 (Nat.le_of_ble_eq_true rfl) ?_
  rw [upd_upd]
  refine asgF (v := .bool (decide ((D d 8 : Int) = 1))) (PV.eqI (dg 8 (t2.trans (sp _)) rfl (by decide)) PV.int) rfl (upd_at ..) F_815_38 (Nat.le_of_ble_eq_true rfl) ?_
  rw [upd_upd]
  refine asgF (v := .bytes (repL (D d 11) (O y))) (PV.var rfl) rfl (upd_at ..) F_815_40 (Nat.le_of_ble_eq_true rfl) ?_
  rw [upd_upd]
  have g1 : upd τ3 r (.inst 815 ((msgOf d y none).fs L .none)) r = some (.inst 815 ((msgOf d y none).fs L .none)) := upd_at ..
  have g2 : upd τ3 r (.inst 815 ((msgOf d y none).fs L .none)) L = some (.lst []) := (upd_ne _ _ hne.symm).trans eL
  have g3 := sp (.inst 815 ((msgOf d y none).fs L .none))
  show wpSs _ _ _ _ (upd τ3 r (.inst 815 ((msgOf d y none).fs L .none))) _
  generalize upd τ3 r (.inst 815 ((msgOf d y none).fs L .none)) = τ4 at g1 g2 g3
  refine asgL (vs := natsV []) (PL.list (es := []) rfl (Nat.le_of_ble_eq_true rfl)) fun o τ5 fo s5 e5 => ?_
  simp only [List.set_cons_succ, List.set_cons_zero]
  -- the numbers
  have lent := (entsOf_ok d y).1
  have nlv := vbs_le _ (nl_lt (y := y) ok)
  rw [lw] at nlv
  refine seq_step fun R hR => ?_
  refine ⟨_, rfl, natsV (nlOf d y), by simp [itemsOf, s5 _ _ (g3 _ _ e1')], by rw [natsV_len]; exact Nat.le_of_ble_eq_true rfl, ?_⟩
  refine w8_loop (σ := τ5) (n := n) (fun τ s => by simp [itemsOf, s _ _ (s5 _ _ (g3 _ _ e1'))]) (s5 _ _ g2) (nlOf d y) [] o none τ5 (Sub.refl _) e5 (ne_of_free g2 fo).symm (nl_lt ok) (by rw [lw]; decide) fun o1 o8 τ6 s6 e6 ne6 => ?_
  simp only
  rw [hR]; clear hR R
  rw [List.nil_append] at e6
  have t6 := g3.trans (s5.trans s6)
  have rwl : ((entsOf d y).map fun e => V.tup e.row).length = (entsOf d y).length := by simp
  have pl : PV con (n + 30) (.bi .len [.var 4]) [some (.ref x), some (.int y), some (.ref hn), some (.tup (eG y).row), some (.ref rw_), some (.bytes (repL (D d 11) (O y))), some (.ref r), some (.ref o1), o8, none, none, none, none, none, none, none] τ6 (.int (entsOf d y).length) := by
    have := PV.lenL (con := con) (n := n + 30) (PV.var (ρ := [some (.ref x), some (.int y), some (.ref hn), some (.tup (eG y).row), some (.ref rw_), some (.bytes (repL (D d 11) (O y))), some (.ref r), some (.ref o1), o8, none, none, none, none, none, none, none]) (x := 4) rfl) (t6 _ _ e2) (by rw [rwl]; unfold lim; lia)
    rwa [rwl] at this
  refine asgL (addN (PR.var rfl e6) (PL.list (vs := natsV ([D d 8] ++ [(entsOf d y).length])) (es := [.idx (.var 0) (.int 8), .bi .len [.var 4]]) ⟨dg 8 (t2.trans t6) rfl (by decide), pl, rfl⟩ (Nat.le_of_ble_eq_true rfl)).r (by simp only [List.length_append, List.length_cons, List.length_nil]; lia)) fun o2 τ7 f7 s7 e7 => ?_
  simp only [List.set_cons_succ, List.set_cons_zero]
  have t7 := t6.trans s7
  refine seq_step fun R hR => ?_
  refine ⟨_, rfl, (entsOf d y).map fun e => V.tup e.row, by simp [itemsOf, t7 _ _ e2], by rw [rwl]; unfold lim; lia, ?_⟩
  have u1 := s7 _ _ (s6 _ _ (s5 _ _ g1))
  have u2 := s7 _ _ (s6 _ _ (s5 _ _ g2))
  refine w9_loop (β := τ2) (n := n) (fun τ s => by simp [itemsOf, s _ _ e2]) fL rfl (entsOf d y) [] [] _ o2 none τ7 (entsOf_ok d y).2 t7 u1 u2 trivial e7 (ne_of_free (s6 _ _ (s5 _ _ g2)) f7).symm (by simp only [List.length_append, List.length_cons, List.length_nil]; lia) (by simp; lia) fun rs o3 o9 τ8 s8 r8 L8 E8 e8 _ => ?_
  simp only
  rw [hR]; clear hR R
  exact h τ2 τ8 r L o3 hn rw_ _ _ _ t2 e1' e2 ⟨s8, fr, fL, r8, ⟨rs, L8, E8⟩, e8⟩
end Mine
end
section
set_option tactic.hygienic false
set_option backward.match.sparseCases false
set_option maxRecDepth 10000
set_option linter.all false
namespace Mine
variable {con : Nat → Option (List V)} {σ : Hp} {n : Nat} {ρ : Rho} {ss : List S}
theorem wB0_len {d : List Nat} {y : Nat} (ok : DWord d) : (wB0 d y).length ≤ 130000 := by
  have := congrArg List.length (wB_octets (y := y) (sn := none) ok)
  have l := Msg.len (msgOk (y := y) (sn := none) ok fun s h => by cases h)
  simp only [List.length_append] at this
  lia
theorem WAt.snap {β τ υ : Hp} {r L o q : Nat} {d : List Nat} {y : Nat} {w : Snp} (W : WAt β τ r L o d y) (g : Sub τ υ) (hq : SnpAt υ q w) : MsgAt (upd υ r (.inst 815 ((msgOf d y (some w)).fs L (.ref q)))) r (msgOf d y (some w)) ∧ Sub β (upd υ r (.inst 815 ((msgOf d y (some w)).fs L (.ref q)))) ∧ upd υ r (.inst 815 ((msgOf d y (some w)).fs L (.ref q))) o = some (.lst (natsV (wB0 d y))) := by
  obtain ⟨rs, h1, h2⟩ := W.hL
  have hr := g _ _ W.hr
  refine ⟨⟨L, .ref q, rs, upd_at .., ?_, ?_, q, rfl, ?_⟩, Sub.put (W.s.trans g) W.fr, ?_⟩
  · rw [upd_ne _ _ (ne_of_obj (g _ _ h1) hr (by intro h; cases h))]; exact g _ _ h1
  · exact h2.mono fun x fs hx => by rw [upd_ne _ _ (ne_of_obj (g _ _ hx) hr (by intro h; cases h))]; exact g _ _ hx
  · exact hq.keep hr (by decide) (by decide) fun z oz hz e => (upd_ne _ _ hz).trans e
  · rw [upd_ne _ _ (ne_of_obj (g _ _ W.ho) hr (by intro h; cases h))]; exact g _ _ W.ho
theorem WAt.msg0 {β τ : Hp} {r L o : Nat} {d : List Nat} {y : Nat} (W : WAt β τ r L o d y) : MsgAt τ r (msgOf d y none) := by
  obtain ⟨rs, h1, h2⟩ := W.hL
  exact ⟨L, .none, rs, W.hr, h1, h2, rfl⟩
/-- _law_word -/
theorem c_904 {Q : K1} {x y : Nat} {d : List Nat} (hx : σ x = some (.lst (natsV d))) (ok : DWord d) (h : Q (.bool true) σ) : callN (progT con) progP (n + 31) 904 [.ref x, .int y] σ Q := by
  refine call_intro (d := ⟨2, 16, b_904, []⟩) rfl (Nat.le_refl 2) (Nat.le_refl 2) ?_
  refine word_head hx ok fun β τ r L o hn rw_ x3 x8 x9 s0 e2 e4 W => ?_
  have dg : ∀ {ρ : Rho} {τ : Hp} (i : Nat), Sub β τ → ρ.get 0 = some (.ref x) → i < 12 → PV con (n + 30) (.idx (.var 0) (.int i)) ρ τ (.int (D d i)) := fun i s h hi => PV.d h (s _ _ (s0 _ _ hx)) PV.nat (by rw [ok.len]; exact hi) (by rw [ok.len]; decide)
  have h8 : ∀ {ρ : Rho} {τ : Hp}, Sub β τ → ρ.get 0 = some (.ref x) → PV con (n + 30) (.cmp .eq (.idx (.var 0) (.int 8)) (.int 1)) ρ τ (.bool (decide ((D d 8 : Int) = 1))) := fun s h => PV.eqI (dg 8 s h (by decide)) PV.int
  have lB := wB0_len (y := y) ok
  have q10 := ok.d10
  refine asgV (v := .none) PV.none ?_
  simp only [List.set_cons_succ, List.set_cons_zero]
  have : D d 10 = 0 ∨ D d 10 = 1 ∨ D d 10 = 2 := by lia
  rcases this with c | c | c
  · -- no snapshot
    refine ite_step true (fun Q hq => testEq (dg 10 W.s rfl (by decide)) (by rw [c]; rfl) hq) ?_
    refine asgL (addN (ys := [0]) (PR.var rfl W.ho) (PL.one (a := 0) PV.int).r (by simp; lia)) fun o' τ' _ s' e' => ?_
    simp only [List.set_cons_succ, List.set_cons_zero]
    exact word_tail (m := msgOf d y none) (B := wB0 d y ++ [0]) (msgOk ok fun s h => by cases h) (s0.trans (W.s.trans s')) (W.msg0.sub s') (s' _ _ (W.s _ _ e2)) (s' _ _ (W.s _ _ e4)) e' (wB_octets (sn := none) ok) (fun s h => h8 ((W.s.trans s').trans s) h) h
  · -- the empty one
    refine ite_step false (fun Q hq => testEq (dg 10 W.s rfl (by decide)) (by rw [c]; rfl) hq) ?_
    refine ite_step true (fun Q hq => testEq (dg 10 W.s rfl (by decide)) (by rw [c]; rfl) hq) ?_
    refine asgV (v := .tup snA.row) (PV.tup ⟨PV.int, PV.int, PV.tup ⟨PV.tup (vs := []) rfl (Nat.le_of_ble_eq_true rfl), PV.tup (vs := []) rfl (Nat.le_of_ble_eq_true rfl), PV.tup (vs := []) rfl (Nat.le_of_ble_eq_true rfl), PV.tup (vs := []) rfl (Nat.le_of_ble_eq_true rfl), PV.bool, rfl⟩ (Nat.le_of_ble_eq_true rfl), PV.bytes, rfl⟩ (Nat.le_of_ble_eq_true rfl)) ?_
    simp only [List.set_cons_succ, List.set_cons_zero]
    refine asgFO (PO.snap (n := n + 29) (w := snA) PV.int PV.int (PO.conf (n := n + 28) cfA_ok (PL.list (es := []) rfl (Nat.le_of_ble_eq_true rfl)) (PL.list (es := []) rfl (Nat.le_of_ble_eq_true rfl)) (PL.list (es := []) rfl (Nat.le_of_ble_eq_true rfl)) (PL.list (es := []) rfl (Nat.le_of_ble_eq_true rfl))) PV.bytes) rfl W.hr F_815_37 (Nat.le_of_ble_eq_true rfl) fun q υ g hq => ?_
    obtain ⟨w1, w2, w3⟩ := W.snap g hq
    show wpSs _ _ _ _ (upd υ r (.inst 815 ((msgOf d y (some snA)).fs L (.ref q)))) _
    generalize upd υ r (.inst 815 ((msgOf d y (some snA)).fs L (.ref q))) = τ1 at w1 w2 w3
    refine asgL (addN (ys := [1, 9, 0, 0, 5, 0, 0, 0, 0, 0, 0]) (PR.var rfl w3) (PL.list (es := [.int 1, .int 9, .int 0, .int 0, .int 5, .int 0, .int 0, .int 0, .int 0, .int 0, .int 0]) (vs := natsV [1, 9, 0, 0, 5, 0, 0, 0, 0, 0, 0]) ⟨PV.int, PV.int, PV.int, PV.int, PV.int, PV.int, PV.int, PV.int, PV.int, PV.int, PV.int, rfl⟩ (Nat.le_of_ble_eq_true rfl)).r (by simp; lia)) fun o' τ' _ s' e' => ?_
    simp only [List.set_cons_succ, List.set_cons_zero]
    have eb : snpB (some snA) = [1, 9, 0, 0, 5, 0, 0, 0, 0, 0, 0] := by
      simp [snpB, snA, Snp.octets, cfA, Conf.octets, idsB, vb_small]
    rw [← eb] at e'
    exact word_tail (m := msgOf d y (some snA)) (B := wB0 d y ++ snpB (some snA)) (msgOk ok fun s h => by cases h; exact snA_ok) (s0.trans (w2.trans s')) (w1.sub s') (s' _ _ (w2 _ _ e2)) (s' _ _ (w2 _ _ e4)) e' (wB_octets (sn := some snA) ok) (fun s h => h8 ((w2.trans s').trans s) h) h
  · -- a great one
    refine ite_step false (fun Q hq => testEq (dg 10 W.s rfl (by decide)) (by rw [c]; rfl) hq) ?_
    refine ite_step false (fun Q hq => testEq (dg 10 W.s rfl (by decide)) (by rw [c]; rfl) hq) ?_
    refine asgV (v := .int ((1 + y % 5 : Nat) : Int)) (PV.addN (PV.nat (i := 1)) (PV.modN (PV.var rfl) (PV.nat (i := 5)) (by decide))) ?_
    simp only [List.set_cons_succ, List.set_cons_zero]
    have hv : 1 + y % 5 < 8 := by lia
    refine asgV (v := .tup (snB y).row) (PV.tup ⟨PV.great (n := n + 29) (PV.y rfl (by decide) (by decide)), PV.int, PV.tup ⟨PV.tup (vs := natsV [1 + y % 5]) ⟨PV.var rfl, rfl⟩ (Nat.le_of_ble_eq_true rfl), PV.tup (vs := natsV [9]) ⟨PV.int, rfl⟩ (Nat.le_of_ble_eq_true rfl), PV.tup (vs := natsV [1 + y % 5, 8]) ⟨PV.var rfl, PV.int, rfl⟩ (Nat.le_of_ble_eq_true rfl), PV.tup (vs := natsV [8]) ⟨PV.int, rfl⟩ (Nat.le_of_ble_eq_true rfl), PV.bool, rfl⟩ (Nat.le_of_ble_eq_true rfl), PV.octs (n := n + 29) (PV.y rfl (by decide) (by decide)), rfl⟩ (Nat.le_of_ble_eq_true rfl)) ?_
    simp only [List.set_cons_succ, List.set_cons_zero]
    have ix0 : ∀ {ρ : Rho} {τ : Hp}, ρ.get 10 = some (.tup (snB y).row) → PV con (n + 30) (.idx (.var 10) (.int 0)) ρ τ (.int (snB y).index) := fun h => PV.idxT (PV.var h) (PV.nat (i := 0)) (Nat.le_of_ble_eq_true rfl) rfl
    have ix3 : ∀ {ρ : Rho} {τ : Hp}, ρ.get 10 = some (.tup (snB y).row) → PV con (n + 30) (.idx (.var 10) (.int 3)) ρ τ (.bytes (snB y).data) := fun h => PV.idxT (PV.var h) (PV.nat (i := 3)) (Nat.le_of_ble_eq_true rfl) rfl
    refine asgFO (PO.snap (n := n + 29) (w := snB y) (ix0 rfl) PV.int (PO.conf (n := n + 28) (cfB_ok hv) (PL.list (vs := natsV [1 + y % 5]) ⟨PV.var rfl, rfl⟩ (Nat.le_of_ble_eq_true rfl)) (PL.list (vs := natsV [9]) ⟨PV.int, rfl⟩ (Nat.le_of_ble_eq_true rfl)) (PL.list (vs := natsV [1 + y % 5, 8]) ⟨PV.var rfl, PV.int, rfl⟩ (Nat.le_of_ble_eq_true rfl)) (PL.list (vs := natsV [8]) ⟨PV.int, rfl⟩ (Nat.le_of_ble_eq_true rfl))) (ix3 rfl)) rfl W.hr F_815_37 (Nat.le_of_ble_eq_true rfl) fun q υ g hq => ?_
    obtain ⟨w1, w2, w3⟩ := W.snap g hq
    show wpSs _ _ _ _ (upd υ r (.inst 815 ((msgOf d y (some (snB y))).fs L (.ref q)))) _
    generalize upd υ r (.inst 815 ((msgOf d y (some (snB y))).fs L (.ref q))) = τ1 at w1 w2 w3
    refine asgL (vs := natsV [10, 1, 1 + y % 5, 1, 9, 2, 1 + y % 5, 8, 1, 8, 1]) (PL.list ⟨PV.int, PV.int, PV.var rfl, PV.int, PV.int, PV.int, PV.var rfl, PV.int, PV.int, PV.int, PV.int, rfl⟩ (Nat.le_of_ble_eq_true rfl)) fun cl τ2 _ s2 ecl => ?_
    simp only [List.set_cons_succ, List.set_cons_zero]
    have oks := snB_ok y
    have l1 := vb_len10 oks.index
    have l2 := oks.data
    have l3 := Snp.len oks
    have ec : [10, 1, 1 + y % 5, 1, 9, 2, 1 + y % 5, 8, 1, 8, 1] = vb (snB y).conf.octets.length ++ (snB y).conf.octets := by
      have hv2 : vb (1 + y % 5) = [1 + y % 5] := vb_small (by lia)
      simp [snB, cfB, Conf.octets, idsB, vb_small, hv2]
    have eo : vb (snB y).index ++ [0] ++ [10, 1, 1 + y % 5, 1, 9, 2, 1 + y % 5, 8, 1, 8, 1] ++ (vb (snB y).data.length ++ (snB y).data) = (snB y).octets := by
      rw [ec]
      have : vb (snB y).term = [0] := vb_small (show (0 : Nat) < 128 by decide)
      simp [Snp.octets, this]
    have l4 := vb_len5 (n := (snB y).data.length) (by lia)
    have p := addN (addN (addN (PL.vr (n := n + 20) (ix0 (ρ := [some (.ref x), some (.int y), some (.ref hn), x3, some (.ref rw_), some (.bytes (repL (D d 11) (O y))), some (.ref r), some (.ref o), x8, x9, some (.tup (snB y).row), some (.int ((1 + y % 5 : Nat) : Int)), some (.ref cl), none, none, none]) (τ := τ2) rfl) oks.index).r (PL.one (a := 0) PV.int).r (by simp; lia)).r (PR.var (x := 12) rfl ecl) (by simp; lia)).r (PL.text (n := n + 19) (b := (snB y).data) (ix3 rfl) (by lia)).r (by simp; lia)
    rw [eo] at p
    have l5 := vb_len5 (n := (snB y).octets.length) (by lia)
    refine asgL (addN (addN (PR.var rfl (s2 _ _ w3)) (PL.one (a := 1) PV.int).r (by simp; lia)).r (PL.textL (n := n + 19) p.r (by lia)).r (by simp; lia)) fun o' τ' _ s' e' => ?_
    simp only [List.set_cons_succ, List.set_cons_zero]
    have eb : wB0 d y ++ [1] ++ (vb (snB y).octets.length ++ (snB y).octets) = wB0 d y ++ snpB (some (snB y)) := by simp [snpB]
    rw [eb] at e'
    have s3 := s2.trans s'
    exact word_tail (m := msgOf d y (some (snB y))) (B := wB0 d y ++ snpB (some (snB y))) (msgOk ok fun s h => by cases h; exact snB_ok y) (s0.trans (w2.trans s3)) (w1.sub s3) (s3 _ _ (w2 _ _ e2)) (s3 _ _ (w2 _ _ e4)) e' (wB_octets (sn := some (snB y)) ok) (fun s h => h8 ((w2.trans s3).trans s) h) h
end Mine
end
section
set_option tactic.hygienic false
set_option backward.match.sparseCases false
set_option maxRecDepth 10000
set_option linter.all false
namespace Mine
variable {con : Nat → Option (List V)} {σ : Hp} {n : Nat} {ρ : Rho} {ss : List S}
theorem ManAt.sub {σ τ : Hp} {r : Nat} {m : Man} (h : ManAt σ r m) (g : Sub σ τ) : ManAt τ r m := by
  obtain ⟨L, rs, h1, h2, h3⟩ := h
  exact ⟨L, rs, g _ _ h1, g _ _ h2, h3.mono fun x fs hx => g _ _ hx⟩
theorem man_pure (m : Man) : pureV 8 (.tup m.row) = true := by
  simp [pureV, Man.row, Run.row]
/-- RunInfo(r[0], .., r[4]) for r in runs -/
theorem run_comp {s : V} {all : List V} {test : V → Hp → (Bool → Hp → Prop) → Prop} (ht : ∀ v σ Q, Q true σ → test v σ Q) {x : Nat} (hx : ∀ v, Rho.get (ρ.set x (some v)) x = some v) (hi : ∀ τ, Sub σ τ → itemsOf τ s = some all) {Q : List V → Hp → Prop} : ∀ (es done : List Run) (rs : List Nat) (τ : Hp), Sub σ τ → RunsAt τ rs done → done.length + es.length ≤ 100 → (∀ rs τ, Sub σ τ → RunsAt τ rs (done ++ es) → Q (refs rs) τ) →
    compLoop s all test (fun v σ Q => wpE (progT con) (callN (progT con) progP (n + 1)) (.new 460 [.idx (.var x) (.int 0), .idx (.var x) (.int 1), .idx (.var x) (.int 2), .idx (.var x) (.int 3), .idx (.var x) (.int 4)]) (ρ.set x (some v)) σ Q) (es.map fun e => .tup e.row) (refs rs) τ Q := by
  intro es
  induction es with
  | nil =>
    exact fun done rs τ t h _ hq => ⟨hi τ t, hq rs τ t (by simpa using h)⟩
  | cons e es ih =>
    intro done rs τ t h hl hq
    refine ⟨hi τ t, ht _ _ _ ?_⟩
    rw [if_pos rfl]
    simp at hl
    have ix : ∀ (i : Nat) {v : V}, e.row[i]? = some v → PV con (n + 1) (.idx (.var x) (.int i)) (ρ.set x (some (.tup e.row))) τ v := fun i v hv => PV.idxT (PV.var (hx _)) PV.nat (Nat.le_of_ble_eq_true rfl) hv
    have pvs : PVs con (n + 1) [.idx (.var x) (.int 0), .idx (.var x) (.int 1), .idx (.var x) (.int 2), .idx (.var x) (.int 3), .idx (.var x) (.int 4)] (ρ.set x (some (.tup e.row))) τ e.row := ⟨ix 0 rfl, ix 1 rfl, ix 2 rfl, ix 3 rfl, ix 4 rfl, rfl⟩
    refine pvs.run τ (Sub.refl _) _ (c_443 e fun q hq' => ⟨by rw [refs_len, h.len]; unfold lim; lia, ?_⟩)
    rw [show refs rs ++ [V.ref q] = refs (rs ++ [q]) by simp [refs]]
    have t' : Sub τ (upd τ q (.inst 460 e.fs)) := Sub.put (Sub.refl _) hq'
    exact ih (done ++ [e]) (rs ++ [q]) _ (t.trans t') (RunsAt.snoc (h.mono fun x fs hx => t' _ _ hx) (upd_at ..)) (by simp; lia) fun rs τ t h => hq rs τ t (by simpa using h)
theorem PO.man {e1 e2 e3 e4 it : E} {x R : Nat} {m : Man} (h1 : PV con (n + 1) e1 ρ σ (.int m.index)) (h2 : PV con (n + 1) e2 ρ σ (.int m.term)) (h3 : PV con (n + 1) e3 ρ σ (.bytes m.conf)) (h4 : PV con (n + 1) e4 ρ σ (.int m.seq)) (h5 : PV con (n + 1) it ρ σ (.ref R)) (hR : σ R = some (.lst (m.runs.map fun e => .tup e.row))) (hl : m.runs.length ≤ 10) (hx : ∀ v, Rho.get (ρ.set x (some v)) x = some v) :
    PO con (n + 1) (.new 495 [e1, e2, e3, e4, .comp (.new 460 [.idx (.var x) (.int 0), .idx (.var x) (.int 1), .idx (.var x) (.int 2), .idx (.var x) (.int 3), .idx (.var x) (.int 4)]) x it []]) ρ σ (fun r υ => ManAt υ r m) := fun τ s Q hq => by
  refine h1 τ s _ ?_
  refine h2 τ s _ ?_
  refine h3 τ s _ ?_
  refine h4 τ s _ ?_
  have hi : ∀ υ, Sub τ υ → itemsOf υ (.ref R) = some (m.runs.map fun e => V.tup e.row) := fun υ t => by simp [itemsOf, t _ _ (s _ _ hR)]
  refine h5 τ s _ ⟨_, hi τ (Sub.refl _), by simp; unfold lim; lia, ?_⟩
  refine run_comp (σ := τ) (n := n) (fun v σ Q h => by exact h) hx hi m.runs [] [] τ (Sub.refl _) trivial (by simp; lia) fun rs υ t h L hL => ?_
  have t2 : Sub υ (upd υ L (.lst (refs rs))) := Sub.put (Sub.refl _) hL
  refine c_478 m fun r hr => ?_
  have t3 : Sub (upd υ L (.lst (refs rs))) (upd (upd υ L (.lst (refs rs))) r (.inst 495 (m.fs L))) := Sub.put (Sub.refl _) hr
  exact hq r _ ((t.trans t2).trans t3) ⟨L, rs, upd_at .., t3 _ _ (upd_at ..), h.mono fun x fs hx => t3 _ _ (t2 _ _ hx)⟩
/-- x = a thing made -/
theorem asgO {k : Nat} {e : E} {Q : K2} {P : Nat → Hp → Prop} (h : PO con n e ρ σ P)
    (g : ∀ r τ, Sub σ τ → P r τ → wpSs (progT con) (callN (progT con) progP n) ss (ρ.set k (some (.ref r))) τ Q) : wpSs (progT con) (callN (progT con) progP n) (.asg k e :: ss) ρ σ Q := by
  refine seq_step fun R hR => ?_
  refine h σ (Sub.refl _) _ fun r τ s p => ?_
  simp only
  rw [hR]; exact g r τ s p
noncomputable def rG (y : Nat) : Run := ⟨11, G (y / 2), y * 4294967 % 4294967296, O (y / 3), []⟩
noncomputable def rA : Run := ⟨0, 0, 0, [], []⟩
noncomputable def rK : Run := ⟨0, 0, 0, [], [107]⟩
noncomputable def runsOf (d : List Nat) (y : Nat) : List Run := said (D d 4) [] [rA] [rG y, rK]
noncomputable def nobody : List Nat := [0, 0, 0, 0, 0]
noncomputable def confOf (d : List Nat) (y : Nat) : List Nat := said (D d 3) [] nobody (O y)
noncomputable def manOf (d : List Nat) (y : Nat) : Man := ⟨wN d y 0, wN d y 1, confOf d y, wN d y 2, runsOf d y⟩
structure DTold (d : List Nat) : Prop where
  len : d.length = 5
  lo : ∀ i, i < 3 → D d i < 2
  d3 : D d 3 < 3
  d4 : D d 4 < 3
theorem nobody_eq : cfA.octets = nobody := by
  simp [cfA, Conf.octets, idsB, vb_small, nobody]
theorem rG_ok (y : Nat) : (rG y).ok := ⟨by show (11 : Nat) < 12; decide, by have := G_le (y / 2); show G (y / 2) < 2 ^ 64; lia, by show y * 4294967 % 4294967296 < 2 ^ 32; lia, by have := O_le (y / 3); show (O (y / 3)).length ≤ 10000; lia, by show (0 : Nat) ≤ 10000; decide⟩
theorem rA_ok : rA.ok := ⟨by decide, by decide, by decide, by decide, by decide⟩
theorem rK_ok : rK.ok := ⟨by decide, by decide, by decide, by decide, by decide⟩
theorem runsOf_ok (d : List Nat) (y : Nat) : (runsOf d y).length ≤ 2 ∧ ∀ e ∈ runsOf d y, e.ok := by
  unfold runsOf said
  split
  · simp
  · exact ⟨by simp, by simp; exact rA_ok⟩
  · exact ⟨by simp, by simp; exact ⟨rG_ok y, rK_ok⟩⟩
theorem confOf_le (d : List Nat) (y : Nat) : (confOf d y).length ≤ 130 := by
  unfold confOf said
  split
  · simp
  · decide
  · exact O_le y
theorem manOk {d : List Nat} {y : Nat} (h : DTold d) : (manOf d y).ok := by
  refine ⟨wN_lt (h.lo 0 (by decide)), wN_lt (h.lo 1 (by decide)), ?_, ?_, ?_, (runsOf_ok d y).2⟩
  · have := confOf_le d y
    show (confOf d y).length ≤ 10000
    lia
  · have := mulG (k := 0) (y := y / 6 ^ 2) (h.lo 2 (by decide))
    exact this
  · have := (runsOf_ok d y).1
    show (runsOf d y).length ≤ 10
    lia
end Mine
end
section
set_option tactic.hygienic false
set_option backward.match.sparseCases false
set_option maxRecDepth 10000
set_option linter.all false
namespace Mine
variable {con : Nat → Option (List V)} {σ : Hp} {n : Nat} {ρ : Rho} {ss : List S}
section
variable {x0 x1 x2 x3 x4 x5 x6 x8 x10 x11 x12 x13 : Option V} {src : V} {all : List V} {Q : K2}
noncomputable abbrev t7Body : List S := [.asg 9 (.bin .add (.bin .add (.bin .add (.var 9) (.list [.idx (.var 7) (.int 0)])) (.call 868 [.idx (.var 7) (.int 1)])) (.comp (.bin .mod (.bin .fdiv (.idx (.var 7) (.int 2)) (.bin .pow (.int 256) (.var 13))) (.int 256)) 13 (.bi .range [.int 4]) [])), .asg 9 (.bin .add (.bin .add (.var 9) (.call 875 [.idx (.var 7) (.int 3)])) (.call 875 [.idx (.var 7) (.int 4)]))]
theorem t7_step {e : Run} {acc : List Nat} {o : Nat} {τ : Hp} (oe : e.ok) (ho : τ o = some (.lst (natsV acc))) (hl : acc.length ≤ 300000)
    (h : ∀ o τ', Sub τ τ' → τ' o = some (.lst (natsV (acc ++ runB e))) → Q .next [x0, x1, x2, x3, x4, x5, x6, some (.tup e.row), x8, some (.ref o), x10, x11, x12, x13] τ') :
    wpSs (progT con) (callN (progT con) progP (n + 30)) t7Body [x0, x1, x2, x3, x4, x5, x6, some (.tup e.row), x8, some (.ref o), x10, x11, x12, x13] τ Q := by
  have le := runB_len oe
  have ix : ∀ {ρ : Rho} {τ : Hp} (i : Nat) {v : V}, ρ.get 7 = some (.tup e.row) → e.row[i]? = some v → PV con (n + 30) (.idx (.var 7) (.int i)) ρ τ v := fun i v hr hv => PV.idxT (PV.var hr) PV.nat (Nat.le_of_ble_eq_true rfl) hv
  obtain ⟨o1, o2, o3, o4, o5⟩ := oe
  have l2 := vb_len10 o2
  have l4 := vb_len5 (n := e.small.length) (by lia)
  have l5 := vb_len5 (n := e.large.length) (by lia)
  have ef : (List.range 4).map (fun j => V.int ((e.check / 256 ^ (0 + j) % 256 : Nat) : Int)) = natsV (f32 e.check) := by
    show natsV [e.check / 256 ^ 0 % 256, e.check / 256 ^ 1 % 256, e.check / 256 ^ 2 % 256, e.check / 256 ^ 3 % 256] = _
    congr 1
    simp [f32]
    lia
  have pc : PL con (n + 30) (.comp (.bin .mod (.bin .fdiv (.idx (.var 7) (.int 2)) (.bin .pow (.int 256) (.var 13))) (.int 256)) 13 (.bi .range [.int 4]) []) [x0, x1, x2, x3, x4, x5, x6, some (.tup e.row), x8, some (.ref o), x10, x11, x12, x13] τ (natsV (f32 e.check)) := by
    rw [← ef]
    refine PL.compR (lo := 0) (k := 4) (PV.range1 (k := 4) (by decide)) (by decide) fun j hj => ?_
    exact PV.modN (PV.fdivN (ix 2 rfl rfl) (PV.powN (PV.nat (i := 256)) (PV.var rfl) (by decide) (by lia)) (Nat.pow_pos (by decide)) (by
      have : 256 ^ (0 + j) ≤ 256 ^ 3 := Nat.pow_le_pow_right (by decide) (by lia)
      lia)) (PV.nat (i := 256)) (by decide)
  refine asgL (addN (addN (addN (PR.var rfl ho) (PL.one (ix 0 rfl rfl)).r (by simp; lia)).r (PL.vr (n := n + 20) (ix 1 rfl rfl) o2).r (by simp; lia)).r pc.r (by simp [f32_len]; lia)) fun o1' τ1 _ s1 e1 => ?_
  simp only [List.set_cons_succ, List.set_cons_zero]
  refine asgL (addN (addN (PR.var rfl e1) (PL.text (n := n + 19) (b := e.small) (ix 3 rfl rfl) (by lia)).r (by simp [f32_len]; lia)).r (PL.text (n := n + 19) (b := e.large) (ix 4 rfl rfl) (by lia)).r (by simp [f32_len]; lia)) fun o2' τ2 _ s2 e2 => ?_
  simp only [List.set_cons_succ, List.set_cons_zero]
  have eb : acc ++ [e.level] ++ vb e.size ++ f32 e.check ++ (vb e.small.length ++ e.small) ++ (vb e.large.length ++ e.large) = acc ++ runB e := by
    have : vb e.level = [e.level] := vb_small (by lia)
    simp [runB, this]
  rw [eb] at e2
  exact h _ _ (s1.trans s2) e2
theorem t7_loop (hsrc : ∀ τ, Sub σ τ → itemsOf τ src = some all) : ∀ (es : List Run) (acc : List Nat) (o : Nat) (o7 : Option V) (τ : Hp), (∀ e ∈ es, e.ok) → Sub σ τ → τ o = some (.lst (natsV acc)) → acc.length + 20040 * es.length ≤ 300000 →
    (∀ o o7 τ, Sub σ τ → τ o = some (.lst (natsV (acc ++ (es.map runB).flatten))) → Q .next [x0, x1, x2, x3, x4, x5, x6, o7, x8, some (.ref o), x10, x11, x12, x13] τ) →
    forLoop src all (fun v ρ σ Q => wpSs (progT con) (callN (progT con) progP (n + 30)) t7Body (ρ.set 7 (some v)) σ Q) (es.map fun e => .tup e.row) [x0, x1, x2, x3, x4, x5, x6, o7, x8, some (.ref o), x10, x11, x12, x13] τ Q := by
  intro es
  induction es with
  | nil => exact fun acc o o7 τ _ s ho _ hQ => for_end (hsrc τ s) (hQ o o7 τ s (by simpa using ho))
  | cons e es ih =>
    intro acc o o7 τ ok s ho hl hQ
    have oe := ok e (.head _)
    have le := runB_len oe
    simp at hl
    refine for_turn (hsrc τ s) fun R hR => ?_
    simp only [List.set_cons_succ, List.set_cons_zero]
    refine t7_step oe ho (by lia) fun o τ' s' e' => ?_
    refine ⟨_, Sub.refl _, ?_⟩
    rw [hR]
    refine ih (acc ++ runB e) o _ τ' (fun x hx => ok x (.tail _ hx)) (s.trans s') e' (by simp; lia) fun o o7 τ s e => ?_
    exact hQ o o7 τ s (by simpa using e)
end
end Mine
end
section
set_option tactic.hygienic false
set_option backward.match.sparseCases false
set_option maxRecDepth 10000
set_option linter.all false
namespace Mine
variable {con : Nat → Option (List V)} {σ : Hp} {n : Nat} {ρ : Rho} {ss : List S}
theorem PO.arg {f : Nat} {e : E} {v : V} {P : Nat → Hp → Prop} (h : PO con n e ρ σ P) (g : ∀ r υ, P r υ → ∀ Q : K1, Q v υ → callN (progT con) progP n f [.ref r] υ Q) : PA con n (.call f [e]) ρ σ v := fun τ s Q hq => by
  refine h τ s _ fun r υ t p => ?_
  exact g r υ p _ (hq υ t)
/-- _law_told -/
theorem c_892 {Q : K1} {x y : Nat} {d : List Nat} (hx : σ x = some (.lst (natsV d))) (ok : DTold d) (hy : y < 2 ^ 64) (h : Q (.bool true) σ) : callN (progT con) progP (n + 31) 892 [.ref x, .int y] σ Q := by
  refine call_intro (d := ⟨2, 14, b_892, []⟩) rfl (Nat.le_refl 2) (Nat.le_refl 2) ?_
  show wpSs _ _ b_892 [some (.ref x), some (.int y), none, none, none, none, none, none, none, none, none, none, none, none] _ _
  have dg : ∀ {ρ : Rho} {τ : Hp} (i : Nat), Sub σ τ → ρ.get 0 = some (.ref x) → i < 5 → PV con (n + 30) (.idx (.var 0) (.int i)) ρ τ (.int (D d i)) := fun i s h hi => PV.d h (s _ _ hx) PV.nat (by rw [ok.len]; exact hi) (by rw [ok.len]; decide)
  have z0 : ∀ {ρ : Rho} {τ : Hp}, PL con (n + 30) (.list []) ρ τ (natsV []) := PL.list (es := []) rfl (Nat.le_of_ble_eq_true rfl)
  refine asgA (v := .bytes nobody) (PO.arg (PO.conf (n := n + 28) (c := cfA) cfA_ok z0 z0 z0 z0) fun r υ p Q hq => c_723 (n := n + 25) cfA_ok p (by rw [nobody_eq]; exact hq)) fun τ0 s0 => ?_
  simp only [List.set_cons_succ, List.set_cons_zero]
  refine NB.ite (NB.ne (v := .bytes nobody) (PV.a (PV.var rfl)) (PV.a (fun τ s Q hq => by
    refine u_bi (ul_cons (u_int (ul_nil ?_)))
    rw [L21]
    exact ⟨by decide, by decide, hq⟩)) rfl) fun τ1 s1 => ?_
  have t1 := s0.trans s1
  have ecf : said (D d 3) (V.bytes []) (V.bytes nobody) (V.bytes (O y)) = V.bytes (confOf d y) := by unfold confOf; rw [said_map V.bytes]
  have pcf := PV.idxT (con := con) (n := n + 30) (ρ := [some (.ref x), some (.int y), some (.bytes nobody), none, none, none, none, none, none, none, none, none, none, none]) (σ := τ1) (e := .tup [.bytes [], .var 2, .call 854 [.var 1]]) (PV.tup (vs := [.bytes [], .bytes nobody, .bytes (O y)]) ⟨PV.bytes, PV.var rfl, PV.octs (n := n + 29) (PV.var rfl), rfl⟩ (Nat.le_of_ble_eq_true rfl)) (dg 3 t1 rfl (by decide)) (Nat.le_of_ble_eq_true rfl) (said_ix ok.d3 ..)
  rw [ecf] at pcf
  refine asgV pcf ?_
  simp only [List.set_cons_succ, List.set_cons_zero]
  clear pcf ecf
  refine asgV (v := .tup (rG y).row) (PV.tup ⟨PV.int, PV.great (n := n + 29) (PV.y rfl (by decide) (by decide)), PV.modN (PV.mulN (PV.var rfl) (PV.nat (i := 4294967)) hy (by decide)) (PV.nat (i := 4294967296)) (by decide), PV.octs (n := n + 29) (PV.y rfl (by decide) (by decide)), PV.bytes, rfl⟩ (Nat.le_of_ble_eq_true rfl)) ?_
  simp only [List.set_cons_succ, List.set_cons_zero]
  have hrow : ((runsOf d y).map fun e => V.tup e.row) = said (D d 4) [] [.tup rA.row] [.tup (rG y).row, .tup rK.row] := by
    unfold runsOf; rw [said_map (fun l : List Run => l.map fun e => V.tup e.row)]; rfl
  have p3 := PL.sel3 (con := con) (n := n + 30) (ρ := [some (.ref x), some (.int y), some (.bytes nobody), some (.bytes (confOf d y)), some (.tup (rG y).row), none, none, none, none, none, none, none, none, none]) (σ := τ1) (va := []) (vb := [.tup rA.row]) (vc := [.tup (rG y).row, .tup rK.row])
    (PL.list (es := []) rfl (Nat.le_of_ble_eq_true rfl)) (PL.list (es := [.tup [.int 0, .int 0, .int 0, .bytes [], .bytes []]]) ⟨PV.tup ⟨PV.int, PV.int, PV.int, PV.bytes, PV.bytes, rfl⟩ (Nat.le_of_ble_eq_true rfl), rfl⟩ (Nat.le_of_ble_eq_true rfl)) (PL.list (es := [.var 4, .tup [.int 0, .int 0, .int 0, .bytes [], .bytes [107]]]) ⟨PV.var rfl, PV.tup ⟨PV.int, PV.int, PV.int, PV.bytes, PV.bytes, rfl⟩ (Nat.le_of_ble_eq_true rfl), rfl⟩ (Nat.le_of_ble_eq_true rfl)) (dg 4 t1 rfl (by decide)) ok.d4
  rw [← hrow] at p3
  refine asgL p3 fun rw_ τ2 _ s2 e2 => ?_
  simp only [List.set_cons_succ, List.set_cons_zero]
  clear p3 hrow
  have t2 := t1.trans s2
  have p6 : PL con (n + 30) (.comp (.bin .mul (.idx (.var 0) (.var 13)) (.call 847 [.bin .fdiv (.var 1) (.bin .pow (.int 6) (.var 13))])) 13 (.bi .range [.int 3]) []) [some (.ref x), some (.int y), some (.bytes nobody), some (.bytes (confOf d y)), some (.tup (rG y).row), some (.ref rw_), none, none, none, none, none, none, none, none] τ2 (natsV [wN d y 0, wN d y 1, wN d y 2]) := by
    have := PL.compR (con := con) (n := n + 30) (ρ := [some (.ref x), some (.int y), some (.bytes nobody), some (.bytes (confOf d y)), some (.tup (rG y).row), some (.ref rw_), none, none, none, none, none, none, none, none]) (σ := τ2) (x := 13) (elt := .bin .mul (.idx (.var 0) (.var 13)) (.call 847 [.bin .fdiv (.var 1) (.bin .pow (.int 6) (.var 13))])) (lo := 0) (k := 3) (g := fun j => .int (wN d y (0 + j))) (PV.range1 (k := 3) (by decide)) (by decide) fun j hj => PV.dG (n := n + 29) (PV.d rfl (t2 _ _ hx) (PV.var rfl) (by rw [ok.len]; lia) (by rw [ok.len]; decide)) (ok.lo _ (by lia)) (PV.fdivN (PV.var rfl) (PV.powN (PV.nat (i := 6)) (PV.var rfl) (by decide) (by lia)) (Nat.pow_pos (by decide)) (by
      have : 6 ^ (0 + j) ≤ 6 ^ 7 := Nat.pow_le_pow_right (by decide) (by lia)
      lia))
    exact this
  refine asgL p6 fun hd τ3 _ s3 e3 => ?_
  simp only [List.set_cons_succ, List.set_cons_zero]
  clear p6
  have t3 := t2.trans s3
  have e2' := s3 _ _ e2
  have mok := manOk (y := y) ok
  have ix : ∀ {ρ : Rho} {τ : Hp} (i v : Nat), Sub τ3 τ → ρ.get 6 = some (.ref hd) → [wN d y 0, wN d y 1, wN d y 2][i]? = some v → PV con (n + 30) (.idx (.var 6) (.int i)) ρ τ (.int v) := fun i v s hr hv => PV.i0 hr (s _ _ e3) hv (by simp)
  have mi : (manOf d y).index = wN d y 0 := rfl
  have mt : (manOf d y).term = wN d y 1 := rfl
  have ms : (manOf d y).seq = wN d y 2 := rfl
  have mc : (manOf d y).conf = confOf d y := rfl
  have mr : (manOf d y).runs = runsOf d y := rfl
  rw [← mr] at e2'
  rw [← mi, ← mt, ← ms] at ix
  have hcf : D d 3 = 1 → (manOf d y).conf = nobody := fun e => by rw [mc]; unfold confOf; rw [e]; rfl
  rw [← mc]
  generalize manOf d y = m at ix mok e2' hcf
  clear mi mt ms mc mr
  refine asgO (PO.man (n := n + 29) (m := m) (ix 0 _ (Sub.refl _) rfl rfl) (ix 1 _ (Sub.refl _) rfl rfl) (PV.var rfl) (ix 2 _ (Sub.refl _) rfl rfl) (PV.var rfl) e2' mok.few fun v => rfl) fun q τ4 s4 hm => ?_
  simp only [List.set_cons_succ, List.set_cons_zero]
  have lo := Man.len mok
  have l1 := vb_len10 mok.index
  have l2 := vb_len10 mok.term
  have lsq := mok.seq
  have l3 := vb_len10 (n := m.seq) (by lia)
  have lcf := mok.conf
  have l4 := vb_len5 (n := m.conf.length) (by lia)
  have lrn := mok.few
  have rwl : (m.runs.map fun e => V.tup e.row).length = m.runs.length := by simp
  have pl : PV con (n + 30) (.bi .len [.var 5]) [some (.ref x), some (.int y), some (.bytes nobody), some (.bytes m.conf), some (.tup (rG y).row), some (.ref rw_), some (.ref hd), none, some (.ref q), none, none, none, none, none] τ4 (.int m.runs.length) := by
    have := PV.lenL (con := con) (n := n + 30) (PV.var (ρ := [some (.ref x), some (.int y), some (.bytes nobody), some (.bytes m.conf), some (.tup (rG y).row), some (.ref rw_), some (.ref hd), none, some (.ref q), none, none, none, none, none]) (x := 5) rfl) (s4 _ _ e2') (by rw [rwl]; unfold lim; lia)
    rwa [rwl] at this
  refine asgL (addN (addN (addN (addN (PL.vr (n := n + 20) (ix 0 _ s4 rfl rfl) mok.index).r (PL.vr (n := n + 20) (ix 1 _ s4 rfl rfl) mok.term).r (by lia)).r (PL.vr (n := n + 20) (ix 2 _ s4 rfl rfl) (by lia)).r (by simp; lia)).r (PL.text (n := n + 19) (b := m.conf) (PV.var rfl) (by lia)).r (by simp; lia)).r (PL.one pl).r (by simp; lia)) fun o τ5 _ s5 e5 => ?_
  simp only [List.set_cons_succ, List.set_cons_zero]
  have s45 := s4.trans s5
  refine seq_step fun R hR => ?_
  refine ⟨_, rfl, m.runs.map fun e => V.tup e.row, by simp [itemsOf, s45 _ _ e2'], by rw [rwl]; unfold lim; lia, ?_⟩
  refine t7_loop (σ := τ5) (n := n) (fun τ s => by simp [itemsOf, s _ _ (s45 _ _ e2')]) m.runs _ o none τ5 mok.each (Sub.refl _) e5 ?_ fun o' o7 τ6 s6 e6 => ?_
  · have : ((m.runs.map runB).flatten).length ≤ 20040 * m.runs.length := runs_tot _ mok.each
    simp; lia
  simp only
  rw [hR]; clear hR R
  have eo : vb m.index ++ vb m.term ++ vb m.seq ++ (vb m.conf.length ++ m.conf) ++ [m.runs.length] ++ (m.runs.map runB).flatten = m.octets := by
    have : vb m.runs.length = [m.runs.length] := vb_small (by lia)
    simp [Man.octets, this]
  rw [eo] at e6
  have s46 := s45.trans s6
  refine asgV (v := .tup m.row) (PV.tup ⟨ix 0 _ s46 rfl rfl, ix 1 _ s46 rfl rfl, PV.var rfl, ix 2 _ s46 rfl rfl, PV.tupL (PV.var rfl) (s46 _ _ e2') (by rw [rwl]; unfold lim; lia), rfl⟩ (Nat.le_of_ble_eq_true rfl)) ?_
  simp only [List.set_cons_succ, List.set_cons_zero]
  have hm' := hm.sub (s5.trans s6)
  obtain ⟨L, rs, h1, h2, h3⟩ := id hm'
  refine asgV (v := .bytes m.octets) (PV.meth (PV.var rfl) h1 M_495_49 rfl fun τ s Q hq => c_492 (n := n + 26) mok (hm'.sub s) hq) ?_
  simp only [List.set_cons_succ, List.set_cons_zero]
  refine NB.ite (NB.or2 (NB.ne (PV.a (PV.meth (PV.var rfl) h1 M_495_48 rfl fun τ s Q hq => c_485 (n := n + 28) mok (hm'.sub s) hq)) (PV.a (PV.var rfl)) (man_pure m)) (NB.neL (PL.listB (b := m.octets) (PV.var rfl) (by unfold lim; lia)).r (PR.var rfl e6) (nats_pure _))) fun τ7 s7 => ?_
  refine asgO (P := fun r υ => ManAt υ r m) (PO.call (vs := [.bytes m.octets]) ⟨PV.var rfl, rfl⟩ fun τ s Q g => c_506 (n := n + 24) mok fun r υ _ su hu => g r υ su hu) fun b τ8 s8 hb => ?_
  simp only [List.set_cons_succ, List.set_cons_zero]
  obtain ⟨L', rs', g1, g2, g3⟩ := id hb
  refine NB.ite (NB.ne (PV.a (PV.meth (PV.var rfl) g1 M_495_48 rfl fun τ s Q hq => c_485 (n := n + 28) mok (hb.sub s) hq)) (PV.a (PV.var rfl)) (man_pure m)) fun τ9 s9 => ?_
  have tf : Sub σ τ9 := ((((t3.trans s46).trans s7).trans s8).trans s9)
  refine retA (v := .bool true) (fun τ s Q hq => ?_) tf h
  refine dg 3 (tf.trans s) rfl (by decide) τ (Sub.refl _) _ ?_
  refine u_int ?_
  rw [L35]
  show truthP (.bool _) τ _
  rw [L11]
  by_cases c : D d 3 = 1
  · rw [decide_eq_true (by lia : (D d 3 : Int) = 1)]
    rw [if_pos (by decide)]
    have hcn := hcf c
    refine PA.eq (v := .tup cfA.row) (PO.meth (P := fun r υ => ConfAt υ r cfA) (e := .call 730 [.attr (.var 12) 19]) (fun τ' s' Q' hq' => ?_) fun r υ p => ?_) (PV.a (PV.tup (es := [.tup [], .tup [], .tup [], .tup [], .bool false]) ⟨PV.tup (vs := []) rfl (Nat.le_of_ble_eq_true rfl), PV.tup (vs := []) rfl (Nat.le_of_ble_eq_true rfl), PV.tup (vs := []) rfl (Nat.le_of_ble_eq_true rfl), PV.tup (vs := []) rfl (Nat.le_of_ble_eq_true rfl), PV.bool, rfl⟩ (Nat.le_of_ble_eq_true rfl))) rfl τ (Sub.refl _) _ hq
    · refine u_call (ul_cons (u_attr (u_var ⟨_, rfl, ?_⟩)))
      rw [L33, s' _ _ (s _ _ (s9 _ _ g1))]
      refine ⟨F_495_19, _, rfl, ul_nil ?_⟩
      rw [hcn, ← nobody_eq]
      exact c_730 (n := n + 24) cfA_ok fun r υ _ su hu => hq' r υ su hu
    · obtain ⟨a1, a2, a3, a4, b1, _⟩ := id p
      exact ⟨_, _, _, b1, M_698_48, rfl, fun Q hq => c_688 (n := n + 29) cfA_ok p hq⟩
  · rw [decide_eq_false (by lia : ¬ (D d 3 : Int) = 1)]
    rw [if_neg (by decide)]
    exact hq τ (Sub.refl _)
end Mine
end
section
set_option tactic.hygienic false
set_option backward.match.sparseCases false
set_option maxRecDepth 10000
set_option linter.all false
namespace Mine
variable {con : Nat → Option (List V)} {σ : Hp} {n : Nat} {ρ : Rho} {ss : List S}
theorem testIsnt {e : E} {v : V} {b : Bool} {Q : Bool → Hp → Prop} (h : PV con n e ρ σ v) (hb : (!v.isNil) = b) (hq : Q b σ) : wpB (progT con) (callN (progT con) progP n) (.cmp .isnt e .none) ρ σ Q := by
  refine ub_cmp ?_
  refine h σ (Sub.refl _) _ ?_
  refine u_none ?_
  rw [L41, hb]
  exact ⟨rfl, hq⟩
structure Fq (β : Hp) (r P D A : Nat) : Prop where
  r : β r = none
  p : β P = none
  d : β D = none
  a : β A = none
  pd : P ≠ D
  pa : P ≠ A
  da : D ≠ A
structure Nq (o P D A : Nat) : Prop where
  p : o ≠ P
  d : o ≠ D
  a : o ≠ A
theorem EdAt.nq {τ : Hp} {r P D A o : Nat} {as : List Nat} {e : Edit} (h : EdAt τ r P D A as e) (ho : τ o = none) : Nq o P D A := ⟨(ne_of_free h.p ho).symm, (ne_of_free h.d ho).symm, (ne_of_free h.a ho).symm⟩
section
variable {x0 x1 x2 x3 x4 x5 x6 x7 x8 x9 x11 x12 x13 x14 x15 x16 x17 : Option V} {Q : K2} {o w : Nat} {acc : List Nat} {ws : List V}
theorem e15 {v : Option (List Nat)} (hw : σ w = some (.lst ws)) (hl : ws.length ≤ 10) (hv : ws[0]? = some (optV v)) (ho : σ o = some (.lst (natsV acc))) (hv' : ∀ c, v = some c → c.length ≤ 10000) (ha : acc.length ≤ 400000)
    (h : ∀ o' τ, Sub σ τ → (o' = o ∨ σ o' = none) → τ o' = some (.lst (natsV (acc ++ itsB (v.toList.map .comp)))) → wpSs (progT con) (callN (progT con) progP (n + 30)) ss [x0, x1, x2, some (.ref w), x4, x5, x6, x7, x8, x9, some (.ref o'), x11, x12, x13, x14, x15, x16, x17] τ Q) :
    wpSs (progT con) (callN (progT con) progP (n + 30)) (.ite (.cmp .isnt (.idx (.var 3) (.int 0)) .none) [.asg 10 (.bin .add (.bin .add (.var 10) (.list [.int 1])) (.call 875 [.idx (.var 3) (.int 0)]))] [] :: ss) [x0, x1, x2, some (.ref w), x4, x5, x6, x7, x8, x9, some (.ref o), x11, x12, x13, x14, x15, x16, x17] σ Q := by
  have ix : PV con (n + 30) (.idx (.var 3) (.int 0)) [x0, x1, x2, some (.ref w), x4, x5, x6, x7, x8, x9, some (.ref o), x11, x12, x13, x14, x15, x16, x17] σ (optV v) := PV.idxL (PV.var rfl) hw (PV.nat (i := 0)) (by unfold lim; lia) hv
  induction v using Option.casesOn with
  | none =>
    refine ite_step false (fun Q hq => testIsnt ix rfl hq) ?_
    exact h o σ (Sub.refl _) (.inl rfl) (by simpa [itsB] using ho)
  | some c =>
    have lc := hv' c rfl
    have l4 := vb_len5 (n := c.length) (by lia)
    refine ite_step true (fun Q hq => testIsnt ix rfl hq) ?_
    refine asgL (addN (addN (PR.var rfl ho) (PL.one (a := 1) PV.int).r (by simp; lia)).r (PL.text (n := n + 19) (b := c) ix (by lia)).r (by simp; lia)) fun o' τ hf s e => ?_
    simp only [List.set_cons_succ, List.set_cons_zero]
    exact h o' τ s (.inr hf) (by simpa [itsB, It.oct] using e)
theorem e16 {v : Option Nat} {i : Nat} {mk : Nat → It} (hw : σ w = some (.lst ws)) (hl : ws.length ≤ 10) (hv : ws[i]? = some (numV v)) (ho : σ o = some (.lst (natsV acc))) (hv' : ∀ c, v = some c → c < 2 ^ 64) (ha : acc.length ≤ 400000) (hm : ∀ c, (mk c).oct = (i + 1) :: vb c)
    (h : ∀ o' τ, Sub σ τ → (o' = o ∨ σ o' = none) → τ o' = some (.lst (natsV (acc ++ itsB (v.toList.map mk)))) → Q .next [x0, x1, some (.int i), some (.ref w), x4, x5, x6, x7, x8, x9, some (.ref o'), x11, x12, x13, x14, x15, x16, x17] τ) :
    wpSs (progT con) (callN (progT con) progP (n + 30)) [.ite (.cmp .isnt (.idx (.var 3) (.var 2)) .none) [.asg 10 (.bin .add (.bin .add (.var 10) (.list [.bin .add (.var 2) (.int 1)])) (.call 868 [.idx (.var 3) (.var 2)]))] []] [x0, x1, some (.int i), some (.ref w), x4, x5, x6, x7, x8, x9, some (.ref o), x11, x12, x13, x14, x15, x16, x17] σ Q := by
  have ix : PV con (n + 30) (.idx (.var 3) (.var 2)) [x0, x1, some (.int i), some (.ref w), x4, x5, x6, x7, x8, x9, some (.ref o), x11, x12, x13, x14, x15, x16, x17] σ (numV v) := PV.idxL (PV.var rfl) hw (PV.var rfl) (by unfold lim; lia) hv
  induction v using Option.casesOn with
  | none =>
    refine ite_step false (fun Q hq => testIsnt ix rfl hq) ?_
    exact h o σ (Sub.refl _) (.inl rfl) (by simpa [itsB] using ho)
  | some c =>
    have lc := hv' c rfl
    have l4 := vb_len10 lc
    refine ite_step true (fun Q hq => testIsnt ix rfl hq) ?_
    refine asgL (addN (addN (PR.var rfl ho) (PL.one (a := i + 1) (PV.addN (PV.var rfl) (PV.nat (i := 1)))).r (by simp; lia)).r (PL.vr (n := n + 20) (x := c) ix lc).r (by simp; lia)) fun o' τ hf s e => ?_
    simp only [List.set_cons_succ, List.set_cons_zero]
    exact h o' τ s (.inr hf) (by simpa [itsB, hm] using e)
end
section
variable {β : Hp} {x0 x1 x2 x3 x4 x5 x6 x7 x8 x12 x13 x14 x15 x16 x17 : Option V} {Q : K2} {r P D A : Nat} {src : V} {all : List V}
theorem e17_loop (F : Fq β r P D A) (hsrc : ∀ τ, Sub β τ → itemsOf τ src = some all) : ∀ (rest : List (Nat × List Nat)) (e : Edit) (as acc : List Nat) (o : Nat) (o11 o12 : Option V) (τ : Hp), Sub β τ → EdAt τ r P D A as e → Nq o P D A → τ o = some (.lst (natsV acc)) → (∀ x ∈ rest, (It.pt x.1 x.2).ok) → e.points.length + rest.length ≤ 100 → acc.length + 20100 * rest.length ≤ 400000 →
    (∀ o o11 o12 τ, Sub β τ → EdAt τ r P D A as { e with points := e.points ++ rest } → Nq o P D A → τ o = some (.lst (natsV (acc ++ itsB (rest.map fun x => .pt x.1 x.2)))) → Q .next [x0, x1, x2, x3, x4, x5, x6, x7, x8, some (.ref r), some (.ref o), o11, o12, x13, x14, x15, x16, x17] τ) →
    forLoop src all (turnT (progT con) (callN (progT con) progP (n + 30)) [11, 12] [.ex (.meth (.attr (.var 9) 11) 50 [.tup [.var 11, .var 12]]), .asg 10 (.bin .add (.bin .add (.var 10) (.list [.int 5, .var 11])) (.call 875 [.var 12]))]) (ptsV rest) [x0, x1, x2, x3, x4, x5, x6, x7, x8, some (.ref r), some (.ref o), o11, o12, x13, x14, x15, x16, x17] τ Q := by
  intro rest
  induction rest with
  | nil =>
    exact fun e as acc o o11 o12 τ s he nq ho _ _ _ hQ => for_end (hsrc τ s) (hQ o o11 o12 τ s (by simpa using he) nq (by simpa [itsB] using ho))
  | cons x rest ih =>
    intro e as acc o o11 o12 τ s he nq ho ok hp ha hQ
    have ox := ok x (.head _)
    have lx := It.len ox
    obtain ⟨c1, c2, c3⟩ := ox
    simp at ha hp
    refine for_turn (hsrc τ s) fun R hR => ?_
    rw [turnT_tup]
    refine ⟨_, rfl, ?_⟩
    simp only [List.set_cons_succ, List.set_cons_zero]
    refine seq_step fun R2 hR2 => ?_
    refine us_ex (u_meth (u_attr (u_var ⟨_, rfl, ?_⟩)))
    rw [L33, he.r]
    refine ⟨F_397_11, _, rfl, 0, by rw [L31, he.p]; rfl, ul_cons (u_tup (ul_cons (u_var ⟨_, rfl, ul_cons (u_var ⟨_, rfl, ul_nil ⟨Nat.le_of_ble_eq_true rfl, ul_nil ?_⟩⟩)⟩)))⟩
    rw [L31, L32, he.p]
    refine ⟨rfl, rfl, by simp [ptsV]; unfold lim; lia, ?_⟩
    rw [hR2]; clear hR2 R2
    have a1 := he.addP F.pd F.pa x
    have a2 : Sub β (upd τ P (.lst (ptsV e.points ++ [.tup [.int x.1, .bytes x.2]]))) := Sub.put s F.p
    have a3 : upd τ P (.lst (ptsV e.points ++ [.tup [.int x.1, .bytes x.2]])) o = _ := (upd_ne _ _ nq.p).trans ho
    generalize upd τ P (.lst (ptsV e.points ++ [.tup [.int x.1, .bytes x.2]])) = τ1 at a1 a2 a3
    have l4 := vb_len5 (n := x.2.length) (by lia)
    refine asgL (addN (addN (PR.var rfl a3) (PL.list (es := [.int 5, .var 11]) (vs := natsV [5, x.1]) ⟨PV.int, PV.var rfl, rfl⟩ (Nat.le_of_ble_eq_true rfl)).r (by simp; lia)).r (PL.text (n := n + 19) (b := x.2) (PV.var rfl) (by lia)).r (by simp; lia)) fun o' τ2 hf s2 e2 => ?_
    simp only [List.set_cons_succ, List.set_cons_zero]
    refine ⟨_, Sub.refl _, ?_⟩
    rw [hR]
    have eb : acc ++ [5, x.1] ++ (vb x.2.length ++ x.2) = acc ++ (It.pt x.1 x.2).oct := by
      have : vb x.1 = [x.1] := vb_small (by lia)
      simp [It.oct, this]
    rw [eb] at e2
    refine ih { e with points := e.points ++ [x] } as _ o' _ _ τ2 (a2.trans s2) (a1.sub s2) (a1.nq hf) e2 (fun y hy => ok y (.tail _ hy)) (by simp; lia) (by simp; lia) fun o o11 o12 τ s he nq ho => ?_
    exact hQ o o11 o12 τ s (by simpa using he) nq (by simpa [itsB_cons] using ho)
theorem e18_loop (F : Fq β r P D A) (hsrc : ∀ τ, Sub β τ → itemsOf τ src = some all) : ∀ (rest : List (Nat × Nat)) (e : Edit) (as acc : List Nat) (o : Nat) (o11 o13 : Option V) (τ : Hp), Sub β τ → EdAt τ r P D A as e → Nq o P D A → τ o = some (.lst (natsV acc)) → (∀ x ∈ rest, (It.dr x.1 x.2).ok) → e.dropped.length + rest.length ≤ 100 → acc.length + 20100 * rest.length ≤ 400000 →
    (∀ o o11 o13 τ, Sub β τ → EdAt τ r P D A as { e with dropped := e.dropped ++ rest } → Nq o P D A → τ o = some (.lst (natsV (acc ++ itsB (rest.map fun x => .dr x.1 x.2)))) → Q .next [x0, x1, x2, x3, x4, x5, x6, x7, x8, some (.ref r), some (.ref o), o11, x12, o13, x14, x15, x16, x17] τ) →
    forLoop src all (turnT (progT con) (callN (progT con) progP (n + 30)) [11, 13] [.ex (.meth (.attr (.var 9) 12) 50 [.tup [.var 11, .var 13]]), .asg 10 (.bin .add (.bin .add (.var 10) (.list [.int 6, .var 11])) (.call 868 [.var 13]))]) (drsV rest) [x0, x1, x2, x3, x4, x5, x6, x7, x8, some (.ref r), some (.ref o), o11, x12, o13, x14, x15, x16, x17] τ Q := by
  intro rest
  induction rest with
  | nil =>
    exact fun e as acc o o11 o13 τ s he nq ho _ _ _ hQ => for_end (hsrc τ s) (hQ o o11 o13 τ s (by simpa using he) nq (by simpa [itsB] using ho))
  | cons x rest ih =>
    intro e as acc o o11 o13 τ s he nq ho ok hp ha hQ
    have ox := ok x (.head _)
    have lx := It.len ox
    obtain ⟨c1, c2⟩ := ox
    simp at ha hp
    refine for_turn (hsrc τ s) fun R hR => ?_
    rw [turnT_tup]
    refine ⟨_, rfl, ?_⟩
    simp only [List.set_cons_succ, List.set_cons_zero]
    refine seq_step fun R2 hR2 => ?_
    refine us_ex (u_meth (u_attr (u_var ⟨_, rfl, ?_⟩)))
    rw [L33, he.r]
    refine ⟨F_397_12, _, rfl, 0, by rw [L31, he.d]; rfl, ul_cons (u_tup (ul_cons (u_var ⟨_, rfl, ul_cons (u_var ⟨_, rfl, ul_nil ⟨Nat.le_of_ble_eq_true rfl, ul_nil ?_⟩⟩)⟩)))⟩
    rw [L31, L32, he.d]
    refine ⟨rfl, rfl, by simp [drsV]; unfold lim; lia, ?_⟩
    rw [hR2]; clear hR2 R2
    have a1 := he.addD F.pd F.da x
    have a2 : Sub β (upd τ D (.lst (drsV e.dropped ++ [.tup [.int x.1, .int x.2]]))) := Sub.put s F.d
    have a3 : upd τ D (.lst (drsV e.dropped ++ [.tup [.int x.1, .int x.2]])) o = _ := (upd_ne _ _ nq.d).trans ho
    generalize upd τ D (.lst (drsV e.dropped ++ [.tup [.int x.1, .int x.2]])) = τ1 at a1 a2 a3
    have l4 := vb_len10 c2
    refine asgL (addN (addN (PR.var rfl a3) (PL.list (es := [.int 6, .var 11]) (vs := natsV [6, x.1]) ⟨PV.int, PV.var rfl, rfl⟩ (Nat.le_of_ble_eq_true rfl)).r (by simp; lia)).r (PL.vr (n := n + 20) (x := x.2) (PV.var rfl) c2).r (by simp; lia)) fun o' τ2 hf s2 e2 => ?_
    simp only [List.set_cons_succ, List.set_cons_zero]
    refine ⟨_, Sub.refl _, ?_⟩
    rw [hR]
    have eb : acc ++ [6, x.1] ++ vb x.2 = acc ++ (It.dr x.1 x.2).oct := by
      have : vb x.1 = [x.1] := vb_small (by lia)
      simp [It.oct, this]
    rw [eb] at e2
    refine ih { e with dropped := e.dropped ++ [x] } as _ o' _ _ τ2 (a2.trans s2) (a1.sub s2) (a1.nq hf) e2 (fun y hy => ok y (.tail _ hy)) (by simp; lia) (by simp; lia) fun o o11 o13 τ s he nq ho => ?_
    exact hQ o o11 o13 τ s (by simpa using he) nq (by simpa [itsB_cons] using ho)
theorem e19_loop (F : Fq β r P D A) (hsrc : ∀ τ, Sub β τ → itemsOf τ src = some all) : ∀ (rest : List (Nat × Fm)) (e : Edit) (as acc : List Nat) (o : Nat) (o11 o14 : Option V) (τ : Hp), Sub β τ → EdAt τ r P D A as e → Nq o P D A → τ o = some (.lst (natsV acc)) → (∀ x ∈ rest, (It.ad x.1 x.2).ok) → e.added.length + rest.length ≤ 100 → acc.length + 20100 * rest.length ≤ 400000 →
    (∀ o o11 o14 as τ, Sub β τ → EdAt τ r P D A as { e with added := e.added ++ rest } → Nq o P D A → τ o = some (.lst (natsV (acc ++ itsB (rest.map fun x => .ad x.1 x.2)))) → Q .next [x0, x1, x2, x3, x4, x5, x6, x7, x8, some (.ref r), some (.ref o), o11, x12, x13, o14, x15, x16, x17] τ) →
    forLoop src all (turnT (progT con) (callN (progT con) progP (n + 30)) [11, 14] [.ex (.meth (.attr (.var 9) 13) 50 [.tup [.var 11, .new 362 [.idx (.var 14) (.int 0), .idx (.var 14) (.int 1), .idx (.var 14) (.int 2), .idx (.var 14) (.int 3)]]]), .asg 10 (.bin .add (.bin .add (.bin .add (.bin .add (.bin .add (.var 10) (.list [.int 7, .var 11])) (.call 868 [.idx (.var 14) (.int 0)])) (.call 868 [.idx (.var 14) (.int 1)])) (.call 875 [.idx (.var 14) (.int 2)])) (.call 875 [.idx (.var 14) (.int 3)]))]) (rest.map adRow) [x0, x1, x2, x3, x4, x5, x6, x7, x8, some (.ref r), some (.ref o), o11, x12, x13, o14, x15, x16, x17] τ Q := by
  intro rest
  induction rest with
  | nil =>
    exact fun e as acc o o11 o14 τ s he nq ho _ _ _ hQ => for_end (hsrc τ s) (hQ o o11 o14 as τ s (by simpa using he) nq (by simpa [itsB] using ho))
  | cons x rest ih =>
    intro e as acc o o11 o14 τ s he nq ho ok hp ha hQ
    have ox := ok x (.head _)
    have lx := It.len ox
    obtain ⟨c1, c2, c3, ⟨c4, c5⟩, ⟨c6, c7⟩⟩ := ox
    simp at ha hp
    refine for_turn (hsrc τ s) fun R hR => ?_
    show turnT _ _ _ _ (.tup [.int x.1, .tup x.2.row]) _ _ _
    rw [turnT_tup]
    refine ⟨_, rfl, ?_⟩
    simp only [List.set_cons_succ, List.set_cons_zero]
    have ix : ∀ {ρ : Rho} {τ : Hp} (i : Nat) {v : V}, ρ.get 14 = some (.tup x.2.row) → x.2.row[i]? = some v → PV con (n + 30) (.idx (.var 14) (.int i)) ρ τ v := fun i v hr hv => PV.idxT (PV.var hr) PV.nat (Nat.le_of_ble_eq_true rfl) hv
    have pvs : PVs con (n + 30) [.idx (.var 14) (.int 0), .idx (.var 14) (.int 1), .idx (.var 14) (.int 2), .idx (.var 14) (.int 3)] [x0, x1, x2, x3, x4, x5, x6, x7, x8, some (.ref r), some (.ref o), some (.int x.1), x12, x13, some (.tup x.2.row), x15, x16, x17] τ x.2.row := ⟨ix 0 rfl rfl, ix 1 rfl rfl, ix 2 rfl rfl, ix 3 rfl rfl, rfl⟩
    refine seq_step fun R2 hR2 => ?_
    refine us_ex (u_meth (u_attr (u_var ⟨_, rfl, ?_⟩)))
    show attrP (progT con) (.ref r) 13 τ _
    rw [L33, he.r]
    refine ⟨F_397_13, _, rfl, 0, by rw [L31, he.a]; rfl, ?_⟩
    refine ul_cons (u_tup (ul_cons (u_var ⟨_, rfl, ul_cons (u_new (pvs.run τ (Sub.refl _) _ (c_352 (n := n + 29) x.2 fun q hq => ul_nil ⟨Nat.le_of_ble_eq_true rfl, ul_nil ?_⟩)))⟩)))
    have t4 : EdAt (upd τ q (.inst 362 x.2.fs)) r P D A as e := he.sub (Sub.put (Sub.refl _) hq)
    rw [L31, L32, t4.a]
    refine ⟨rfl, rfl, by rw [adsV_len he.m.len]; unfold lim; lia, ?_⟩
    rw [hR2]; clear hR2 R2
    have a1 := t4.addA F.pa F.da x (upd_at ..)
    have a2 : Sub β (upd (upd τ q (.inst 362 x.2.fs)) A (.lst (adsV as e.added ++ [.tup [.int x.1, .ref q]]))) := Sub.put (Sub.put s (s.free hq)) F.a
    have a3 : upd (upd τ q (.inst 362 x.2.fs)) A (.lst (adsV as e.added ++ [.tup [.int x.1, .ref q]])) o = _ := (upd_ne _ _ nq.a).trans ((upd_ne _ _ (ne_of_free ho hq)).trans ho)
    generalize upd (upd τ q (.inst 362 x.2.fs)) A (.lst (adsV as e.added ++ [.tup [.int x.1, .ref q]])) = τ1 at a1 a2 a3
    have l2 := vb_len10 c2
    have l3 := vb_len10 c3
    have l4 := vb_len5 (n := x.2.small.length) (by lia)
    have l5 := vb_len5 (n := x.2.large.length) (by lia)
    refine asgL (addN (addN (addN (addN (addN (PR.var rfl a3) (PL.list (es := [.int 7, .var 11]) (vs := natsV [7, x.1]) ⟨PV.int, PV.var rfl, rfl⟩ (Nat.le_of_ble_eq_true rfl)).r (by simp; lia)).r (PL.vr (n := n + 20) (x := x.2.number) (ix 0 rfl rfl) c2).r (by simp; lia)).r (PL.vr (n := n + 20) (x := x.2.size) (ix 1 rfl rfl) c3).r (by simp; lia)).r (PL.text (n := n + 19) (b := x.2.small) (ix 2 rfl rfl) (by lia)).r (by simp; lia)).r (PL.text (n := n + 19) (b := x.2.large) (ix 3 rfl rfl) (by lia)).r (by simp; lia)) fun o' τ2 hf s2 e2 => ?_
    simp only [List.set_cons_succ, List.set_cons_zero]
    refine ⟨_, Sub.refl _, ?_⟩
    rw [hR]
    have eb : acc ++ [7, x.1] ++ vb x.2.number ++ vb x.2.size ++ (vb x.2.small.length ++ x.2.small) ++ (vb x.2.large.length ++ x.2.large) = acc ++ (It.ad x.1 x.2).oct := by
      have : vb x.1 = [x.1] := vb_small (by lia)
      simp [It.oct, this]
    rw [eb] at e2
    refine ih { e with added := e.added ++ [x] } (as ++ [q]) _ o' _ _ τ2 (a2.trans s2) (a1.sub s2) (a1.nq hf) e2 (fun y hy => ok y (.tail _ hy)) (by simp; lia) (by simp; lia) fun o o11 o14 as τ s he nq ho => ?_
    exact hQ o o11 o14 as τ s (by simpa using he) nq (by simpa [itsB_cons] using ho)
end
end Mine
end
section
set_option tactic.hygienic false
set_option backward.match.sparseCases false
set_option maxRecDepth 10000
set_option linter.all false
namespace Mine
variable {con : Nat → Option (List V)} {σ : Hp} {n : Nat} {ρ : Rho} {ss : List S}
structure DEdit (d : List Nat) : Prop where
  len : d.length = 8
  lo : ∀ i, i < 7 → D d i < 3
  d7 : D d 7 < 2
noncomputable def sN (d : List Nat) (y i : Nat) : Option Nat := said (D d i) none (some 0) (some (G (y / 6 ^ i)))
noncomputable def sB (d : List Nat) (y : Nat) : Option (List Nat) := said (D d 0) none (some []) (some (O y))
noncomputable def ptsOf (d : List Nat) (y : Nat) : List (Nat × List Nat) := said (D d 4) [] [(0, [0])] [(11, O (y / 3)), (y % 12, [0, 0])]
noncomputable def drsOf (d : List Nat) (y : Nat) : List (Nat × Nat) := said (D d 5) [] [(0, 0)] [(11, G (y / 5)), (0, 0)]
noncomputable def fN : Fm := ⟨0, 0, [0], [0]⟩
noncomputable def fG (y : Nat) : Fm := ⟨G (y / 2), G (y / 3), O (y / 7), [107]⟩
noncomputable def adsOf (d : List Nat) (y : Nat) : List (Nat × Fm) := said (D d 6) [] [(0, fN)] [(11, fG y), (0, fN)]
noncomputable def editOf (d : List Nat) (y : Nat) : Edit := ⟨sB d y, sN d y 1, sN d y 2, sN d y 3, ptsOf d y, drsOf d y, adsOf d y, decide ((D d 7 : Int) = 1)⟩
theorem said_some {α : Type} {d : Nat} {a b x : α} (h : said d none (some a) (some b) = some x) : x = a ∨ x = b := by
  unfold said at h
  split at h
  · cases h
  · cases h; exact .inl rfl
  · cases h; exact .inr rfl
theorem said_mem {α : Type} {d : Nat} {a b c x : α} (h : x ∈ said d [] [a] [b, c]) : x = a ∨ x = b ∨ x = c := by
  unfold said at h
  split at h
  · cases h
  · simp at h; exact .inl h
  · simp at h; exact .inr h
theorem said_len {α : Type} {d : Nat} {a b c : α} : (said d [] [a] [b, c]).length ≤ 2 := by
  unfold said
  split <;> simp
theorem sN_le {d : List Nat} {y i x : Nat} (h : sN d y i = some x) : x ≤ 72057594037927935 := by
  rcases said_some h with rfl | rfl
  · decide
  · exact G_le _
theorem O_octs (y : Nat) : Octs (O y) := ⟨O_pos y, by have := O_le y; lia⟩
theorem editOk (d : List Nat) (y : Nat) : (editOf d y).ok := by
  refine ⟨⟨?_, ?_, ?_⟩, ?_⟩
  · have : (ptsOf d y).length ≤ 2 := said_len
    show (ptsOf d y).length ≤ 10
    lia
  · have : (drsOf d y).length ≤ 2 := said_len
    show (drsOf d y).length ≤ 10
    lia
  · have : (adsOf d y).length ≤ 2 := said_len
    show (adsOf d y).length ≤ 10
    lia
  intro i hi
  simp only [Edit.items, List.mem_append] at hi
  rcases hi with h | h | h | h | h | h | h | h
  · split at h
    · simp at h; subst h; trivial
    · cases h
  · obtain ⟨x, hx, rfl⟩ := List.mem_map.mp h
    have hx : sB d y = some x := Option.mem_toList.mp hx
    show x.length ≤ 10000
    rcases said_some hx with rfl | rfl
    · decide
    · have := O_le y; lia
  · obtain ⟨x, hx, rfl⟩ := List.mem_map.mp h
    have := sN_le (Option.mem_toList.mp hx : sN d y 1 = some x)
    show x < 2 ^ 64
    lia
  · obtain ⟨x, hx, rfl⟩ := List.mem_map.mp h
    have := sN_le (Option.mem_toList.mp hx : sN d y 2 = some x)
    show x < 2 ^ 64
    lia
  · obtain ⟨x, hx, rfl⟩ := List.mem_map.mp h
    exact sN_le (Option.mem_toList.mp hx : sN d y 3 = some x)
  · obtain ⟨x, hx, rfl⟩ := List.mem_map.mp h
    rcases said_mem (hx : x ∈ ptsOf d y) with rfl | rfl | rfl
    · exact ⟨by decide, by decide, by decide⟩
    · exact ⟨show (11 : Nat) < 12 by decide, O_octs _⟩
    · exact ⟨Nat.mod_lt _ (by decide), show 0 < [0, 0].length by decide, show [0, 0].length ≤ 10000 by decide⟩
  · obtain ⟨x, hx, rfl⟩ := List.mem_map.mp h
    rcases said_mem (hx : x ∈ drsOf d y) with rfl | rfl | rfl
    · exact ⟨by decide, by decide⟩
    · exact ⟨show (11 : Nat) < 12 by decide, by have := G_le (y / 5); show G (y / 5) < 2 ^ 64; lia⟩
    · exact ⟨by decide, by decide⟩
  · obtain ⟨x, hx, rfl⟩ := List.mem_map.mp h
    have hN : (It.ad 0 fN).ok := ⟨by decide, by decide, by decide, ⟨by decide, by decide⟩, ⟨by decide, by decide⟩⟩
    rcases said_mem (hx : x ∈ adsOf d y) with rfl | rfl | rfl
    · exact hN
    · exact ⟨by show (11 : Nat) < 12; decide, by have := G_le (y / 2); show G (y / 2) < 2 ^ 64; lia, by have := G_le (y / 3); show G (y / 3) < 2 ^ 64; lia, O_octs _, by show 0 < [107].length; decide, by show [107].length ≤ 10000; decide⟩
    · exact hN
theorem edit_pure (e : Edit) : pureV 8 (.tup e.row) = true := by
  have h1 : (ptsV e.points).all (pureV 6) = true := by simp [ptsV, pureV]
  have h2 : (drsV e.dropped).all (pureV 6) = true := by simp [drsV, pureV]
  have h3 : (e.added.map adRow).all (pureV 6) = true := by simp [adRow, pureV, Fm.row]
  simp [pureV, Edit.row, opt_pure, num_pure, h1, h2]
  intro a b hb
  simp [adRow, pureV, Fm.row]
theorem asgIL {k w : Nat} {e : E} {v : V} {vs : List V} {Q : K2} (h : PV con n e ρ σ v) (hw : ρ.get k = some (.ref w)) (hl : σ w = some (.lst vs)) (hlen : vs.length ≤ lim) (h0 : 0 < vs.length) (g : wpSs (progT con) (callN (progT con) progP n) ss ρ (upd σ w (.lst (vs.set 0 v))) Q) : wpSs (progT con) (callN (progT con) progP n) (.asgI (.var k) (.int 0) e :: ss) ρ σ Q := by
  refine seq_step fun R hR => ?_
  refine us_asgI ?_
  refine h σ (Sub.refl _) _ ?_
  refine u_var ⟨_, hw, u_int ?_⟩
  simp only [hl]
  refine ⟨hlen, by decide, h0, ?_⟩
  rw [hR]; exact g
end Mine
end
section
set_option tactic.hygienic false
set_option backward.match.sparseCases false
set_option maxRecDepth 10000
set_option linter.all false
namespace Mine
variable {con : Nat → Option (List V)} {σ : Hp} {n : Nat} {ρ : Rho} {ss : List S}
/-- the end of _law_edit -/
theorem edit_tail {Q : K1} {x w p4 p5 p8 r P D A o : Nat} {y : Int} {as : List Nat} {σ0 : Hp} {e : Edit} {x2 x6 x7 x11 x12 x13 x14 x17 : Option V} (ok : e.ok) (s0 : Sub σ0 σ) (he : EdAt σ r P D A as e) (hw : σ w = some (.lst [optV e.comp, numV e.log, numV e.next, numV e.seq])) (h4 : σ p4 = some (.lst (ptsV e.points))) (h5 : σ p5 = some (.lst (drsV e.dropped))) (h8 : σ p8 = some (.lst (e.added.map adRow))) (ho : σ o = some (.lst (natsV e.octets)))
    (h7 : ∀ {ρ : Rho} {τ : Hp}, Sub σ τ → ρ.get 0 = some (.ref x) → PV con (n + 30) (.cmp .eq (.idx (.var 0) (.int 7)) (.int 1)) ρ τ (.bool e.reset)) (h : Q (.bool true) σ0) :
    wpSs (progT con) (callN (progT con) progP (n + 30)) (b_887.drop 19) [some (.ref x), some (.int y), x2, some (.ref w), some (.ref p4), some (.ref p5), x6, x7, some (.ref p8), some (.ref r), some (.ref o), x11, x12, x13, x14, none, none, x17] σ (fun fl _ σ' => ∃ τ, Sub τ σ' ∧ Q (match fl with | .ret v => v | .next => .none) τ) := by
  have lo := Edit.len ok
  obtain ⟨f1, f2, f3⟩ := ok.few
  have ix : ∀ {ρ : Rho} (i : Nat) {v : V}, ρ.get 3 = some (.ref w) → [optV e.comp, numV e.log, numV e.next, numV e.seq][i]? = some v → PV con (n + 30) (.idx (.var 3) (.int i)) ρ σ v := fun i v hr hv => PV.idxL (PV.var hr) hw PV.nat (Nat.le_of_ble_eq_true rfl) hv
  refine asgV (v := .tup e.row) (PV.tup ⟨ix 0 rfl rfl, ix 1 rfl rfl, ix 2 rfl rfl, ix 3 rfl rfl, PV.tupL (PV.var rfl) h4 (by simp [ptsV]; unfold lim; lia), PV.tupL (PV.var rfl) h5 (by simp [drsV]; unfold lim; lia), PV.tupL (PV.var rfl) h8 (by simp; unfold lim; lia), h7 (Sub.refl _) rfl, rfl⟩ (Nat.le_of_ble_eq_true rfl)) ?_
  simp only [List.set_cons_succ, List.set_cons_zero]
  refine asgV (v := .bytes e.octets) (PV.meth (PV.var rfl) he.r M_397_49 rfl fun τ s Q hq => c_394 (n := n + 26) ok (he.sub s) hq) ?_
  simp only [List.set_cons_succ, List.set_cons_zero]
  refine NB.ite (NB.or2 (NB.ne (PV.a (PV.meth (PV.var rfl) he.r M_397_48 rfl fun τ s Q hq => c_387 (n := n + 28) ok.few (he.sub s) hq)) (PV.a (PV.var rfl)) (edit_pure e)) (NB.neL (PL.listB (b := e.octets) (PV.var rfl) (by unfold lim; lia)).r (PR.var rfl ho) (nats_pure _))) fun τ2 s2 => ?_
  refine retA (PA.eq (PO.meth (P := fun r υ => ∃ P D A as, EdAt υ r P D A as e) (PO.call (vs := [.bytes e.octets]) ⟨PV.var rfl, rfl⟩ fun τ s Q g => c_429 (n := n + 24) ok fun r P D A as υ su hu => g r υ su ⟨P, D, A, as, hu⟩) fun r υ p => ?_) (PV.a (PV.var rfl)) (edit_pure e)) (s0.trans s2) h
  obtain ⟨P, D, A, as, hp⟩ := p
  exact ⟨_, _, _, hp.r, M_397_48, rfl, fun Q hq => c_387 (n := n + 28) ok.few hp hq⟩
theorem Edit.ok.m1 {e : Edit} (h : e.ok) : ∀ i ∈ e.comp.toList.map It.comp, i.ok := fun i hi => h.each i (List.mem_append_right _ (List.mem_append_left _ hi))
theorem Edit.ok.m2 {e : Edit} (h : e.ok) : ∀ i ∈ e.log.toList.map It.log, i.ok := fun i hi => h.each i (List.mem_append_right _ (List.mem_append_right _ (List.mem_append_left _ hi)))
theorem Edit.ok.m3 {e : Edit} (h : e.ok) : ∀ i ∈ e.next.toList.map It.next, i.ok := fun i hi => h.each i (List.mem_append_right _ (List.mem_append_right _ (List.mem_append_right _ (List.mem_append_left _ hi))))
theorem Edit.ok.m4 {e : Edit} (h : e.ok) : ∀ i ∈ e.seq.toList.map It.seq, i.ok := fun i hi => h.each i (List.mem_append_right _ (List.mem_append_right _ (List.mem_append_right _ (List.mem_append_right _ (List.mem_append_left _ hi)))))
theorem Edit.ok.m5 {e : Edit} (h : e.ok) : ∀ i ∈ e.points.map (fun x => It.pt x.1 x.2), i.ok := fun i hi => h.each i (List.mem_append_right _ (List.mem_append_right _ (List.mem_append_right _ (List.mem_append_right _ (List.mem_append_right _ (List.mem_append_left _ hi))))))
theorem Edit.ok.m6 {e : Edit} (h : e.ok) : ∀ i ∈ e.dropped.map (fun x => It.dr x.1 x.2), i.ok := fun i hi => h.each i (List.mem_append_right _ (List.mem_append_right _ (List.mem_append_right _ (List.mem_append_right _ (List.mem_append_right _ (List.mem_append_right _ (List.mem_append_left _ hi)))))))
theorem Edit.ok.m7 {e : Edit} (h : e.ok) : ∀ i ∈ e.added.map (fun x => It.ad x.1 x.2), i.ok := fun i hi => h.each i (List.mem_append_right _ (List.mem_append_right _ (List.mem_append_right _ (List.mem_append_right _ (List.mem_append_right _ (List.mem_append_right _ (List.mem_append_right _ hi)))))))
/-- the middle of _law_edit -/
theorem edit_mid {Q : K2} {x w p4 p5 p8 r P D A o : Nat} {y : Int} {e : Edit} {β : Hp} {x6 x7 : Option V} (ok : e.ok) (l2 : e.points.length ≤ 2 ∧ e.dropped.length ≤ 2 ∧ e.added.length ≤ 2) (F : Fq β r P D A) (s0 : Sub β σ) (he : EdAt σ r P D A [] ⟨e.comp, e.log, e.next, e.seq, [], [], [], e.reset⟩) (hw : β w = some (.lst [optV e.comp, numV e.log, numV e.next, numV e.seq])) (h4 : β p4 = some (.lst (ptsV e.points))) (h5 : β p5 = some (.lst (drsV e.dropped))) (h8 : β p8 = some (.lst (e.added.map adRow))) (nq : Nq o P D A) (ho : σ o = some (.lst (natsV (itsB (if e.reset then [It.reset] else [])))))
    (h : ∀ o τ as x2 x11 x12 x13 x14, Sub β τ → EdAt τ r P D A as e → τ o = some (.lst (natsV e.octets)) → wpSs (progT con) (callN (progT con) progP (n + 30)) (b_887.drop 19) [some (.ref x), some (.int y), x2, some (.ref w), some (.ref p4), some (.ref p5), x6, x7, some (.ref p8), some (.ref r), some (.ref o), x11, x12, x13, x14, none, none, none] τ Q) :
    wpSs (progT con) (callN (progT con) progP (n + 30)) (b_887.drop 14) [some (.ref x), some (.int y), none, some (.ref w), some (.ref p4), some (.ref p5), x6, x7, some (.ref p8), some (.ref r), some (.ref o), none, none, none, none, none, none, none] σ Q := by
  have o1 : ∀ x, e.comp = some x → x.length ≤ 10000 := fun x hx => ok.m1 (.comp x) (by simp [hx])
  have o2 : ∀ x, e.log = some x → x < 2 ^ 64 := fun x hx => ok.m2 (.log x) (by simp [hx])
  have o3 : ∀ x, e.next = some x → x < 2 ^ 64 := fun x hx => ok.m3 (.next x) (by simp [hx])
  have o4 : ∀ x, e.seq = some x → x < 2 ^ 64 := fun x hx => by
    have : x ≤ 72057594037927935 := ok.m4 (.seq x) (by simp [hx])
    lia
  have o5 : ∀ x ∈ e.points, (It.pt x.1 x.2).ok := fun x hx => ok.m5 _ (List.mem_map.mpr ⟨x, hx, rfl⟩)
  have o6 : ∀ x ∈ e.dropped, (It.dr x.1 x.2).ok := fun x hx => ok.m6 _ (List.mem_map.mpr ⟨x, hx, rfl⟩)
  have o7 : ∀ x ∈ e.added, (It.ad x.1 x.2).ok := fun x hx => ok.m7 _ (List.mem_map.mpr ⟨x, hx, rfl⟩)
  have ol : ∀ x : Option (List Nat), x.toList.length ≤ 1 := fun x => by induction x using Option.casesOn <;> simp
  have on : ∀ x : Option Nat, x.toList.length ≤ 1 := fun x => by induction x using Option.casesOn <;> simp
  have b0 : (itsB (if e.reset then [It.reset] else [])).length ≤ 1 := by cases e.reset <;> simp [itsB, It.oct]
  have b1 := its_len _ ok.m1
  have b2 := its_len _ ok.m2
  have b3 := its_len _ ok.m3
  have b4 := its_len _ ok.m4
  have b5 := its_len _ ok.m5
  have b6 := its_len _ ok.m6
  have b7 := its_len _ ok.m7
  have q1 := ol e.comp
  have q2 := on e.log
  have q3 := on e.next
  have q4 := on e.seq
  rw [List.length_map] at b1 b2 b3 b4 b5 b6 b7
  obtain ⟨l5, l6, l7⟩ := l2
  refine e15 (v := e.comp) (s0 _ _ hw) (by simp) rfl ho o1 (by lia) fun oa τa sa ora ea => ?_
  have nqa : Nq oa P D A := by
    rcases ora with rfl | hf
    · exact nq
    · exact he.nq hf
  have hea := he.sub sa
  have ta := s0.trans sa
  clear nq he ho ora
  refine seq_step fun R hR => ?_
  have hi : ∀ τ, itemsOf τ (.range (1 : Nat) ((1 + 3 : Nat) : Int)) = some [.int ((1 : Nat) : Int), .int ((2 : Nat) : Int), .int ((3 : Nat) : Int)] := fun τ => rfl
  refine PV.range2 (con := con) (n := n + 30) (lo := 1) (k := 3) (by decide) (by decide) τa (Sub.refl _) _ ⟨_, hi _, (Nat.le_of_ble_eq_true rfl), ?_⟩
  refine for_turn (hi _) fun R1 hR1 => ?_
  simp only [List.set_cons_succ, List.set_cons_zero]
  refine e16 (v := e.log) (i := 1) (mk := .log) (ta _ _ hw) (by simp) rfl ea o2 (by simp only [List.length_append]; lia) (fun c => rfl) fun ob τb sb orb eb => ⟨_, Sub.refl _, ?_⟩
  rw [hR1]; clear hR1 R1
  have nqb : Nq ob P D A := by
    rcases orb with rfl | hf
    · exact nqa
    · exact hea.nq hf
  have heb := hea.sub sb
  have tb := ta.trans sb
  clear nqa hea ea orb sb
  refine for_turn (hi _) fun R1 hR1 => ?_
  simp only [List.set_cons_succ, List.set_cons_zero]
  refine e16 (v := e.next) (i := 2) (mk := .next) (tb _ _ hw) (by simp) rfl eb o3 (by simp only [List.length_append]; lia) (fun c => rfl) fun oc τc sc orc ec => ⟨_, Sub.refl _, ?_⟩
  rw [hR1]; clear hR1 R1
  have nqc : Nq oc P D A := by
    rcases orc with rfl | hf
    · exact nqb
    · exact heb.nq hf
  have hec := heb.sub sc
  have tc := tb.trans sc
  clear nqb heb eb orc sc
  refine for_turn (hi _) fun R1 hR1 => ?_
  simp only [List.set_cons_succ, List.set_cons_zero]
  refine e16 (v := e.seq) (i := 3) (mk := .seq) (tc _ _ hw) (by simp) rfl ec o4 (by simp only [List.length_append]; lia) (fun c => rfl) fun od τd sd ord ed => ⟨_, Sub.refl _, ?_⟩
  rw [hR1]; clear hR1 R1
  have nqd : Nq od P D A := by
    rcases ord with rfl | hf
    · exact nqc
    · exact hec.nq hf
  have hed := hec.sub sd
  have td := tc.trans sd
  clear nqc hec ec ord sd
  refine for_end (hi _) ?_
  simp only
  rw [hR]; clear hR R
  refine forT_step fun R hR => ?_
  refine ⟨_, rfl, ptsV e.points, by simp [itemsOf, td _ _ h4], by simp [ptsV]; unfold lim; lia, ?_⟩
  refine e17_loop (β := β) (n := n) F (fun τ s => by simp [itemsOf, s _ _ h4]) e.points _ [] _ od none none τd td hed nqd ed o5 (by simp; lia) (by simp only [List.length_append]; lia) fun oe x11 x12 τe te hee nqe ee => ?_
  simp only
  rw [hR]; clear hR R
  refine forT_step fun R hR => ?_
  refine ⟨_, rfl, drsV e.dropped, by simp [itemsOf, te _ _ h5], by simp [drsV]; unfold lim; lia, ?_⟩
  refine e18_loop (β := β) (n := n) F (fun τ s => by simp [itemsOf, s _ _ h5]) e.dropped _ [] _ oe x11 none τe te hee nqe ee o6 (by simp; lia) (by simp only [List.length_append]; lia) fun of x11 x13 τf tf hef nqf ef => ?_
  simp only
  rw [hR]; clear hR R
  refine forT_step fun R hR => ?_
  refine ⟨_, rfl, e.added.map adRow, by simp [itemsOf, tf _ _ h8], by simp; unfold lim; lia, ?_⟩
  refine e19_loop (β := β) (n := n) F (fun τ s => by simp [itemsOf, s _ _ h8]) e.added _ [] _ of x11 none τf tf hef nqf ef o7 (by simp; lia) (by simp only [List.length_append]; lia) fun og x11 x14 as τg tg heg nqg eg => ?_
  simp only
  rw [hR]; clear hR R
  refine h og τg as _ _ _ _ _ tg heg ?_
  rw [eg]
  congr 2
  simp only [Edit.octets, Edit.items, itsB_app, List.append_assoc]
/-- _law_edit -/
theorem c_887 {Q : K1} {x y : Nat} {d : List Nat} (hx : σ x = some (.lst (natsV d))) (ok : DEdit d) (h : Q (.bool true) σ) : callN (progT con) progP (n + 31) 887 [.ref x, .int y] σ Q := by
  refine call_intro (d := ⟨2, 18, b_887, []⟩) rfl (Nat.le_refl 2) (Nat.le_refl 2) ?_
  show wpSs _ _ b_887 [some (.ref x), some (.int y), none, none, none, none, none, none, none, none, none, none, none, none, none, none, none, none] _ _
  have dg : ∀ {ρ : Rho} {τ : Hp} (i : Nat), Sub σ τ → ρ.get 0 = some (.ref x) → i < 8 → PV con (n + 30) (.idx (.var 0) (.int i)) ρ τ (.int (D d i)) := fun i s h hi => PV.d h (s _ _ hx) PV.nat (by rw [ok.len]; exact hi) (by rw [ok.len]; decide)
  have eok := editOk d y
  -- words
  have p1 := PL.compR (con := con) (n := n + 30) (ρ := [some (.ref x), some (.int y), none, none, none, none, none, none, none, none, none, none, none, none, none, none, none, none]) (σ := σ) (x := 17) (elt := .call 861 [.idx (.var 0) (.var 17), .int 0, .call 847 [.bin .fdiv (.var 1) (.bin .pow (.int 6) (.var 17))]]) (lo := 0) (k := 4) (g := fun j => said (D d (0 + j)) .none (.int 0) (.int (G (y / 6 ^ (0 + j))))) (PV.range1 (k := 4) (by decide)) (by decide) fun j hj => PV.said (n := n + 29) (PV.d rfl hx (PV.var rfl) (by rw [ok.len]; lia) (by rw [ok.len]; decide)) (ok.lo _ (by lia)) PV.int (PV.great (n := n + 29) (PV.fdivN (PV.var rfl) (PV.powN (PV.nat (i := 6)) (PV.var rfl) (by decide) (by lia)) (Nat.pow_pos (by decide)) (by
      have : 6 ^ (0 + j) ≤ 6 ^ 7 := Nat.pow_le_pow_right (by decide) (by lia)
      lia)))
  refine asgL p1 fun w τ1 fw s1 e1 => ?_
  simp only [List.set_cons_succ, List.set_cons_zero]
  clear p1
  have p2 : PV con (n + 30) (.call 861 [.idx (.var 0) (.int 0), .bytes [], .call 854 [.var 1]]) [some (.ref x), some (.int y), none, some (.ref w), none, none, none, none, none, none, none, none, none, none, none, none, none, none] τ1 (optV (editOf d y).comp) := by
    have := PV.said (n := n + 29) (dg (ρ := [some (.ref x), some (.int y), none, some (.ref w), none, none, none, none, none, none, none, none, none, none, none, none, none, none]) 0 s1 rfl (by decide)) (ok.lo 0 (by decide)) (PV.bytes (i := [])) (PV.octs (n := n + 29) (e := .var 1) (PV.var rfl))
    rw [show optV (editOf d y).comp = _ from optV_said ..]
    exact this
  refine asgIL p2 rfl e1 (Nat.le_of_ble_eq_true rfl) (by simp) ?_
  clear p2
  have ew : ((List.range 4).map (fun j => said (D d (0 + j)) V.none (V.int 0) (V.int (G (y / 6 ^ (0 + j)))))).set 0 (optV (editOf d y).comp) = [optV (editOf d y).comp, numV (editOf d y).log, numV (editOf d y).next, numV (editOf d y).seq] := by
    rw [show numV (editOf d y).log = _ from numV_said .., show numV (editOf d y).next = _ from numV_said .., show numV (editOf d y).seq = _ from numV_said ..]
    rfl
  rw [ew]
  have sw : Sub σ (upd τ1 w (.lst [optV (editOf d y).comp, numV (editOf d y).log, numV (editOf d y).next, numV (editOf d y).seq])) := Sub.put s1 fw
  have gw := upd_at τ1 w (.lst [optV (editOf d y).comp, numV (editOf d y).log, numV (editOf d y).next, numV (editOf d y).seq])
  generalize upd τ1 w (.lst [optV (editOf d y).comp, numV (editOf d y).log, numV (editOf d y).next, numV (editOf d y).seq]) = τ2 at sw gw
  clear ew e1 fw s1 τ1
  -- the lists
  have ep : ptsV (editOf d y).points = said (D d 4) [] [.tup [.int 0, .bytes [0]]] [.tup [.int 11, .bytes (O (y / 3))], .tup [.int ((y % 12 : Nat) : Int), .bytes [0, 0]]] := by
    show ptsV (ptsOf d y) = _
    unfold ptsOf; rw [said_map ptsV]; rfl
  have p4 := PL.sel3 (con := con) (n := n + 30) (ρ := [some (.ref x), some (.int y), none, some (.ref w), none, none, none, none, none, none, none, none, none, none, none, none, none, none]) (σ := τ2) (va := []) (vb := [.tup [.int 0, .bytes [0]]]) (vc := [.tup [.int 11, .bytes (O (y / 3))], .tup [.int ((y % 12 : Nat) : Int), .bytes [0, 0]]])
    (PL.list (es := []) rfl (Nat.le_of_ble_eq_true rfl)) (PL.list (es := [.tup [.int 0, .bytes [0]]]) ⟨PV.tup ⟨PV.int, PV.bytes, rfl⟩ (Nat.le_of_ble_eq_true rfl), rfl⟩ (Nat.le_of_ble_eq_true rfl)) (PL.list (es := [.tup [.int 11, .call 854 [.bin .fdiv (.var 1) (.int 3)]], .tup [.bin .mod (.var 1) (.int 12), .bytes [0, 0]]]) ⟨PV.tup ⟨PV.int, PV.octs (n := n + 29) (PV.y rfl (by decide) (by decide)), rfl⟩ (Nat.le_of_ble_eq_true rfl), PV.tup ⟨PV.modN (PV.var rfl) (PV.nat (i := 12)) (by decide), PV.bytes, rfl⟩ (Nat.le_of_ble_eq_true rfl), rfl⟩ (Nat.le_of_ble_eq_true rfl)) (dg 4 sw rfl (by decide)) (ok.lo 4 (by decide))
  rw [← ep] at p4
  refine asgL p4 fun q4 τ3 _ s3 e4 => ?_
  simp only [List.set_cons_succ, List.set_cons_zero]
  clear p4 ep
  have t3 := sw.trans s3
  have ed : drsV (editOf d y).dropped = said (D d 5) [] [.tup [.int 0, .int 0]] [.tup [.int 11, .int (G (y / 5))], .tup [.int 0, .int 0]] := by
    show drsV (drsOf d y) = _
    unfold drsOf; rw [said_map drsV]; rfl
  have p5 := PL.sel3 (con := con) (n := n + 30) (ρ := [some (.ref x), some (.int y), none, some (.ref w), some (.ref q4), none, none, none, none, none, none, none, none, none, none, none, none, none]) (σ := τ3) (va := []) (vb := [.tup [.int 0, .int 0]]) (vc := [.tup [.int 11, .int (G (y / 5))], .tup [.int 0, .int 0]])
    (PL.list (es := []) rfl (Nat.le_of_ble_eq_true rfl)) (PL.list (es := [.tup [.int 0, .int 0]]) ⟨PV.tup ⟨PV.int, PV.int, rfl⟩ (Nat.le_of_ble_eq_true rfl), rfl⟩ (Nat.le_of_ble_eq_true rfl)) (PL.list (es := [.tup [.int 11, .call 847 [.bin .fdiv (.var 1) (.int 5)]], .tup [.int 0, .int 0]]) ⟨PV.tup ⟨PV.int, PV.great (n := n + 29) (PV.y rfl (by decide) (by decide)), rfl⟩ (Nat.le_of_ble_eq_true rfl), PV.tup ⟨PV.int, PV.int, rfl⟩ (Nat.le_of_ble_eq_true rfl), rfl⟩ (Nat.le_of_ble_eq_true rfl)) (dg 5 t3 rfl (by decide)) (ok.lo 5 (by decide))
  rw [← ed] at p5
  refine asgL p5 fun q5 τ4 _ s4 e5 => ?_
  simp only [List.set_cons_succ, List.set_cons_zero]
  clear p5 ed
  have t4 := t3.trans s4
  refine asgV (v := adRow (0, fN)) (PV.tup ⟨PV.int, PV.tup ⟨PV.int, PV.int, PV.bytes, PV.bytes, rfl⟩ (Nat.le_of_ble_eq_true rfl), rfl⟩ (Nat.le_of_ble_eq_true rfl)) ?_
  simp only [List.set_cons_succ, List.set_cons_zero]
  refine asgV (v := adRow (11, fG y)) (PV.tup ⟨PV.int, PV.tup ⟨PV.great (n := n + 29) (PV.y rfl (by decide) (by decide)), PV.great (n := n + 29) (PV.y rfl (by decide) (by decide)), PV.octs (n := n + 29) (PV.y rfl (by decide) (by decide)), PV.bytes, rfl⟩ (Nat.le_of_ble_eq_true rfl), rfl⟩ (Nat.le_of_ble_eq_true rfl)) ?_
  simp only [List.set_cons_succ, List.set_cons_zero]
  have ea : (editOf d y).added.map adRow = said (D d 6) [] [adRow (0, fN)] [adRow (11, fG y), adRow (0, fN)] := by
    show (adsOf d y).map adRow = _
    unfold adsOf; rw [said_map (fun l : List (Nat × Fm) => l.map adRow)]; rfl
  have p8 := PL.sel3 (con := con) (n := n + 30) (ρ := [some (.ref x), some (.int y), none, some (.ref w), some (.ref q4), some (.ref q5), some (adRow (0, fN)), some (adRow (11, fG y)), none, none, none, none, none, none, none, none, none, none]) (σ := τ4) (va := []) (vb := [adRow (0, fN)]) (vc := [adRow (11, fG y), adRow (0, fN)])
    (PL.list (es := []) rfl (Nat.le_of_ble_eq_true rfl)) (PL.list (es := [.var 6]) ⟨PV.var rfl, rfl⟩ (Nat.le_of_ble_eq_true rfl)) (PL.list (es := [.var 7, .var 6]) ⟨PV.var rfl, PV.var rfl, rfl⟩ (Nat.le_of_ble_eq_true rfl)) (dg 6 t4 rfl (by decide)) (ok.lo 6 (by decide))
  rw [← ea] at p8
  refine asgL p8 fun q8 τ5 _ s5 e8 => ?_
  simp only [List.set_cons_succ, List.set_cons_zero]
  clear p8 ea
  have t5 := t4.trans s5
  have gw5 := s5 _ _ (s4 _ _ (s3 _ _ gw))
  have e4' := s5 _ _ (s4 _ _ e4)
  have e5' := s5 _ _ e5
  -- the edit
  refine asgNew (vs := []) (P := fun r τ => ∃ P D A, Fq τ5 r P D A ∧ EdAt τ r P D A [] Edit.nil) rfl (fun Q g => c_380 (n := n + 29) fun r P D A τ hr hP hD hA pd pa da s he => g r τ hr s ⟨P, D, A, ⟨hr, hP, hD, hA, pd, pa, da⟩, he⟩) fun r τ6 _ s6 ⟨P, D', A, F, he⟩ => ?_
  simp only [List.set_cons_succ, List.set_cons_zero]
  have ix : ∀ {ρ : Rho} {τ : Hp} (i : Nat) {v : V}, Sub τ5 τ → ρ.get 3 = some (.ref w) → [optV (editOf d y).comp, numV (editOf d y).log, numV (editOf d y).next, numV (editOf d y).seq][i]? = some v → PV con (n + 30) (.idx (.var 3) (.int i)) ρ τ v := fun i v s hr hv => PV.idxL (PV.var hr) (s _ _ gw5) PV.nat (Nat.le_of_ble_eq_true rfl) hv
  have sp : ∀ o, Sub τ5 (upd τ6 r o) := fun o => Sub.put s6 F.r
  refine asgF (ix 0 s6 rfl rfl) rfl he.r F_397_7 (Nat.le_of_ble_eq_true rfl) ?_
  refine asgF (ix 1 (sp _) rfl rfl) rfl (upd_at ..) F_397_8 (Nat.le_of_ble_eq_true rfl) ?_
  rw [upd_upd]
  refine asgF (ix 2 (sp _) rfl rfl) rfl (upd_at ..) F_397_9 (Nat.le_of_ble_eq_true rfl) ?_
  rw [upd_upd]
  refine asgF (ix 3 (sp _) rfl rfl) rfl (upd_at ..) F_397_10 (Nat.le_of_ble_eq_true rfl) ?_
  rw [upd_upd]
  have he7 := he.set (editOf d y).comp (editOf d y).log (editOf d y).next (editOf d y).seq false
  have s7 := sp (.inst 397 ((Edit.mk (editOf d y).comp (editOf d y).log (editOf d y).next (editOf d y).seq [] [] [] false).fs P D' A))
  show wpSs _ _ _ _ (upd τ6 r (.inst 397 ((Edit.mk (editOf d y).comp (editOf d y).log (editOf d y).next (editOf d y).seq [] [] [] false).fs P D' A))) _
  change EdAt (upd τ6 r (.inst 397 ((Edit.mk (editOf d y).comp (editOf d y).log (editOf d y).next (editOf d y).seq [] [] [] false).fs P D' A))) r P D' A [] _ at he7
  generalize upd τ6 r (.inst 397 ((Edit.mk (editOf d y).comp (editOf d y).log (editOf d y).next (editOf d y).seq [] [] [] false).fs P D' A)) = τ7 at he7 s7
  have t7 := t5.trans s7
  have p10 := PL.mulI (PL.one (a := 10) (con := con) (n := n + 30) (ρ := [some (.ref x), some (.int y), none, some (.ref w), some (.ref q4), some (.ref q5), some (adRow (0, fN)), some (adRow (11, fG y)), some (.ref q8), some (.ref r), none, none, none, none, none, none, none, none]) (σ := τ7) PV.int).r (dg 7 t7 rfl (by decide)) (by have := ok.d7; lia) (by have := ok.d7; rw [natsV_len]; unfold lim; simp; lia)
  have e10 : repL (D d 7) (natsV [10]) = natsV (itsB (if (editOf d y).reset then [It.reset] else [])) := by
    have := ok.d7
    have : D d 7 = 0 ∨ D d 7 = 1 := by lia
    rcases this with c | c <;> simp [editOf, c, repL, itsB, It.oct, natsV]
  rw [e10] at p10
  refine asgL p10 fun o τ8 fo s8 e10 => ?_
  simp only [List.set_cons_succ, List.set_cons_zero]
  clear p10
  have nq := he7.nq fo
  have he8 := he7.sub s8
  have t8 := s7.trans s8
  refine asgF (v := .bool (editOf d y).reset) (PV.eqI (dg 7 (t5.trans t8) rfl (by decide)) PV.int) rfl he8.r F_397_14 (Nat.le_of_ble_eq_true rfl) ?_
  have he9 := he8.set (editOf d y).comp (editOf d y).log (editOf d y).next (editOf d y).seq (editOf d y).reset
  have s9 : Sub τ5 (upd τ8 r (.inst 397 ((Edit.mk (editOf d y).comp (editOf d y).log (editOf d y).next (editOf d y).seq [] [] [] (editOf d y).reset).fs P D' A))) := Sub.put t8 F.r
  have o9 : upd τ8 r (.inst 397 ((Edit.mk (editOf d y).comp (editOf d y).log (editOf d y).next (editOf d y).seq [] [] [] (editOf d y).reset).fs P D' A)) o = _ := (upd_ne _ _ (ne_of_obj e10 he8.r (by intro h; cases h))).trans e10
  show wpSs _ _ _ _ (upd τ8 r (.inst 397 ((Edit.mk (editOf d y).comp (editOf d y).log (editOf d y).next (editOf d y).seq [] [] [] (editOf d y).reset).fs P D' A))) _
  change EdAt (upd τ8 r (.inst 397 ((Edit.mk (editOf d y).comp (editOf d y).log (editOf d y).next (editOf d y).seq [] [] [] (editOf d y).reset).fs P D' A))) r P D' A [] _ at he9
  generalize upd τ8 r (.inst 397 ((Edit.mk (editOf d y).comp (editOf d y).log (editOf d y).next (editOf d y).seq [] [] [] (editOf d y).reset).fs P D' A)) = τ9 at he9 s9 o9
  clear he7 he8 e10
  have h7 : ∀ {ρ : Rho} {τ : Hp}, Sub τ9 τ → ρ.get 0 = some (.ref x) → PV con (n + 30) (.cmp .eq (.idx (.var 0) (.int 7)) (.int 1)) ρ τ (.bool (editOf d y).reset) := fun s h => PV.eqI (dg 7 ((t5.trans s9).trans s) h (by decide)) PV.int
  have l2 : (editOf d y).points.length ≤ 2 ∧ (editOf d y).dropped.length ≤ 2 ∧ (editOf d y).added.length ≤ 2 := ⟨said_len, said_len, said_len⟩
  refine edit_mid (β := τ5) eok l2 F s9 he9 gw5 e4' e5' e8 nq o9 fun o τ as x2 x11 x12 x13 x14 t he ho => ?_
  exact edit_tail eok (t5.trans t) he (t _ _ gw5) (t _ _ e4') (t _ _ e5') (t _ _ e8) ho (fun s h => PV.eqI (dg 7 ((t5.trans t).trans s) h (by decide)) PV.int) h
end Mine
end
section
set_option tactic.hygienic false
set_option backward.match.sparseCases false
set_option maxRecDepth 10000
set_option linter.all false
namespace Mine
variable {con : Nat → Option (List V)} {σ : Hp} {n : Nat} {ρ : Rho} {ss : List S}
noncomputable def st (w : Nat) : List Nat := match w with
  | 0 => [3, 3, 3, 3, 3, 3, 3, 2] | 1 => [2, 2, 2, 3, 3] | 2 => [2, 2, 2, 2, 3, 3, 2, 2, 2] | _ => [2, 2, 2, 2, 2, 2, 2, 2, 2, 3, 3, 2]
structure DOk (w : Nat) (d : List Nat) : Prop where
  len : d.length = (st w).length
  lt : ∀ i, i < (st w).length → D d i < D (st w) i
theorem DOk.edit {d : List Nat} (h : DOk 0 d) : DEdit d := by
  refine ⟨h.len, fun i hi => ?_, h.lt 7 (by decide)⟩
  have := h.lt i (Nat.lt_of_lt_of_le hi (by decide))
  have e : ∀ i, i < 7 → D (st 0) i = 3 := by decide
  rw [e i hi] at this; exact this
theorem DOk.told {d : List Nat} (h : DOk 1 d) : DTold d := by
  refine ⟨h.len, fun i hi => ?_, h.lt 3 (by decide), h.lt 4 (by decide)⟩
  have := h.lt i (Nat.lt_of_lt_of_le hi (by decide))
  have e : ∀ i, i < 3 → D (st 1) i = 2 := by decide
  rw [e i hi] at this; exact this
theorem DOk.ord {d : List Nat} (h : DOk 2 d) : DOrd d := ⟨h.len, h.lt 0 (by decide), h.lt 1 (by decide), h.lt 2 (by decide), h.lt 3 (by decide), h.lt 4 (by decide), h.lt 5 (by decide), h.lt 6 (by decide), h.lt 7 (by decide), h.lt 8 (by decide)⟩
theorem DOk.word {d : List Nat} (h : DOk 3 d) : DWord d := by
  refine ⟨h.len, fun i hi => ?_, h.lt 9 (by decide), h.lt 10 (by decide), h.lt 11 (by decide)⟩
  have := h.lt i (Nat.lt_of_lt_of_le hi (by decide))
  have e : ∀ i, i < 9 → D (st 3) i = 2 := by decide
  rw [e i hi] at this; exact this
/-- _law_right -/
theorem c_911 {w x y : Nat} {d : List Nat} {Q : K1} (hw : w < 4) (hx : σ x = some (.lst (natsV d))) (ok : DOk w d) (hy : y < 2 ^ 64) (h : Q (.bool true) σ) : callN (progT con) progP (n + 32) 911 [.int w, .ref x, .int y] σ Q := by
  refine call_intro (d := ⟨3, 4, b_911, []⟩) rfl (Nat.le_refl 3) (Nat.le_refl 3) ?_
  have : w = 0 ∨ w = 1 ∨ w = 2 ∨ w = 3 := by lia
  rcases this with rfl | rfl | rfl | rfl
  · refine ite_step true (fun Q hq => testEq (PV.var rfl) rfl hq) ?_
    exact sRetE (eCall2 (EV.var rfl) (EV.var rfl) (c_887 (n := n) hx ok.edit ⟨_, Sub.refl _, h⟩))
  · refine ite_step false (fun Q hq => testEq (PV.var rfl) rfl hq) ?_
    refine ite_step true (fun Q hq => testEq (PV.var rfl) rfl hq) ?_
    exact sRetE (eCall2 (EV.var rfl) (EV.var rfl) (c_892 (n := n) hx ok.told hy ⟨_, Sub.refl _, h⟩))
  · refine ite_step false (fun Q hq => testEq (PV.var rfl) rfl hq) ?_
    refine ite_step false (fun Q hq => testEq (PV.var rfl) rfl hq) ?_
    refine ite_step true (fun Q hq => testEq (PV.var rfl) rfl hq) ?_
    exact sRetE (eCall2 (EV.var rfl) (EV.var rfl) (c_899 (n := n) hx ok.ord ⟨_, Sub.refl _, h⟩))
  · refine ite_step false (fun Q hq => testEq (PV.var rfl) rfl hq) ?_
    refine ite_step false (fun Q hq => testEq (PV.var rfl) rfl hq) ?_
    refine ite_step false (fun Q hq => testEq (PV.var rfl) rfl hq) ?_
    exact sRetE (eCall2 (EV.var rfl) (EV.var rfl) (c_904 (n := n) hx ok.word ⟨_, Sub.refl _, h⟩))
/-! ## pieces of _law_tried -/
theorem PV.mulT {e e' : E} {xs : List V} {i : Nat} (h : PV con n e ρ σ (.tup xs)) (h' : PV con n e' ρ σ (.int i)) (hx : xs ≠ []) (hi : 2 ≤ i) (hi' : i ≤ 1000) (hl : xs.length * i ≤ lim) : PV con n (.bin .mul e e') ρ σ (.tup (repL i xs)) := fun τ s Q hq => by
  refine u_bin ?_
  refine h τ s _ (h' τ s _ ?_)
  rw [L3]
  exact ⟨rfl, hx, by lia, by lia, by rw [Int.toNat_natCast]; exact hl, by rw [Int.toNat_natCast]; exact hq⟩
theorem PV.addT {e e' : E} {xs ys : List V} (h : PV con n e ρ σ (.tup xs)) (h' : PV con n e' ρ σ (.tup ys)) (hl : xs.length + ys.length ≤ lim) : PV con n (.bin .add e e') ρ σ (.tup (xs ++ ys)) := fun τ s Q hq => by
  refine u_bin ?_
  refine h τ s _ (h' τ s _ ?_)
  rw [L2]
  exact ⟨rfl, hl, hq⟩
theorem PV.lenT {e : E} {vs : List V} (h : PV con n e ρ σ (.tup vs)) (hl : vs.length ≤ lim) : PV con n (.bi .len [e]) ρ σ (.int vs.length) := fun τ s Q hq => by
  refine u_bi (ul_cons (h τ s _ (ul_nil ?_)))
  rw [L19]
  exact ⟨hl, hq⟩
theorem PV.rangeE {e : E} {k : Nat} (h : PV con n e ρ σ (.int k)) (hk : k < 1000) : PV con n (.bi .range [e]) ρ σ (.range (0 : Nat) ((0 + k : Nat) : Int)) := fun τ s Q hq => by
  refine u_bi (ul_cons (h τ s _ (ul_nil ?_)))
  rw [L25]
  refine ⟨by lia, ?_⟩
  rw [Nat.zero_add] at hq
  exact hq
theorem PL.sel4 {e a b c d : E} {w : Nat} {va vb vc vd vs : List V} (ha : PL con n a ρ σ va) (hb : PL con n b ρ σ vb) (hc : PL con n c ρ σ vc) (hd : PL con n d ρ σ vd) (he : PV con n e ρ σ (.int w)) (hw : [va, vb, vc, vd][w]? = some vs) : PL con n (.idx (.tup [a, b, c, d]) e) ρ σ vs := fun τ s Q hq => by
  refine u_idx ?_
  refine u_tup ?_
  refine ul_cons ?_
  refine ha τ s _ fun r1 τ1 f1 s1 e1 => ?_
  refine ul_cons ?_
  refine hb τ1 (s.trans s1) _ fun r2 τ2 f2 s2 e2 => ?_
  refine ul_cons ?_
  refine hc τ2 ((s.trans s1).trans s2) _ fun r3 τ3 f3 s3 e3 => ?_
  refine ul_cons ?_
  refine hd τ3 (((s.trans s1).trans s2).trans s3) _ fun r4 τ4 f4 s4 e4 => ?_
  refine ul_nil ?_
  have t := ((s1.trans s2).trans s3).trans s4
  refine ⟨Nat.le_of_ble_eq_true rfl, he τ4 (s.trans t) _ ?_⟩
  rw [L13]
  have hlt : w < 4 := (List.getElem?_eq_some_iff.mp hw).1
  have : w = 0 ∨ w = 1 ∨ w = 2 ∨ w = 3 := by lia
  rcases this with rfl | rfl | rfl | rfl
  · cases hw
    exact ⟨by lia, Nat.le_of_ble_eq_true rfl, .ref r1, rfl, hq _ _ f1 t (((s2.trans s3).trans s4) _ _ e1)⟩
  · cases hw
    exact ⟨by lia, Nat.le_of_ble_eq_true rfl, .ref r2, rfl, hq _ _ (s1.free f2) t ((s3.trans s4) _ _ e2)⟩
  · cases hw
    exact ⟨by lia, Nat.le_of_ble_eq_true rfl, .ref r3, rfl, hq _ _ ((s1.trans s2).free f3) t (s4 _ _ e3)⟩
  · cases hw
    exact ⟨by lia, Nat.le_of_ble_eq_true rfl, .ref r4, rfl, hq _ _ (((s1.trans s2).trans s3).free f4) t e4⟩
theorem contains_cast (l : List Nat) (j : Nat) : (l.map fun (i : Nat) => (i : Int)).contains (j : Int) = l.contains j := by
  induction l with
  | nil => rfl
  | cons a l ih =>
    rw [List.map_cons, List.contains_cons, List.contains_cons, ih]
    congr 1
    rw [Bool.eq_iff_iff]
    simp
    lia
/-- [p for p in range(k) if p not in parts] -/
theorem filt_go {parts : List Nat} {s : V} {all : List V} {elt : V → Hp → K1 → Prop} {test : V → Hp → (Bool → Hp → Prop) → Prop} (ht : ∀ (i : Nat) (Q : Bool → Hp → Prop), Q (!parts.contains i) σ → test (.int i) σ Q) (he : ∀ v (Q : K1), Q v σ → elt v σ Q) (hi : itemsOf σ s = some all) {Q : List V → Hp → Prop} : ∀ (vs acc : List Nat), acc.length + vs.length ≤ 1000 → Q (natsV (acc ++ vs.filter fun i => !parts.contains i)) σ →
    compLoop s all test elt (natsV vs) (natsV acc) σ Q := by
  intro vs
  induction vs with
  | nil =>
    exact fun acc _ h => ⟨hi, by simpa using h⟩
  | cons i vs ih =>
    intro acc hl h
    simp at hl
    refine ⟨hi, ht i _ ?_⟩
    induction hc : parts.contains i using Bool.casesOn with
    | true =>
      rw [if_neg (by decide)]
      refine ih acc (by lia) ?_
      rw [List.filter_cons_of_neg (by rw [hc]; decide)] at h
      exact h
    | false =>
      rw [if_pos (by decide)]
      refine he _ _ ⟨by rw [natsV_len]; unfold lim; lia, ?_⟩
      rw [show natsV acc ++ [V.int (i : Int)] = natsV (acc ++ [i]) by rw [natsV_app]; rfl]
      refine ih (acc ++ [i]) (by simp; lia) ?_
      rw [List.filter_cons_of_pos (by rw [hc]; decide)] at h
      simpa using h
theorem PL.filt {x j P k : Nat} {parts : List Nat} {it : E} (hx : ∀ v, Rho.get (ρ.set x (some v)) x = some v) (hj : ∀ v, Rho.get (ρ.set x (some v)) j = some (.ref P)) (hP : σ P = some (.lst (natsV parts))) (hit : PV con n it ρ σ (.range (0 : Nat) ((0 + k : Nat) : Int))) (hk : k ≤ 1000) :
    PL con n (.comp (.var x) x it [.cmp .notin (.var x) (.var j)]) ρ σ (natsV ((List.range k).filter fun i => !parts.contains i)) := fun τ s Q hq => by
  have hi : itemsOf τ (.range (0 : Nat) ((0 + k : Nat) : Int)) = some (natsV (List.range k)) := by
    simp only [itemsOf]
    rw [show (((0 + k : Nat) : Int) - ((0 : Nat) : Int)).toNat = k by lia]
    simp [natsV]
  refine u_comp ?_
  refine hit τ s _ ⟨_, hi, by rw [natsV_len, List.length_range]; unfold lim; lia, ?_⟩
  refine filt_go (parts := parts) (fun i Q h => ?_) (fun v Q h => ?_) hi (List.range k) [] (by simp; lia) fun r hr => ?_
  · refine ua_cons (ub_cmp ?_)
    refine u_var ⟨_, hx _, u_var ⟨_, hj _, ?_⟩⟩
    rw [L48, s _ _ hP]
    simp only
    rw [allInts_nats]
    simp only
    rw [contains_cast]
    induction hc : parts.contains i using Bool.casesOn with
    | true =>
      rw [hc] at h
      rw [if_neg (by decide)]
      exact h
    | false =>
      rw [hc] at h
      rw [if_pos (by decide)]
      exact h
  · refine u_var ?_
    exact ⟨_, hx _, h⟩
  · rw [List.nil_append]
    exact hq r _ hr (Sub.put (Sub.refl _) hr) (upd_at ..)
end Mine
end
section
set_option tactic.hygienic false
set_option backward.match.sparseCases false
set_option maxRecDepth 10000
set_option linter.all false
namespace Mine
variable {con : Nat → Option (List V)} {σ : Hp} {n : Nat} {ρ : Rho} {ss : List S}
noncomputable def pr (w : Nat) : List Nat := match w with
  | 0 => [0, 1, 2, 3] | 1 => [2, 3, 4] | 2 => [4, 5, 8] | _ => [9, 10, 11]
noncomputable def ot (w : Nat) : List Nat := (List.range (st w).length).filter fun i => !(pr w).contains i
theorem ot_ok : ∀ w, w < 4 → 0 < (ot w).length ∧ (ot w).length ≤ 12 ∧ ∀ i ∈ ot w, i < (st w).length := by decide
theorem pr_ok : ∀ w, w < 4 → (pr w).length ≤ 4 ∧ ∀ i ∈ pr w, i < (st w).length := by decide
theorem st_ok : ∀ w, w < 4 → (st w).length ≤ 12 ∧ ∀ i, i < (st w).length → 0 < D (st w) i ∧ D (st w) i ≤ 3 := by decide
noncomputable def baseOf (w y : Nat) : List Nat := (List.range (st w).length).map fun j => y / 3 ^ (0 + j) % D (st w) (0 + j)
theorem D_get {l : List Nat} {i : Nat} (h : i < l.length) : D l i = l[i] := by simp [D, List.getD, h]
theorem base_ok {w y : Nat} (hw : w < 4) : DOk w (baseOf w y) := by
  refine ⟨by simp [baseOf], fun i hi => ?_⟩
  have h := ((st_ok w hw).2 i hi).1
  rw [D_get (by simpa [baseOf] using hi)]
  simp only [baseOf, List.getElem_map, List.getElem_range, Nat.zero_add]
  exact Nat.mod_lt _ h
theorem set_ok {w p s : Nat} {b : List Nat} (ok : DOk w b) (hp : p < (st w).length) (hs : s < D (st w) p) : DOk w (b.take p ++ [s] ++ b.drop (p + 1)) := by
  have hlen : p < b.length := by rw [ok.len]; exact hp
  have e : b.take p ++ [s] ++ b.drop (p + 1) = b.set p s := by
    rw [List.set_eq_take_append_cons_drop, if_pos hlen]; simp
  rw [e]
  refine ⟨by rw [List.length_set]; exact ok.len, fun i hi => ?_⟩
  have hil : i < b.length := by rw [ok.len]; exact hi
  rw [D_get (by rw [List.length_set]; exact hil), List.getElem_set]
  split
  · rename_i h; subst h; exact hs
  · rw [← D_get hil]; exact ok.lt i hi
/-- a right call in a test -/
theorem right_run {e0 e1 e2 : E} {w z : Nat} {d : List Nat} (h0 : PV con (n + 32) e0 ρ σ (.int w)) (h1 : PR con (n + 32) e1 ρ σ (natsV d)) (h2 : PV con (n + 32) e2 ρ σ (.int z)) (hw : w < 4) (ok : DOk w d) (hz : z < 2 ^ 64) : ∀ τ, Sub σ τ → ∀ Q : Bool → Hp → Prop, (∀ υ, Sub τ υ → Q true υ) → wpB (progT con) (callN (progT con) progP (n + 32)) (.call 911 [e0, e1, e2]) ρ τ Q := fun τ s Q hq => by
  refine ub_call ?_
  refine ul_cons ?_
  refine h0 τ s _ ?_
  refine ul_cons ?_
  refine h1 τ s _ fun r υ t g => ?_
  refine ul_cons ?_
  refine h2 υ (s.trans t) _ ?_
  refine ul_nil ?_
  refine c_911 hw g ok hz ?_
  rw [L11]
  exact hq υ t
theorem PL.slc {e lo hi : E} {B l h : Nat} {v u : V} {vs : List V} (he : PV con n e ρ σ (.ref B)) (hB : σ B = some (.lst vs)) (hlo : PV con n lo ρ σ v) (hhi : PV con n hi ρ σ u) (bl : bnd 0 v = some l) (bh : bnd vs.length u = some h) (hl : vs.length ≤ lim) : PL con n (.slc e lo hi) ρ σ ((vs.take h).drop l) := fun τ s Q hq => by
  refine u_slc ?_
  refine he τ s _ (hlo τ s _ (hhi τ s _ ?_))
  rw [L17, s _ _ hB]
  exact ⟨hl, l, h, bl, bh, fun r hr => hq r _ hr (Sub.put (Sub.refl _) hr) (upd_at ..)⟩
theorem bnd_int {k d : Nat} (h : k < 1000) : bnd d (.int k) = some k := by
  have : (k : Int) < 1152921504606846976 := by lia
  simp [bnd, this]
section
variable {x0 x1 x2 x3 x4 x6 x7 x9 x10 x11 : Option V} {Q : K2} {src : V} {all : List V}
/-- for k in range(1 + more): parts.append(others[(z + k) % len(others)]) -/
theorem t4_loop {P Oo z m : Nat} {os : List Nat} (hi : ∀ τ, itemsOf τ src = some all) (hP : σ P = none) (hne : P ≠ Oo) (ho : 0 < os.length) (ho' : os.length ≤ 12) (hos : ∀ i ∈ os, i < m) : ∀ (ks acc : List Nat) (o8 : Option V) (τ : Hp), Sub σ τ → τ P = some (.lst (natsV acc)) → τ Oo = some (.lst (natsV os)) → (∀ i ∈ acc, i < m) → acc.length + ks.length ≤ 100 →
    (∀ acc o8 τ, Sub σ τ → τ P = some (.lst (natsV acc)) → (∀ i ∈ acc, i < m) → acc.length ≤ 100 → Q .next [x0, x1, some (.int z), x3, x4, some (.ref P), x6, some (.ref Oo), o8, x9, x10, x11] τ) →
    forLoop src all (fun v ρ σ Q => wpSs (progT con) (callN (progT con) progP n) [.ex (.meth (.var 5) 50 [.idx (.var 7) (.bin .mod (.bin .add (.var 2) (.var 8)) (.bi .len [.var 7]))])] (ρ.set 8 (some v)) σ Q) (natsV ks) [x0, x1, some (.int z), x3, x4, some (.ref P), x6, some (.ref Oo), o8, x9, x10, x11] τ Q := by
  intro ks
  induction ks with
  | nil =>
    exact fun acc o8 τ s hp hO hacc hl hQ => for_end (hi τ) (hQ acc o8 τ s hp hacc (by simpa using hl))
  | cons k ks ih =>
    intro acc o8 τ s hp hO hacc hl hQ
    simp at hl
    have hm : (z + k) % os.length < os.length := Nat.mod_lt _ ho
    refine for_turn (hi τ) fun R hR => ?_
    simp only [List.set_cons_succ, List.set_cons_zero]
    refine seq_step fun R2 hR2 => ?_
    have pln := PV.lenL (con := con) (n := n) (PV.var (ρ := [x0, x1, some (.int z), x3, x4, some (.ref P), x6, some (.ref Oo), some (.int k), x9, x10, x11]) (x := 7) rfl) hO (by rw [natsV_len]; unfold lim; lia)
    rw [natsV_len] at pln
    have pi := PV.idxL (con := con) (n := n) (PV.var (ρ := [x0, x1, some (.int z), x3, x4, some (.ref P), x6, some (.ref Oo), some (.int k), x9, x10, x11]) (x := 7) rfl) hO (PV.modN (PV.addN (PV.var (x := 2) rfl) (PV.var (x := 8) rfl)) pln ho) (by rw [natsV_len]; unfold lim; lia) (nats_get hm)
    refine us_ex ?_
    refine u_meth ?_
    refine u_var ?_
    refine ⟨_, rfl, 0, by rw [L31, hp]; rfl, ?_⟩
    refine ul_cons ?_
    refine pi τ (Sub.refl _) _ ?_
    refine ul_nil ?_
    rw [L31, L32, hp]
    refine ⟨rfl, rfl, by rw [natsV_len]; unfold lim; lia, ?_⟩
    rw [hR2]; clear hR2 R2
    refine ⟨_, Sub.refl _, ?_⟩
    rw [hR, show natsV acc ++ [V.int (D os ((z + k) % os.length) : Int)] = natsV (acc ++ [D os ((z + k) % os.length)]) by rw [natsV_app]; rfl]
    refine ih (acc ++ [D os ((z + k) % os.length)]) _ _ (Sub.put s hP) (upd_at ..) ((upd_ne _ _ hne.symm).trans hO) (fun i h => ?_) (by simp; lia) hQ
    rcases List.mem_append.mp h with h | h
    · exact hacc i h
    · rw [List.mem_singleton.mp h, D_get hm]
      exact hos _ (List.getElem_mem hm)
end
end Mine
end
section
set_option tactic.hygienic false
set_option backward.match.sparseCases false
set_option maxRecDepth 10000
set_option linter.all false
namespace Mine
variable {con : Nat → Option (List V)} {σ : Hp} {n : Nat} {ρ : Rho} {ss : List S}
section
variable {x1 x3 x4 x5 x7 x8 x11 : Option V} {Q : K2} {w z B : Nat} {b : List Nat}
noncomputable abbrev t10Body : List S := [.ite (.bop true [.cmp .ne (.var 10) (.idx (.var 9) (.var 6)), .not (.call 911 [.var 0, .bin .add (.bin .add (.slc (.var 9) .none (.var 6)) (.list [.var 10])) (.slc (.var 9) (.bin .add (.var 6) (.int 1)) .none), .var 2])]) [.ret (.bool false)] []]
theorem t10_body {p s : Nat} (hB : σ B = some (.lst (natsV b))) (hw : w < 4) (ok : DOk w b) (hz : z < 2 ^ 64) (hp : p < (st w).length) (hs : s < D (st w) p)
    (h : ∀ τ, Sub σ τ → Q .next [some (.int w), x1, some (.int z), x3, x4, x5, some (.int p), x7, x8, some (.ref B), some (.int s), x11] τ) :
    wpSs (progT con) (callN (progT con) progP (n + 32)) t10Body [some (.int w), x1, some (.int z), x3, x4, x5, some (.int p), x7, x8, some (.ref B), some (.int s), x11] σ Q := by
  have sl := (st_ok w hw).1
  have hbl : b.length ≤ 12 := by rw [ok.len]; exact sl
  have hpb : p < b.length := by rw [ok.len]; exact hp
  have v9 : PV con (n + 32) (.var 9) [some (.int w), x1, some (.int z), x3, x4, x5, some (.int p), x7, x8, some (.ref B), some (.int s), x11] σ (.ref B) := PV.var rfl
  have v6 : PV con (n + 32) (.var 6) [some (.int w), x1, some (.int z), x3, x4, x5, some (.int p), x7, x8, some (.ref B), some (.int s), x11] σ (.int p) := PV.var rfl
  have v10 : PV con (n + 32) (.var 10) [some (.int w), x1, some (.int z), x3, x4, x5, some (.int p), x7, x8, some (.ref B), some (.int s), x11] σ (.int s) := PV.var rfl
  have nl : (natsV b).length ≤ lim := by rw [natsV_len]; unfold lim; lia
  have pc := PV.idxL v9 hB v6 nl (nats_get hpb)
  have s1 := PL.slc v9 hB (PV.none (con := con)) v6 (l := 0) (h := p) rfl (bnd_int (by lia)) nl
  have s2 := PL.slc v9 hB (PV.addN v6 (PV.nat (i := 1))) (PV.none (con := con)) (l := p + 1) (h := b.length) (bnd_int (by lia)) (by rw [natsV_len]; rfl) nl
  have e1 : ((natsV b).take p).drop 0 = natsV (b.take p) := by simp [natsV]
  have e2 : ((natsV b).take b.length).drop (p + 1) = natsV (b.drop (p + 1)) := by
    rw [List.take_of_length_le (by rw [natsV_len]; exact Nat.le_refl _)]
    simp [natsV]
  rw [e1] at s1
  rw [e2] at s2
  have pl := addN (addN s1.r (PL.one v10).r (by simp; lia)).r s2.r (by simp; lia)
  have run := right_run (n := n) (e0 := .var 0) (e2 := .var 2) (PV.var rfl) pl.r (PV.var rfl) hw (set_ok ok hp hs) hz
  refine NB.ite (fun τ t Q hq => ?_) fun τ t => h τ t
  refine ub_bop (uc_cons (ub_cmp ?_))
  refine v10 τ t _ (pc τ t _ ?_)
  rw [L35]
  induction decide ((s : Int) = (D b p : Int)) using Bool.casesOn with
  | true =>
    rw [if_neg (by decide)]
    exact hq τ (Sub.refl _)
  | false =>
    rw [if_pos (by decide)]
    refine uc_cons (ub_not ?_)
    refine run τ t _ fun υ u => ?_
    exact hq υ u
theorem t10_loop {src : V} {all : List V} {p : Nat} (hi : ∀ τ, itemsOf τ src = some all) (hw : w < 4) (ok : DOk w b) (hz : z < 2 ^ 64) (hp : p < (st w).length) : ∀ (rest : List Nat) (o10 : Option V) (τ : Hp), τ B = some (.lst (natsV b)) → Sub σ τ → (∀ s ∈ rest, s < D (st w) p) →
    (∀ o10 τ, Sub σ τ → τ B = some (.lst (natsV b)) → Q .next [some (.int w), x1, some (.int z), x3, x4, x5, some (.int p), x7, x8, some (.ref B), o10, x11] τ) →
    forLoop src all (fun v ρ σ Q => wpSs (progT con) (callN (progT con) progP (n + 32)) t10Body (ρ.set 10 (some v)) σ Q) (natsV rest) [some (.int w), x1, some (.int z), x3, x4, x5, some (.int p), x7, x8, some (.ref B), o10, x11] τ Q := by
  intro rest
  induction rest with
  | nil =>
    exact fun o10 τ hB s _ hQ => for_end (hi τ) (hQ o10 τ s hB)
  | cons k rest ih =>
    intro o10 τ hB s hr hQ
    refine for_turn (hi τ) fun R hR => ?_
    simp only [List.set_cons_succ, List.set_cons_zero]
    refine t10_body hB hw ok hz hp (hr k (.head _)) fun τ' t => ⟨_, Sub.refl _, ?_⟩
    rw [hR]
    exact ih _ τ' (t _ _ hB) (s.trans t) (fun j hj => hr j (.tail _ hj)) hQ
end
section
variable {x1 x3 x7 x8 x11 : Option V} {Q : K2} {w z B P : Nat} {b : List Nat}
noncomputable abbrev t6Body : List S := [.for1 10 (.bi .range [.idx (.var 4) (.var 6)]) t10Body]
theorem t6_loop {all : List V} (hw : w < 4) (ok : DOk w b) (hz : z < 2 ^ 64) : ∀ (rest : List Nat) (o6 o10 : Option V) (τ : Hp), τ B = some (.lst (natsV b)) → τ P = some (.lst all) → Sub σ τ → (∀ p ∈ rest, p < (st w).length) →
    (∀ o6 o10 τ, Sub σ τ → Q .next [some (.int w), x1, some (.int z), x3, some (.tup (natsV (st w))), some (.ref P), o6, x7, x8, some (.ref B), o10, x11] τ) →
    forLoop (.ref P) all (fun v ρ σ Q => wpSs (progT con) (callN (progT con) progP (n + 32)) t6Body (ρ.set 6 (some v)) σ Q) (natsV rest) [some (.int w), x1, some (.int z), x3, some (.tup (natsV (st w))), some (.ref P), o6, x7, x8, some (.ref B), o10, x11] τ Q := by
  intro rest
  induction rest with
  | nil =>
    exact fun o6 o10 τ hB hP s _ hQ => for_end (by simp [itemsOf, hP]) (hQ o6 o10 τ s)
  | cons p rest ih =>
    intro o6 o10 τ hB hP s hr hQ
    have hp := hr p (.head _)
    have sl := (st_ok w hw).1
    have sd := ((st_ok w hw).2 p hp).2
    refine for_turn (by simp [itemsOf, hP]) fun R hR => ?_
    simp only [List.set_cons_succ, List.set_cons_zero]
    refine seq_step fun R2 hR2 => ?_
    refine us_for1 ?_
    have pi := PV.idxT (con := con) (n := n + 32) (ρ := [some (.int w), x1, some (.int z), x3, some (.tup (natsV (st w))), some (.ref P), some (.int p), x7, x8, some (.ref B), o10, x11]) (σ := τ) (PV.var (x := 4) rfl) (PV.var (x := 6) (v := .int p) rfl) (by rw [natsV_len]; unfold lim; lia) (nats_get hp)
    have hi : ∀ τ, itemsOf τ (.range (0 : Nat) ((0 + D (st w) p : Nat) : Int)) = some (natsV (List.range (D (st w) p))) := fun τ => by
      simp only [itemsOf]
      rw [show (((0 + D (st w) p : Nat) : Int) - ((0 : Nat) : Int)).toNat = D (st w) p by lia]
      simp [natsV]
    refine PV.rangeE pi (by lia) τ (Sub.refl _) _ ⟨_, hi _, by rw [natsV_len, List.length_range]; unfold lim; lia, ?_⟩
    refine t10_loop (σ := τ) (n := n) hi hw ok hz hp (List.range (D (st w) p)) o10 τ hB (Sub.refl _) (fun j hj => List.mem_range.mp hj) fun o10 τ' t hB' => ?_
    simp only
    rw [hR2]; clear hR2 R2
    refine ⟨_, Sub.refl _, ?_⟩
    rw [hR]
    exact ih _ o10 τ' hB' (t _ _ hP) (s.trans t) (fun j hj => hr j (.tail _ hj)) hQ
end
/-- _law_tried -/
theorem c_916 {Q : K1} {w y z more : Nat} (hw : w < 4) (hz : z < 2 ^ 64) (hm : more ≤ 3) (h : Q (.bool true) σ) : callN (progT con) progP (n + 33) 916 [.int w, .int y, .int z, .int more] σ Q := by
  refine call_intro (d := ⟨4, 12, b_916, []⟩) rfl (Nat.le_refl 4) (Nat.le_refl 4) ?_
  show wpSs _ _ b_916 [some (.int w), some (.int y), some (.int z), some (.int more), none, none, none, none, none, none, none, none] _ _
  have w4 : w = 0 ∨ w = 1 ∨ w = 2 ∨ w = 3 := by lia
  have v0 : ∀ {ρ : Rho} {τ : Hp}, ρ.get 0 = some (.int w) → PV con (n + 32) (.var 0) ρ τ (.int w) := fun h => PV.var h
  obtain ⟨k1, k2, k3⟩ := ot_ok w hw
  obtain ⟨k4, k5⟩ := pr_ok w hw
  obtain ⟨k6, k7⟩ := st_ok w hw
  refine asgV (v := .tup (natsV (st w))) (PV.idxT (vs := [.tup (natsV (st 0)), .tup (natsV (st 1)), .tup (natsV (st 2)), .tup (natsV (st 3))]) (PV.tup ⟨PV.addT (xs := natsV [3, 3, 3, 3, 3, 3, 3]) (ys := natsV [2]) (PV.mulT (xs := natsV [3]) (i := 7) (PV.tup ⟨PV.int, rfl⟩ (Nat.le_of_ble_eq_true rfl)) PV.int (by simp [natsV]) (by decide) (by decide) (Nat.le_of_ble_eq_true rfl)) (PV.tup ⟨PV.int, rfl⟩ (Nat.le_of_ble_eq_true rfl)) (Nat.le_of_ble_eq_true rfl),
    PV.tup ⟨PV.int, PV.int, PV.int, PV.int, PV.int, rfl⟩ (Nat.le_of_ble_eq_true rfl), PV.tup ⟨PV.int, PV.int, PV.int, PV.int, PV.int, PV.int, PV.int, PV.int, PV.int, rfl⟩ (Nat.le_of_ble_eq_true rfl),
    PV.addT (xs := natsV [2, 2, 2, 2, 2, 2, 2, 2, 2]) (ys := natsV [3, 3, 2]) (PV.mulT (xs := natsV [2]) (i := 9) (PV.tup ⟨PV.int, rfl⟩ (Nat.le_of_ble_eq_true rfl)) PV.int (by simp [natsV]) (by decide) (by decide) (Nat.le_of_ble_eq_true rfl)) (PV.tup ⟨PV.int, PV.int, PV.int, rfl⟩ (Nat.le_of_ble_eq_true rfl)) (Nat.le_of_ble_eq_true rfl), rfl⟩ (Nat.le_of_ble_eq_true rfl)) (v0 rfl) (Nat.le_of_ble_eq_true rfl) (by rcases w4 with rfl | rfl | rfl | rfl <;> rfl)) ?_
  simp only [List.set_cons_succ, List.set_cons_zero]
  refine asgL (vs := natsV (pr w)) (PL.sel4 (va := natsV (pr 0)) (vb := natsV (pr 1)) (vc := natsV (pr 2)) (vd := natsV (pr 3)) (PL.list ⟨PV.int, PV.int, PV.int, PV.int, rfl⟩ (Nat.le_of_ble_eq_true rfl)) (PL.list ⟨PV.int, PV.int, PV.int, rfl⟩ (Nat.le_of_ble_eq_true rfl)) (PL.list ⟨PV.int, PV.int, PV.int, rfl⟩ (Nat.le_of_ble_eq_true rfl)) (PL.list ⟨PV.int, PV.int, PV.int, rfl⟩ (Nat.le_of_ble_eq_true rfl)) (v0 rfl) (by rcases w4 with rfl | rfl | rfl | rfl <;> rfl)) fun P τ1 fP s1 eP => ?_
  simp only [List.set_cons_succ, List.set_cons_zero]
  have pl4 : ∀ {ρ : Rho} {τ : Hp}, ρ.get 4 = some (.tup (natsV (st w))) → PV con (n + 32) (.bi .len [.var 4]) ρ τ (.int (st w).length) := fun {ρ τ} h => by
    have := PV.lenT (con := con) (n := n + 32) (σ := τ) (PV.var h) (by rw [natsV_len]; unfold lim; lia)
    rwa [natsV_len] at this
  refine asgL (vs := natsV (ot w)) (PL.filt (fun v => rfl) (fun v => rfl) eP (PV.rangeE (pl4 rfl) (by lia)) (by lia)) fun Oo τ2 fO s2 eO => ?_
  simp only [List.set_cons_succ, List.set_cons_zero]
  have hne : P ≠ Oo := ne_of_free eP fO
  -- parts
  refine seq_step fun R hR => ?_
  refine us_for1 ?_
  have hi : ∀ τ, itemsOf τ (.range (0 : Nat) ((0 + (1 + more) : Nat) : Int)) = some (natsV (List.range (1 + more))) := fun τ => by
    simp only [itemsOf]
    rw [show (((0 + (1 + more) : Nat) : Int) - ((0 : Nat) : Int)).toNat = 1 + more by lia]
    simp [natsV]
  refine PV.rangeE (PV.addN (PV.nat (i := 1)) (PV.var rfl)) (by lia) τ2 (Sub.refl _) _ ⟨_, hi _, by rw [natsV_len, List.length_range]; unfold lim; lia, ?_⟩
  refine t4_loop (σ := σ) (m := (st w).length) hi fP hne k1 k2 k3 (List.range (1 + more)) (pr w) none τ2 (s1.trans s2) (s2 _ _ eP) eO k5 (by simp; lia) fun parts o8 τ3 s3 eP3 hp hl => ?_
  simp only
  rw [hR]; clear hR R
  -- base
  refine asgL (vs := natsV (baseOf w y)) (by
    have := PL.compR (con := con) (n := n + 32) (ρ := [some (.int w), some (.int y), some (.int z), some (.int more), some (.tup (natsV (st w))), some (.ref P), none, some (.ref Oo), o8, none, none, none]) (σ := τ3) (x := 11) (elt := .bin .mod (.bin .fdiv (.var 1) (.bin .pow (.int 3) (.var 11))) (.idx (.var 4) (.var 11))) (lo := 0) (k := (st w).length) (g := fun j => .int ((y / 3 ^ (0 + j) % D (st w) (0 + j) : Nat) : Int)) (PV.rangeE (pl4 rfl) (by lia)) (by lia) fun j hj => PV.modN (PV.fdivN (PV.var rfl) (PV.powN (PV.nat (i := 3)) (PV.var rfl) (by decide) (by lia)) (Nat.pow_pos (by decide)) (by
        have : 3 ^ (0 + j) ≤ 3 ^ 12 := Nat.pow_le_pow_right (by decide) (by lia)
        lia)) (PV.idxT (PV.var (x := 4) rfl) (PV.var rfl) (by rw [natsV_len]; unfold lim; lia) (nats_get (by lia))) (by rw [Nat.zero_add]; exact (k7 j hj).1)
    rw [show natsV (baseOf w y) = (List.range (st w).length).map fun j => V.int ((y / 3 ^ (0 + j) % D (st w) (0 + j) : Nat) : Int) by simp [natsV, baseOf]]
    exact this) fun B τ4 fB s4 eB => ?_
  simp only [List.set_cons_succ, List.set_cons_zero]
  have bok := base_ok (y := y) hw
  generalize baseOf w y = b at eB bok
  refine NB.ite (fun τ t Q hq => ?_) fun τ5 s5 => ?_
  · refine ub_not ?_
    refine right_run (n := n) (e0 := .var 0) (e2 := .var 2) (PV.var rfl) (PR.var rfl eB) (PV.var rfl) hw bok hz τ t _ fun υ u => ?_
    exact hq υ u
  refine seq_step fun R hR => ?_
  refine us_for1 ?_
  refine u_var ?_
  have eP5 := s5 _ _ (s4 _ _ eP3)
  refine ⟨_, rfl, natsV parts, by simp [itemsOf, eP5], by rw [natsV_len]; unfold lim; lia, ?_⟩
  refine t6_loop (σ := τ5) (n := n) hw bok hz parts none none τ5 (s5 _ _ eB) eP5 (Sub.refl _) hp fun o6 o10 τ6 s6 => ?_
  simp only
  rw [hR]; clear hR R
  exact retA (PV.a PV.bool) (s3.trans (s4.trans (s5.trans s6))) h
end Mine
end
section
set_option tactic.hygienic false
set_option backward.match.sparseCases false
set_option maxRecDepth 10000
set_option linter.all false
namespace Mine
variable {con : Nat → Option (List V)} {σ : Hp} {n : Nat} {ρ : Rho} {ss : List S}
/-- a draw's value is some small number -/
theorem draw_run {x i : Nat} {l : List Int} {e : E} (hx : σ x = some (.lst (l.map .int))) (hl : 0 < l.length) (h64 : l.length ≤ 64) (hb : ∀ v ∈ l, 0 ≤ v ∧ v < 999983) (hi : i ≤ 100) (he : ρ.get 1 = some (.ref x)) : ∀ Q : K1, (∀ v : Nat, v < 1200000 → Q (.int v) σ) → wpE (progT con) (callN (progT con) progP (n + 1)) (.call 840 [.var 1, .int i]) ρ σ Q := fun Q h => by
  exact ⟨_, he, c_840 hx hl h64 hb hi h⟩
theorem law_tail {x : Nat} {l : List Int} {x0 : Option V} {Q : K1} {σ0 : Hp} (hs : Sub σ0 σ) (hx : σ x = some (.lst (l.map .int))) (hl : 0 < l.length) (h64 : l.length ≤ 64) (hb : ∀ v ∈ l, 0 ≤ v ∧ v < 999983) (h : Q (.bool true) σ0) :
    wpSs (progT con) (callN (progT con) progP (n + 33)) (b_921.drop 2) [x0, some (.ref x), none, none, none] σ (fun fl _ σ' => ∃ τ, Sub τ σ' ∧ Q (match fl with | .ret v => v | .next => .none) τ) := by
  refine seq_step fun R hR => ?_
  refine draw_run (n := n + 32) (i := 0) (e := .none) hx hl h64 hb (by decide) rfl _ fun h0 b0 => ?_
  simp only
  rw [hR]; clear hR R
  simp only [List.set_cons_succ, List.set_cons_zero]
  have pln : PV con (n + 33) (.bi .len [.var 1]) [x0, some (.ref x), some (.int h0), none, none] σ (.int l.length) := by
    have := PV.lenL (con := con) (n := n + 33) (PV.var (ρ := [x0, some (.ref x), some (.int h0), none, none]) (x := 1) rfl) hx (by simp; unfold lim; lia)
    rwa [List.length_map] at this
  have pm : PV con (n + 33) (.bi .min [.int 3, .bin .fdiv (.bi .len [.var 1]) (.int 4)]) [x0, some (.ref x), some (.int h0), none, none] σ (.int ((min 3 (l.length / 4) : Nat) : Int)) := fun τ s Q hq => by
    refine PV.fdivN pln (PV.nat (i := 4)) (by decide) (by decide) τ s _ ?_
    show biP .min [.int 3, .int ((l.length / 4 : Nat) : Int)] τ Q
    rw [L30, show min (3 : Int) ((l.length / 4 : Nat) : Int) = ((min 3 (l.length / 4) : Nat) : Int) by lia]
    exact hq
  have hm : min 3 (l.length / 4) ≤ 3 := Nat.min_le_left _ _
  generalize min 3 (l.length / 4) = more at pm hm
  refine asgV pm ?_
  simp only [List.set_cons_succ, List.set_cons_zero]
  clear pm pln
  have v2 : PV con (n + 33) (.var 2) [x0, some (.ref x), some (.int h0), some (.int more), none] σ (.int h0) := PV.var rfl
  have p3 := PV.fdivN v2 (PV.nat (i := 3)) (by decide) (by decide)
  have p1 := PV.addN (PV.nat (i := 1)) (PV.modN v2 (PV.nat (i := 3)) (by decide))
  refine seq_step fun R hR => ?_
  refine p3 σ (Sub.refl _) _ ?_
  refine draw_run (n := n + 32) (i := 1) (e := .none) hx hl h64 hb (by decide) rfl _ fun d1 b1 => ?_
  show wpL _ _ _ _ _ _
  refine draw_run (n := n + 32) (i := 2) (e := .none) hx hl h64 hb (by decide) rfl _ fun d2 b2 => ?_
  refine ⟨_, rfl, ?_⟩
  show callN _ _ _ 916 [.int ((0 : Nat) : Int), .int (((h0 / 3 : Nat) : Int) + (d1 : Int)), .int d2, .int more] _ _
  rw [castAdd]
  refine c_916 (n := n) (by decide) (by lia) hm ?_
  rw [L11]
  simp only [Bool.not_true, Bool.false_eq_true, if_false]
  refine uss_nil ?_
  simp only
  rw [hR]; clear hR R
  refine seq_step fun R hR => ?_
  refine p1 σ (Sub.refl _) _ ?_
  refine p3 σ (Sub.refl _) _ ?_
  refine draw_run (n := n + 32) (i := 3) (e := .none) hx hl h64 hb (by decide) rfl _ fun d3 b3 => ?_
  show wpL _ _ _ _ _ _
  refine draw_run (n := n + 32) (i := 4) (e := .none) hx hl h64 hb (by decide) rfl _ fun d4 b4 => ?_
  refine ⟨_, rfl, ?_⟩
  show callN _ _ _ 916 [.int ((1 + h0 % 3 : Nat) : Int), .int (((h0 / 3 : Nat) : Int) + (d3 : Int)), .int d4, .int more] _ _
  rw [castAdd]
  refine c_916 (n := n) (by lia) (by lia) hm ?_
  exact ⟨σ0, hs, h⟩
end Mine
end
section
set_option tactic.hygienic false
set_option backward.match.sparseCases false
set_option maxRecDepth 10000
set_option linter.all false
namespace Mine
theorem T_con {con : Nat → Option (List V)} : (progT con).con = con := rfl
theorem take_ok (l : List Int) : ∀ v ∈ (l.take 20).map (fun i => i % 999983), 0 ≤ v ∧ v < 999983 := by
  intro v hv
  obtain ⟨i, _, rfl⟩ := List.mem_map.mp hv
  exact ⟨Int.emod_nonneg _ (by decide), Int.emod_lt_of_pos _ (by decide)⟩
theorem lawHolds (a : Nat) (l : List Int) (hl : l.length ≤ 63) : callN (progT (fun x => if x = a then some (l.map .int) else none)) progP 40 921 [.ref a] (fun _ => none) fun v _ => v = .bool true := by
  refine call_intro (d := ⟨1, 5, b_921, []⟩) rfl (Nat.le_refl 1) (Nat.le_refl 1) ?_
  show wpSs _ _ b_921 [some (.ref a), none, none, none, none] _ _
  refine seq_step fun R hR => ?_
  refine ⟨_, rfl, ?_⟩
  show wpE _ _ .none _ _ _
  refine u_none ?_
  show wpE _ _ (.int 20) _ _ _
  refine u_int ?_
  show slcP _ (.ref a) .none (.int 20) _ _
  rw [L17]
  simp only [T_con, if_pos]
  refine ⟨by simp; unfold lim; lia, 0, 20, rfl, bnd_int (k := 20) (by decide), fun r hr => ?_⟩
  have ev : ((l.map V.int).take 20).drop 0 = (l.take 20).map V.int := by rw [List.drop_zero, List.map_take]
  rw [ev]
  have hi : itemsOf (upd (fun _ => none) r (.lst ((l.take 20).map V.int))) (.ref r) = some ((l.take 20).map V.int) := by simp [itemsOf, upd_at]
  have h20 : (l.take 20).length ≤ 20 := by rw [List.length_take]; lia
  refine ⟨_, hi, by rw [List.length_map]; unfold lim; lia, ?_⟩
  refine comp_go (T := progT (fun x => if x = a then some (l.map .int) else none)) (C := fun _ _ _ _ => True) (f := fun v => match v with | .int i => .int (i % 999983) | _ => .none) (fun v σ Q h => by exact h) hi _ [] (fun v hv Q hq => ?_) (by simp; unfold lim; lia) fun q hq => ?_
  · obtain ⟨i, _, rfl⟩ := List.mem_map.mp hv
    refine ⟨_, rfl, ?_⟩
    show wpE _ _ (.int 999983) _ _ _
    exact ⟨by decide, hq⟩
  rw [hR]; clear hR R
  have eq : [] ++ ((l.take 20).map V.int).map (fun v => match v with | .int i => V.int (i % 999983) | _ => .none) = ((l.take 20).map (fun i => i % 999983)).map V.int := by
    simp [Function.comp_def]
  rw [eq]
  have hb := take_ok l
  have hlen : ((l.take 20).map (fun i => i % 999983)).length ≤ 20 := by rw [List.length_map]; exact h20
  generalize (l.take 20).map (fun i => i % 999983) = ns at hb hlen
  have hx := upd_at (upd (fun _ => none) r (.lst ((l.take 20).map V.int))) q (.lst (ns.map V.int))
  have hs : Sub (fun _ => none) (upd (upd (fun _ => none) r (.lst ((l.take 20).map V.int))) q (.lst (ns.map V.int))) := fun _ _ h => by cases h
  generalize upd (upd (fun _ => none) r (.lst ((l.take 20).map V.int))) q (.lst (ns.map V.int)) = τ at hx hs
  simp only [List.set_cons_succ, List.set_cons_zero]
  have pln : PV (fun x => if x = a then some (l.map .int) else none) 39 (.bi .len [.var 1]) [some (.ref a), some (.ref q), none, none, none] τ (.int ns.length) := by
    have := PV.lenL (con := fun x => if x = a then some (l.map .int) else none) (n := 39) (PV.var (ρ := [some (.ref a), some (.ref q), none, none, none]) (x := 1) rfl) hx (by simp; unfold lim; lia)
    rwa [List.length_map] at this
  by_cases h0 : ns.length = 0
  · refine ite_step true (fun Q hq => testEq pln (decide_eq_true (by lia)) hq) ?_
    refine asgL (vs := [0].map V.int) (PL.list ⟨PV.int, rfl⟩ (Nat.le_of_ble_eq_true rfl)) fun q' τ' _ s' e' => ?_
    simp only [List.set_cons_succ, List.set_cons_zero]
    exact law_tail (n := 6) (Q := fun v _ => v = .bool true) (σ0 := fun _ => none) (hs.trans s') e' (by decide) (by decide) (by simp) rfl
  · refine ite_step false (fun Q hq => testEq pln (decide_eq_false (by lia)) hq) ?_
    exact law_tail (n := 6) (Q := fun v _ => v = .bool true) (σ0 := fun _ => none) hs hx (by lia) (by lia) hb rfl
end Mine
end
theorem PySem.Challenge.cw_xw0275_01_holds : PySem.Challenge.rw_xw0275_01.Holds := by
  exact Mine.join fun a l h => Mine.lawHolds a l h
