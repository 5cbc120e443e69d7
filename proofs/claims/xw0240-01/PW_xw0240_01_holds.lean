import PyProof.Rows.All
import Wide.All
import OpenK.AllK
import Wide.FinOn
import Lean
import PySem.Challenge.RW_xw0240_01
set_option linter.all false
set_option Elab.async false
set_option maxRecDepth 100000
set_option maxHeartbeats 8000000

-- C0
section
open PySem PySem.W PySem.Calls PyProof.Rows
open Sem (wp)
namespace Mine

/-- a code on the stack that holds the bytearray at a -/
noncomputable def heldAt (a : Addr) (x : Code × Pos) : Bool := match x with
  | (.builtin "bytearray.__contains__" ⟨v :: _, _⟩, _) | (.builtin "bytearray.__mod__" ⟨v :: _, _⟩, _)
  | (.builtin "bytearray.__rmod__" ⟨_ :: v :: _, _⟩, _) | (.builtin "_struct.pack_into.held" ⟨v :: _, _⟩, _) => Builtin.Bytes.sameRef v (.ref a)
  | (.builtin "bytearray.find.held" ⟨_ :: _ :: held, _⟩, _) => held.any (Builtin.Bytes.sameRef (.ref a))
  | (.builtin id ⟨v :: _, _⟩, _) => Builtin.Bytes.sameRef v (.ref a) && Builtin.Bytes.decodersThatHold.contains id
  | _ => false
noncomputable def tidy (c : Code) : Prop := ∀ a p, heldAt a (c, p) = false
theorem tidy_other {id : String} {as : Args} (h : ∀ a p v r kw, heldAt a (.builtin id ⟨v :: r, kw⟩, p) = (Builtin.Bytes.sameRef v (.ref a) && Builtin.Bytes.decodersThatHold.contains id)) (hd : Builtin.Bytes.decodersThatHold.contains id = false) (hn : ∀ a p kw, heldAt a (.builtin id ⟨[], kw⟩, p) = false := by intro _ _ _; rfl) : tidy (.builtin id as) := fun a p => by
  obtain ⟨l, kw⟩ := as
  cases l with
  | nil => exact hn a p kw
  | cons v r => rw [h, hd, Bool.and_false]
noncomputable def Tidy (l : List (Code × Pos)) : Prop := ∀ x ∈ l, tidy x.1
theorem Tidy.cons {c : Code} {p : Pos} {l : List (Code × Pos)} (hc : tidy c) (h : Tidy l) : Tidy ((c, p) :: l) := fun x hx => by
  rcases List.mem_cons.mp hx with rfl | hx
  · exact hc
  · exact h x hx

/-- wpAny, over tidy stacks alone -/
noncomputable def wpC {α : Type} (M : Model) (A : Around) (t : Sem α) (Q : α → Shared → Prop) (E : Value → Shared → Prop) (s : Shared) : Prop :=
  ∀ Γ p, Γ.In A → tidy Γ.code → Tidy Γ.below → wp M Γ t (fun a _ s' => Q a s') (fun e _ s' => E e s') p s
noncomputable def codeC (M : Model) (A : Around) (c : Code) (R : Result → Shared → Prop) (s : Shared) : Prop :=
  ∀ Γ p, Γ.code = c → Γ.Below A → Tidy Γ.below → wpCode M Γ R p s

section
variable {α β : Type} {M : Model} {A : Around} {E : Value → Shared → Prop} {s : Shared}

theorem wpC_of {t : Sem α} {Q : α → Shared → Prop} (h : wpAny M A t Q E s) : wpC M A t Q E s := fun Γ p hΓ _ _ => h Γ p hΓ
theorem codeC_of {c : Code} {R : Result → Shared → Prop} (h : codeAny M A c R s) : codeC M A c R s := fun Γ p hc hΓ _ => h Γ p hc hΓ
theorem wpC_pure {a : α} {Q : α → Shared → Prop} (h : Q a s) : wpC M A (pure a) Q E s := fun _ _ _ _ _ => h
theorem wpC_mono {t : Sem α} {Q Q' : α → Shared → Prop} {E' : Value → Shared → Prop} (h : wpC M A t Q E s) (hQ : ∀ a s, Q a s → Q' a s) (hE : ∀ e s, E e s → E' e s) : wpC M A t Q' E' s :=
  fun Γ p hΓ h1 h2 => Sem.wp_mono M Γ t (fun a _ s => hQ a s) (fun e _ s => hE e s) p s (h Γ p hΓ h1 h2)
theorem wpC_bind {m : Sem α} {f : α → Sem β} {Q : β → Shared → Prop} (h : wpC M A m (fun a s' => wpC M A (f a) Q E s') E s) : wpC M A (m >>= f) Q E s := fun Γ p hΓ h1 h2 => by
  rw [Sem.wp_bind']
  exact Sem.wp_mono M Γ m (fun a p' s' h' => h' Γ p' hΓ h1 h2) (fun _ _ _ h' => h') p s (h Γ p hΓ h1 h2)
theorem wpC_lead {m : Sem α} {f : α → Sem β} {Q : β → Shared → Prop} (h : wpAny M A m (fun a s' => wpC M A (f a) Q E s') E s) : wpC M A (m >>= f) Q E s := wpC_bind (wpC_of h)
theorem wpC_onRaise {m : Sem α} {k : Value → Sem Unit} {Q : α → Shared → Prop}
    (h : wpC M A m Q (fun e s' => wpAny M A (k e) (fun _ s'' => E e s'') E s') s) : wpC M A (m.onRaise k) Q E s := fun Γ p hΓ h1 h2 => by
  rw [Sem.wp_onRaise]
  exact Sem.wp_mono M Γ m (fun _ _ _ h' => h') (fun e p' s' h' => h' Γ p' hΓ) p s (h Γ p hΓ h1 h2)
theorem wpC_holding {vs : List Value} {m : Sem α} {Q : α → Shared → Prop} (h : wpC M A m Q E s) : wpC M A (holding vs m) Q E s :=
  fun Γ p hΓ h1 h2 => by rw [Sem.wp_holding]; exact h Γ p hΓ h1 h2
theorem wpC_keep {vs : List Value} {m : Sem α} {Q : α → Shared → Prop} (h : wpC M A m Q E s) : wpC M A (m.keep vs) Q E s :=
  fun Γ p hΓ h1 h2 => by rw [Sem.wp_keep]; exact h Γ p hΓ h1 h2
theorem wpC_ite {c : Prop} [Decidable c] {a b : Sem α} {Q : α → Shared → Prop} (h1 : c → wpC M A a Q E s) (h2 : ¬ c → wpC M A b Q E s) : wpC M A (if c then a else b) Q E s := by
  split
  · exact h1 (by assumption)
  · exact h2 (by assumption)
theorem codeC_mono {c : Code} {R R' : Result → Shared → Prop} (h : codeC M A c R s) (hR : ∀ r s, R r s → R' r s) : codeC M A c R' s :=
  fun Γ p hc hΓ hT => wpCode_mono hR (h Γ p hc hΓ hT)
theorem codeC_of_tree {c : Code} {R : Result → Shared → Prop} (ht : tidy c)
    (h : wpC M (A.under c) (M.den c) (fun fin s' => match fin with | .done f => R (.ok f) s' | .again c' => c'.quiet = true ∧ codeC M A c' R s')
      (fun e s' => R (.error e) s') s) : codeC M A c R s := fun Γ p hc hΓ hT => by
  rw [wpCode_iff_wp, hc]
  refine Sem.wp_mono M Γ _ (fun fin p' s' h' => ?_) (fun _ _ _ h' => h') p s (h Γ p (hc ▸ hΓ.in) (by rw [hc]; exact ht) hT)
  cases fin with
  | done f => exact h'
  | again c' => exact ⟨h'.1, h'.2 (Γ.goto c') p' rfl (hΓ.goto c') hT⟩
theorem wpC_run {c : Code} {h : Option Value} {Q : Flow → Shared → Prop}
    (hc : codeC M (A.mark h) c (fun r s' => match r with | .ok f => Q f s' | .error e => E e s') s) (hnb : h ≠ some byPass := by intro x; cases x) : wpC M A (run c h) Q E s :=
  fun Γ p hΓ h1 h2 => by rw [Sem.wp_run]; exact hc _ p rfl (hΓ.enter c h p hnb) (Tidy.cons h1 h2)
theorem wpC_runValue {c : Code} {Q : Value → Shared → Prop}
    (hc : codeC M A c (fun r s' => match r with | .ok (.ret v) => Q v s' | .ok _ => False | .error e => E e s') s) : wpC M A (runValue c) Q E s :=
  fun Γ p hΓ h1 h2 => by rw [Sem.wp_runValue]; exact hc _ p rfl (hΓ.enter c none p (by intro x; cases x)) (Tidy.cons h1 h2)
theorem wpC_call {f : Value} {pos : List Value} {kw : List (Str × Value)} {Q : Value → Shared → Prop}
    (hc : codeC M A (.call f ⟨pos, kw⟩) (fun r s' => match r with | .ok (.ret v) => Q v s' | .ok _ => False | .error e => E e s') s) : wpC M A (call f pos kw) Q E s := wpC_runValue hc

/-- over a tidy stack no bytearray is held -/
theorem exported_no {a : Addr} {Q : Bool → Shared → Prop} (h : Q false s) : wpC M A (Builtin.Bytes.exported (.ref a)) Q E s := fun Γ p _ h1 h2 => by
  show Q (((Γ.code, p) :: Γ.below).any (heldAt a)) s
  rw [List.any_eq_false.mpr (fun x hx => by rw [Bool.not_eq_true]; exact (Tidy.cons (p := p) h1 h2) x hx a x.2)]
  exact h
end

theorem caller_tidy : tidy (.builtin "claim.caller" {}) := fun _ _ => rfl
theorem thread_ends_C {prog : Program} {w : World} {t : Sem Fin} {s : Shared} {R : Result → Shared → Prop} (hreg : s.asleep)
    (h : wpC (model prog w) callerA t (fun fin s' => ∃ f, fin = .done f ∧ (R (.ok f) s' ∧ leftWithCleanup s'.gens = false)) (fun e s' => R (.error e) s' ∧ leftWithCleanup s'.gens = false) s) :
    ∃ n r s' s'', runN (denote table) prog w n s ⟨t, .builtin "claim.caller" {}, default, []⟩ = .halted (outcomeOf r) s' ∧
      schedN (denote table) prog w n (.single s ⟨t, .builtin "claim.caller" {}, default, []⟩) = .halted (outcomeOf r) s' ∧ s'.forget = s''.forget ∧ R r s'' := by
  have h' : wp (model prog w) ⟨.builtin "claim.caller" {}, none, none, [], none⟩ t (Sem.finPost (model prog w) ⟨.builtin "claim.caller" {}, none, none, [], none⟩ fun r s' => R r s' ∧ leftWithCleanup s'.gens = false)
      (fun e _ s' => R (.error e) s' ∧ leftWithCleanup s'.gens = false) default s := by
    refine Sem.wp_mono _ _ t (fun fin p' s' h' => ?_) (fun _ _ _ h' => h') default s (h _ default caller_in caller_tidy (fun x hx => nomatch hx))
    obtain ⟨f, rfl, hf⟩ := h'
    exact hf
  obtain ⟨n, r, s₁, s₂, hs, hn, hfo, hR⟩ := wp_halts_full (M := model prog w) (R := R) hreg h'
  exact ⟨n, r, s₂, s₁, hn, hs, hfo, hR⟩

theorem callFrom_C {c : ClaimW} {tree : List Value → Sem Fin} {w : World} {s : Shared} {free : Addr → Prop} {gens : Prop} {kept : Heap → Prop} (hz : s.asleep) (hgens : s.gens = #[])
    (hspec : ∀ args, c.pre args = true → WData.layableAll args = true → ∀ ord : List DictEntry → List DictEntry, (∀ l, (ord l).Perm l) →
      ∃ vs s₁, layAllW c.records (classAt s.heap) w.params ord args s = some (vs, s₁) ∧
        wpC (model c.prog w) callerA (tree vs) (fun fin s' => ∃ f, fin = .done f ∧ (c.Ends s args vs s₁ (.ok f) s' ∧ s'.os = s.os ∧ AllBare s'.gens ∧ kept s'.heap))
          (fun e s' => c.Ends s args vs s₁ (.error e) s' ∧ s'.os = s.os ∧ AllBare s'.gens ∧ kept s'.heap) s₁) :
    c.CallFrom (fun vs => ⟨tree vs, .builtin "claim.caller" {}, default, []⟩) w free gens kept s := by
  intro args hpre hlay ord hord
  obtain ⟨vs, s₁, hlaid, hcode⟩ := hspec args hpre hlay ord hord
  have hal := layAllW_rest _ _ _ hlaid
  obtain ⟨k, r, s', s'', hh⟩ := thread_ends_C (prog := c.prog) (w := w) (t := tree vs) (s := s₁)
    (R := fun r s' => c.Ends s args vs s₁ r s' ∧ s'.os = s.os ∧ kept s'.heap) (Shared.asleep_of_life hal.2.2.2 hz)
    (wpC_mono hcode (fun fin s' h => by
      obtain ⟨f, e, h⟩ := h
      exact ⟨f, e, ⟨h.1, h.2.1, h.2.2.2⟩, leftWithCleanup_false_of_bare h.2.2.1⟩) fun e s' h => ⟨⟨h.1, h.2.1, h.2.2.2⟩, leftWithCleanup_false_of_bare h.2.2.1⟩)
  have hE := Shared.forget_eq hh.2.2.1
  have hcase := hh.2.2.2.1.congr hE.1
  have hkp : kept s'.heap := by rw [hE.1]; exact hh.2.2.2.2.2
  have hos := hh.2.2.2.2.1
  rw [← hE.2.2.2.1] at hos
  have hlife : s'.heap.life = s.heap.life := (runN_life _ _ _ hh.1).trans hal.2.2.2
  refine ⟨vs, s₁, hlaid, k, _, s', hh.2.1, ?_, (fun _ i x hx => by rw [hgens] at hx; simp at hx), hkp, by rw [hlife], Shared.rest_eq hos⟩
  rcases hcase with ⟨v, rfl, h⟩ | ⟨e, ob, cls, rfl, h⟩
  · exact .inl ⟨v, rfl, h.1, h.2.1, h.2.2.1, fun b o y _ => h.2.2.2.1 b o y, h.2.2.2.2⟩
  · exact .inr ⟨e, ob, cls, rfl, h.1, h.2.1, h.2.2.1, h.2.2.2.1, fun b o y _ => h.2.2.2.2 b o y⟩

noncomputable abbrev WalkC (q : Program) (loose : List Str) (XP : (Str → Option Value) → Heap → Prop) (YP : World → Heap → Prop) (r : RowW) (d : DefRec) (kwd : List (Str × Expr)) : Prop :=
  ∀ (w : World) (s₀ s₁ : Shared) (mg mb : Str → Option Value), Ground q loose r.records XP w s₀ mg mb s₁.heap → YP w s₁.heap → ∀ (a : Addr) (o : Obj) (pm cd doc dV kV : Value), s₁.heap.get? a = some o →
    o.data = .func { docDef d.name d.params d.body d.scope pm cd doc with defaults := dV, kwdefaults := kV } → s₁.heap.CodeRec cd d.name → Dflts mg s₁.heap d.params kwd dV kV → mg d.name = some (.ref a) → s₁.gens = #[] →
    ∀ (args : List WData) (vals : List Value) (as : List Addr), r.claim.pre args = true → WData.layableAll args = true → ReadsAllW r.records (classAt s₀.heap) s₁.heap vals args as → WellAll w.params s₁.heap vals args → (∀ a ∈ as, (a == sysModules) = false) →
      wpC (model r.prog w) callerA (PySem.call (.ref a) vals) (fun v s' => GoodWG r.claim (classAt s₀.heap) (ExcName.means s₀.heap) args s₁ (.ok (.ret v)) s')
        (fun e s' => GoodWG r.claim (classAt s₀.heap) (ExcName.means s₀.heap) args s₁ (.error e) s') s₁

/-- the head of an open law, its call asked over tidy stacks alone -/
theorem holds_C {r : OpenRow} {q : Program} {loose : List Str} {Xt : Shared → Bool} {XP : (Str → Option Value) → Heap → Prop} {α : Type} {Yf : Shared → α} {Ya : World → α} {YP : World → Heap → Prop} {d : DefRec} {kwd : List (Str × Expr)} {N : Nat}
    (left : LeftO r.prog q loose Xt Yf Ya N) (hY : ∀ w s, Yf s = Ya w → YP w s.heap) (hYk : ∀ w h h', YP w h → (∀ b o, h.get? b = some o → h'.get? b = some o) → YP w h')
    (hX : ∀ s, Xt s = true → XP (s.heap.nsMap mainGlobals) s.heap) (hXk : ∀ mg h h', XP mg h → (∀ b o, h.get? b = some o → h'.get? b = some o) → XP mg h')
    (hdef : defOf q r.name = some (d, kwd)) (hp : r.prog.theDef r.name = some (d.params, d.body, d.scope)) (hk : kwWritten? d.params.kwonlyargs d.params.kw_defaults = some kwd) (hRf : ∀ s, Xt s = true → RecFacts r.records s.heap) (hwr : (!r.writes || r.records.isEmpty) = true)
    (k1 : r.wellSaid = true) (ok : (chainsOk q && opensWell r.prog && (frees r.toRowW && r.within.isEmpty)) = true) (hb : r.prog.bare) (hw : r.toRowW.promised)
    (call : WalkC q loose XP YP r.toRowW d kwd) : r.Holds := by
  refine ⟨k1, hw, ?_⟩
  have ok0 := Bool.and_eq_true_iff.mp ok
  have ok1 := Bool.and_eq_true_iff.mp ok0.1
  have ok2 := Bool.and_eq_true_iff.mp ok0.2
  have fp := frees_parts ok2.1
  have hch := ok1.1
  have hm := fp.2.2.2.2
  refine ⟨⟨hb, ok1.2, by show r.makers.map _ = []; rw [hm]; rfl⟩, hw.witness, fun w => ⟨(left.behind hX hch w).1, fun s' hs' => ?_⟩⟩
  obtain ⟨s₀, hf, hg0, s, hT, hz, hgens, hg, G00, y⟩ := (left.behind (XP := fun mg h => XP mg h ∧ RecFacts r.records h) (fun s hs => ⟨hX s hs, hRf s hs⟩) hch w).2 s' hs'
  have G0 : Ground q loose [] XP w s (s.heap.nsMap mainGlobals) (s.heap.nsMap builtinsNs) s.heap := ⟨G00.T, G00.B, G00.D, G00.TE, G00.TD, G00.W, G00.X.1, G00.cls, G00.has, G00.apart, G00.once, G00.K⟩
  have RF := G00.X.2
  have hT' := hT
  refine ⟨s₀, hf, hg0, s, hT, fun n hn => ?_, RF.1, RF.2.1, ?_⟩
  · obtain rfl : n = r.name := by split at hn <;> simp_all
    exact pinned_of_view hg G0 hdef hp hk
  have hgens : s.gens = #[] := Array.eq_empty_of_size_eq_zero (beq_iff_eq.mp hgens)
  have G : Ground q loose r.records XP w s _ _ s.heap := RF.ground G0
  refine callFrom_C (c := r.toRowW.claim) (tree := fun vs => do match ← nsGet mainNs r.name with
      | some f => do ret (← PySem.call f vs)
      | none => unsupported "claim.caller:no-such-global") hz hgens fun args hpre hlay ord hord => ?_
  obtain ⟨⟨vs, s₁⟩, hlaid⟩ := Option.isSome_iff_exists.mp (layAllW_isSome (P := w.params) (ord := ord) G.has args r.args s (pre_splitW hpre).1)
  have keeps := layAllW_keeps _ _ _ hlaid
  have hal := layAllW_rest _ _ _ hlaid
  obtain ⟨as, hrd, hin, hold⟩ := reads_layAllW hord _ _ _ hlaid hlay s₁.heap (fun _ _ e => e)
  have L : Laid r.records w s s₁ args vs as := ⟨⟨ord, hord, hlaid⟩, hrd, hin, hold, keeps, hal.1.trans hgens, hal.2.2.1⟩
  have G₁ := G.keeps hXk keeps
  obtain ⟨a, o, pm, cd, doc, dV, kV, h1, h2, h3, h4, h5⟩ := G₁.fn hdef
  have h := call w s s₁ _ _ G₁ (hYk _ _ _ (hY w s y) keeps) a o pm cd doc dV kV h2 h3 h4 h5 (defOf_name hdef ▸ h1) L.gens args vs as hpre hlay L.reads L.well (L.low G.low)
  have hi := ident_freeW fp.2.1 fp.2.2.1 fp.2.2.2.1
  have hwi : r.toRowW.claim.within = [] := List.isEmpty_iff.mp ok2.2
  refine ⟨vs, s₁, hlaid, wpC_lead (wpAny_nsGet G₁.T.g ?_)⟩
  rw [h1]
  refine wpC_bind (wpC_mono h (fun v s' g => wpC_pure ⟨_, rfl, have z := g.laid (c := r.toRowW.claim) fp.1 hwi hi L; ⟨z.1, z.2.1, z.2.2, fun q => ⟨namesKept_of hT' hg _ keeps g.2.1.old, noTable hwr q⟩⟩⟩) fun e s' g => have z := g.laid (c := r.toRowW.claim) fp.1 hwi hi L; ⟨z.1, z.2.1, z.2.2, fun q => ⟨namesKept_of hT' hg _ keeps g.2.1.old, noTable hwr q⟩⟩)
end Mine

end

-- HeadY
section
set_option maxHeartbeats 0
open PySem PySem.W PySem.Calls PyProof.Rows
namespace Mine

/-- a list of objects laid as a tree, one by one -/
noncomputable def grow : List Obj → BT → Nat → Option BT
  | [], t, _ => some t
  | o :: r, t, n => match ((t.ins n o).get n).isSome with
    | true => grow r (t.ins n o) (n + 1)
    | false => none
theorem grow_abs {life : Life} : ∀ (l : List Obj) (t t' : BT) (n : Nat) (a : Array Obj), grow l t n = some t' → absHeap t n life = ⟨a, life⟩ →
    absHeap t' (n + l.length) life = ⟨a ++ l.toArray, life⟩
  | [], t, t', n, a, h, e => by
    obtain rfl : t = t' := Option.some.inj h
    simpa using e
  | o :: r, t, t', n, a, h, e => by
    unfold grow at h
    cases q : ((t.ins n o).get n).isSome with
    | false => rw [q] at h; cases h
    | true =>
      rw [q] at h
      have := grow_abs (life := life) r (t.ins n o) t' (n + 1) (a.push o) h (by rw [absHeap_ins q, e]; rfl)
      rw [show n + (o :: r).length = n + 1 + r.length by simp only [List.length_cons]; omega, this]
      simp

/-- the top, run over trees -/
noncomputable def goT (stp : SharedT → Thread → Option (SharedT × Thread)) (ok : Thread → Bool) : Nat → SharedT → Thread → Option SharedT
  | 0, _, _ => none
  | n + 1, s, t => match through t with
    | true => some s
    | false => match ok t with
      | false => none
      | true => match stp s t with
        | some (s', t') => goT stp ok n s' t'
        | none => none
theorem goT_spec {tb : String → Option Builtin} {p : Program} {w : World} {m : Nat} {ann : Option Value} : ∀ (n : Nat) (s s' : SharedT) (t : Thread),
    goT (stepT (denote tb) p w) (stepOk m ann) n s t = some s' → topRun tb p w m ann n s.abs t = some s'.abs
  | 0, _, _, _, h => by cases h
  | n + 1, s, s', t, h => by
    unfold goT at h
    unfold topRun
    cases ht : through t with
    | true => rw [ht] at h; rw [Option.some.inj h]
    | false =>
      rw [ht] at h
      cases hk : stepOk m ann t with
      | false => rw [hk] at h; cases h
      | true =>
        rw [hk] at h
        cases hs : stepT (denote tb) p w s t with
        | none => rw [hs] at h; cases h
        | some r => obtain ⟨s₂, t₂⟩ := r; rw [hs] at h; rw [stepT_spec hs]; exact goT_spec n s₂ s' t₂ h

noncomputable abbrev pw : Program := PySem.Challenge.pw_xw0240_01
noncomputable abbrev kept : List Nat := [0, 2, 3, 4, 5, 6, 8, 9, 10, 11, 12, 13, 14, 15, 16, 17, 18, 19, 20, 22, 23, 25, 26, 27, 28, 30, 31, 32, 33, 34, 35, 36, 37, 38, 39, 40, 41, 42, 43, 44, 45, 46, 47, 48]
noncomputable def vw : Program := view PySem.Challenge.pw_xw0240_01 kept
noncomputable abbrev lo : List Str := [Str.ofString "LockTable"]

noncomputable def twin.tw529188719308349973 : Program := PySem.Challenge.pw_xw0240_01
theorem twin.te529188719308349973 : PySem.Challenge.pw_xw0240_01 = twin.tw529188719308349973 := rfl
set_option Elab.async true in
theorem twin : Nat.ble 1 PySem.Challenge.pw_xw0240_01.main.body.length = true := by k_qdec

/-- the state where the top begins -/
noncomputable def startT (w : World) (os : OsState) : Option SharedT := (grow (boot_heap w.params).objs.toList .nil 0).map fun T => ⟨T, 11, {}, #[], boot_drawn, boot_toks, os⟩
noncomputable def runT (w : World) (os : OsState) : Option SharedT := (startT w os).bind fun s => goT (stepT (denote treeTable) PySem.Challenge.pw_xw0240_01 w) (stepOk 11 (some (.ref 6))) 5200 s (topStub PySem.Challenge.pw_xw0240_01)
noncomputable def runF (w : World) (os : OsState) : Option SharedT := (startT w os).bind fun s => goT (PySem.W.Fast.tw10156331382660048174 (PySem.W.Fast.tw11892475500146522536 PySem.W.Fast.tw14364793385576792824) PySem.Challenge.pw_xw0240_01 w) (PySem.W.Fast.tw6613529449190102663 11 (some (.ref 6))) 5200 s (topStub PySem.Challenge.pw_xw0240_01)
theorem run_eq : runT = runF := by
  funext w os
  unfold runT runF
  rw [← PySem.W.Fast.te10156331382660048174, ← PySem.W.Fast.te11892475500146522536, ← PySem.W.Fast.te14364793385576792824, ← PySem.W.Fast.te6613529449190102663]

noncomputable abbrev condsOf (p : Program) (H₀ : Params → Heap) (w : World) (s : Shared) : Bool := staticsOk (importedModules p.main.body) (H₀ w.params) s.heap && namesBound p s.heap && gensDone s && laidKept (H₀ w.params) s.heap

theorem left_gen {p q : Program} {loose : List Str} {Xt : Shared → Bool} {α : Type} {Yf : Shared → α} {Ya : World → α} {N M m₀ : Nat} {ann : Option Value} {H₀ : Params → Heap} {gs₀ : Array GenState} {d₀ : Drawn} {k₀ : Nat}
    {R : World → OsState → Option SharedT} {B : World → OsState → Option SharedT}
    (open_ : ∀ w : World, (fencedOpening treeTable p w N).map (fun s => (s.heap, s.gens, s.drawn, s.toks)) = some (H₀ w.params, gs₀, d₀, k₀))
    (size : ∀ w : World, ((H₀ w.params).isNs mainGlobals && gs₀.size == 0, (H₀ w.params).objs.size, (H₀ w.params).nsMap mainGlobals "__annotations__") = (true, m₀, ann))
    (start : ∀ (w : World) (os : OsState) (s : SharedT), B w os = some s → s.abs = ⟨H₀ w.params, gs₀, d₀, k₀, os⟩)
    (run : ∀ (w : World) (os : OsState) (s : SharedT), R w os = some s → ∃ s₀, B w os = some s₀ ∧ goT (stepT (denote treeTable) p w) (stepOk m₀ ann) M s₀ (topStub p) = some s)
    (good : ∀ w : World, (fun os => (R w os).map fun s => (condsOf p H₀ w s.abs, openSeen q loose (importedModules p.main.body) Xt true s.abs)) = fun _ => some (true, openGood q loose))
    (obs : ∀ w : World, (fun os => (R w os).map fun s => Yf s.abs) = fun _ => some (Ya w)) (le : Nat.ble M N = true) : LeftO p q loose Xt Yf Ya N := fun w => by
  obtain ⟨⟨H, gs, d, k, os⟩, e, e'⟩ := Option.map_eq_some_iff.mp (open_ w)
  obtain ⟨rfl, rfl, rfl, rfl⟩ : H = H₀ w.params ∧ gs = gs₀ ∧ d = d₀ ∧ k = k₀ := by simpa using e'
  obtain ⟨z1, z2, z3⟩ : _ ∧ _ ∧ _ := by simpa only [Prod.mk.injEq] using size w
  obtain ⟨s, hs, hg⟩ := Option.map_eq_some_iff.mp (congrFun (good w) os)
  obtain ⟨g1, g2⟩ := Prod.mk.inj hg
  obtain ⟨s', hs', y⟩ := Option.map_eq_some_iff.mp (congrFun (obs w) os)
  obtain rfl : s = s' := Option.some.inj (hs.symm.trans hs')
  obtain ⟨s0, h0, h1⟩ := run w os s hs
  have r := goT_spec _ _ _ _ h1
  rw [start w os s0 h0] at r
  have r := topRun_mono (N - M) _ _ _ _ r
  rw [show M + (N - M) = N by have := Nat.le_of_ble_eq_true le; omega] at r
  have t : topFrom treeTable p w N ⟨H₀ w.params, gs, d, k, os⟩ = some s.abs := by
    unfold topFrom
    dsimp only
    rw [z1, z2, z3, r]
    show (match condsOf p H₀ w s.abs with | true => some s.abs | false => none) = _
    rw [g1]
  unfold openEnds
  rw [e]
  show (topFrom treeTable p w N _).map _ = _
  rw [t]
  exact congrArg some (Prod.ext g2 y)

theorem top_good : ∀ w : World, (fun os => (runF w os).map fun s => (condsOf PySem.Challenge.pw_xw0240_01 boot_heap w s.abs, PySem.W.Fast.tw4187177175401517315 vw lo (importedModules PySem.Challenge.pw_xw0240_01.main.body) (fun s => xlAt vw [] s && recOk ([] : WRecords) s) true s.abs)) = fun _ => some (true, openGood vw lo) := by
  intro w
  kernel_rfl
theorem top_goodR : ∀ w : World, (fun os => (runT w os).map fun s => (condsOf pw boot_heap w s.abs, openSeen vw lo (importedModules pw.main.body) (fun s => xlAt vw [] s && recOk ([] : WRecords) s) true s.abs)) = fun _ => some (true, openGood vw lo) := by
  have h := top_good
  rw [← PySem.W.Fast.te4187177175401517315, ← run_eq] at h
  exact h
theorem start_abs (w : World) (os : OsState) (s : SharedT) (h : startT w os = some s) : s.abs = ⟨boot_heap w.params, Array.mk [], boot_drawn, boot_toks, os⟩ := by
  unfold startT at h
  obtain ⟨T, hT, rfl⟩ := Option.map_eq_some_iff.mp h
  have e : boot_heap w.params = ⟨(boot_heap w.params).objs, {}⟩ := by kernel_rfl
  have n : 0 + (boot_heap w.params).objs.toList.length = 11 := by kernel_rfl
  have := grow_abs (life := {}) _ .nil T 0 #[] hT (by kernel_rfl)
  rw [n] at this
  show (⟨absHeap T 11 {}, Array.mk [], boot_drawn, boot_toks, os⟩ : Shared) = _
  rw [this, e]
  simp
theorem run_parts (w : World) (os : OsState) (s : SharedT) (h : runT w os = some s) : ∃ s₀, startT w os = some s₀ ∧ goT (stepT (denote treeTable) pw w) (stepOk 11 (some (.ref 6))) 5200 s₀ (topStub pw) = some s := Option.bind_eq_some_iff.mp h
theorem open_is : opening pw = plainProg pw.main.scope.names := by kernel_rfl
theorem fence_is (s : Shared) : fenceModules? pw s = some s := by kernel_rfl
theorem size_is (w : World) : ((boot_heap w.params).isNs mainGlobals && (Array.mk [] : Array GenState).size == 0, (boot_heap w.params).objs.size, (boot_heap w.params).nsMap mainGlobals "__annotations__") = (true, 11, some (.ref 6)) := by kernel_rfl
theorem le_is : Nat.ble 5200 10330 = true := by decide
theorem le600 : Nat.ble 600 10330 = true := by decide
theorem left_of {α : Type} (Yf : Shared → α) (Ya : World → α) (h : ∀ w, (fun os => (runF w os).map fun s => Yf s.abs) = fun _ => some (Ya w)) :
    LeftO pw vw lo (fun s => xlAt vw [] s && recOk ([] : WRecords) s) Yf Ya 10330 :=
  left_gen (boot_open open_is le600 fence_is) size_is start_abs run_parts top_goodR (run_eq ▸ h) le_is

local macro_rules | `(tactic| o_head $H) => `(tactic| (
  refine Mine.holds_C (q := Mine.vw) (loose := Mine.lo) (Xt := fun s => xlAt Mine.vw [] s && recOk ([] : WRecords) s) (XP := XL Mine.vw []) (Yf := Hook.obs $H) (Ya := Hook.val $H) (YP := Hook.says $H) (N := 10330) ?hl (Hook.of $H) (Hook.keeps $H) (fun s e => xl_of s (Bool.and_eq_true_iff.mp e).1) XL.keeps (by rfl) (by rfl) (by rfl) (fun s e => recFacts_of (Bool.and_eq_true_iff.mp e).2) (by rfl) (by first | assumption | decide +kernel) (by decide +kernel) ⟨rfl, rfl, rfl, rfl, rfl, by decide +kernel⟩ ?hw ?hc
  (case hl => refine Mine.left_of _ _ ?_; intro w; kernel_rfl)))
open_top hd for PySem.Challenge.rw_xw0240_01
end Mine

end

-- S0
section
open PySem PySem.W PySem.Calls PyProof.Rows
namespace Mine

section
variable {prog : Program} {w : World} {A₀ A : Around} {s : Shared} {base h₀ : Heap} {outer : List Env} {L : Addr} {m mg mb : Str → Option Value} {env : Env} {news small : List (Addr × Obj)} {K : Frag} {p : Program} {loose : List Str} {mean : ExcName → Option Value}
  {R : Result → Shared → Prop} {name qual : Str} {params : Arguments} {body : List Stmt} {scope : Scope} {dV kV doc pm cdv ct oc : Value} {an od : Option Addr} {osl : Array (Option Value)} {f : Addr} {args : Args} {binds : List (Str × Value)}

/-- what of the caller's ledger is not handed to the callee stands as it stood -/
noncomputable def Rest (small news : List (Addr × Obj)) (h₀ : Heap) (L : Addr) (h : Heap) : Prop := ∀ p ∈ news, p.1 ∉ small.map (·.1) → h.get? p.1 = some p.2 ∧ p.1 ≠ L ∧ h₀.get? p.1 = none

theorem Rest.all {h : Heap} (r : Rest [] news h₀ L h) : News h₀ L h news := fun p hp => r p hp (by simp)

end

noncomputable abbrev lv : List Str := looseW Mine.vw Mine.lo

/-- the callee entered: cell_enter's lines, over enter_sub -/
local macro_rules | `(tactic| k_extra "sub_enter") => `(tactic| skip)
end Mine


end

-- X1
section
open PySem PySem.W PySem.Calls PyProof.Rows
namespace Mine
theorem take_py {x z : Int} (h0 : 0 < z) (h1 : z ≤ 4294967296) : Builtin.divisionGoesByPylong x z = false := by
  refine PyProof.noPylong_of_log2 ?_
  have : z.natAbs.log2 < 33 := (Nat.log2_lt (by omega)).mpr (by omega)
  omega
theorem fm_bits {x k : Int} (h0 : 0 < k) (h1 : k ≤ 4611686018427387904) : Builtin.Int.intBits (Int.fmod x k) ≤ 64 := by
  have a := Int.fmod_nonneg_of_pos x h0
  have b := Int.fmod_lt_of_pos x h0
  exact PySem.intBits_le_64 (by omega) (by omega)
theorem upd_mem {r : Addr} {o o' : Obj} {news news' : List (Addr × Obj)} (U : Upd r o o' news news') : (r, o) ∈ news := by
  obtain ⟨pre, post, rfl, _⟩ := U.split
  simp
theorem pick3 {x y z d : Int} (h0 : 0 ≤ d) (h1 : d < 3) : [x, y, z].getD d.toNat 0 = x ∨ [x, y, z].getD d.toNat 0 = y ∨ [x, y, z].getD d.toNat 0 = z := by
  have : d.toNat = 0 ∨ d.toNat = 1 ∨ d.toNat = 2 := by omega
  rcases this with h | h | h <;> simp [h]
theorem drop_news {h₀ : Heap} {L : Addr} {news news' : List (Addr × Obj)} {h : Heap} (N : News h₀ L h news) (hs : ∀ p ∈ news', p ∈ news) : News h₀ L h news' := fun p hp => N p (hs p hp)
end Mine

end

-- C1
section
open PySem PySem.W PySem.Calls PyProof.Rows
open Sem (wp)
namespace Mine
section
variable {M : Model} {A : Around} {E : Value → Shared → Prop} {s : Shared} {env : Env}

end

section
variable {prog : Program} {w : World} {A₀ A : Around} {s : Shared} {base h₀ : Heap} {outer : List Env} {L : Addr} {m mg mb : Str → Option Value} {env : Env} {news small : List (Addr × Obj)} {K : Frag} {p : Program} {loose : List Str} {mean : ExcName → Option Value}
  {R : Result → Shared → Prop} {name qual : Str} {params : Arguments} {body : List Stmt} {scope : Scope} {dV kV doc pm cdv ct oc : Value} {an od : Option Addr} {osl : Array (Option Value)} {f : Addr} {args : Args} {binds : List (Str × Value)}

theorem C_func {body : List Stmt} {env : Env} (h : wpC (model prog w) (A.deeper env) (execs body env) (fun f s' => R (.ok (.ret (match f with | .ret v => v | _ => .none))) s') (fun _ _ => False) s) :
    codeC (model prog w) A (.func body env) R s := by
  refine codeC_of_tree (fun _ _ => rfl) ?_
  show wpC _ (A.deeper env) (do point; match ← (execs body env).onRaise (leaving env) with | .ret v => ret v | _ => ret .none) _ _ s
  refine wpC_lead (wpAny_point (wpC_bind (wpC_onRaise (wpC_mono h (fun f s' h' => ?_) fun _ _ h' => h'.elim))))
  cases f <;> exact wpC_pure h'
theorem C_call_def {a : Addr} {o : Obj} {fd : FuncData} (hroom : A.depth < recursionLimit) (ho : s.heap.get? a = some o) (hdata : o.data = .func fd) (hlim : s.heap.NoLimit) (hcd : s.heap.CodeRec fd.code fd.qualname)
    (hbody : fd.body = .stmts body) (hbind : BindsTo s fd args binds) (hcell : ∀ x ∈ fd.scope.names, x.2 ≠ .cell) (hloc : ∀ x ∈ binds, fd.scope.names.lookup x.1 = some .local)
    (h : ∀ h₀, h₀.Ns s.heap.objs.size (fun x => binds.reverse.lookup x) → (∀ b o, s.heap.get? b = some o → h₀.get? b = some o) →
      wpC (model prog w) (A.deeper (callEnv fd s.heap.objs.size a)) (execs body (callEnv fd s.heap.objs.size a)) (fun f s' => R (.ok (.ret (match f with | .ret v => v | _ => .none))) s') (fun _ _ => False)
        { s with heap := h₀, toks := s.toks + binds.length })
    (hco : fd.scope.isCoroutine = false := by rfl) (hgen : fd.scope.isGenerator = false := by rfl) (hk : fd.scope.kind = .function := by rfl) :
    codeC (model prog w) A (.call (.ref a) args) R s := by
  refine codeC_of_tree (fun _ _ => rfl) ?_
  show wpC _ A.in1 (callAny (.ref a) args) _ _ s
  simp only [callAny]
  refine wpC_lead (wpAny_load ho ?_)
  obtain ⟨c, oc, vs, tq, hc, hoc, hdc, hq⟩ := hcd
  simp only [hdata, callFunction, hco, hgen, hbody, hc]
  refine wpC_lead (m := field (.ref c) 1) (wpAny_field hoc hdc hq (wpC_lead (wpAny_pure ?_)))
  refine wpC_lead (hbind _ _ _ _ (wpC_lead ?_))
  have key := wpAny_newFunctionEnv (M := model prog w) (A := A.in1) (E := fun e s' => R (.error e) s') (scope := fd.scope) (globals := fd.globals) (closure := fd.closure) (binds := binds) (qual := fd.qualname ++ ".<locals>.") (func := some a) (code := fd.code) (s := s)
    (Q := fun env s₂ => s₂.heap.NoLimit ∧ codeC (model prog w) A (.func body env) R s₂) hcell hloc (fun h₀ hns₀ hsb₀ => ⟨hlim.fresh _ hsb₀, C_func (h h₀ hns₀ fun b o e => hsb₀.extBut b o (Nat.ne_of_lt (Heap.lt_size e)) (Heap.get?_push_of_some _ e))⟩) hk
  rw [hc] at key
  exact wpAny_mono key (fun env s₂ h₂ => wpC_lead (wpAny_enterFrame h₂.1 hroom (wpC_pure (And.intro rfl h₂.2)))) (fun _ _ x => x)
end
end Mine

end

-- C2
section
open PySem PySem.W PySem.Calls PyProof.Rows
open Sem (wp)
namespace Mine
section
variable {prog : Program} {w : World} {A₀ A : Around} {s : Shared} {base h₀ : Heap} {outer : List Env} {L : Addr} {m mg mb : Str → Option Value} {env : Env} {news small : List (Addr × Obj)} {K : Frag} {p : Program} {loose : List Str} {mean : ExcName → Option Value}
  {R : Result → Shared → Prop} {name qual : Str} {params : Arguments} {body : List Stmt} {scope : Scope} {dV kV doc pm cdv ct oc : Value} {an od : Option Addr} {osl : Array (Option Value)} {f : Addr} {args : Args} {binds : List (Str × Value)}

/-- the law's own call: no frame below it -/
theorem C_enter_top (X₀ : K.In s.heap) (T : Top p loose mean mg mb s.heap) (hA : A.frames = some [])
    (ho : K.lookup f = some ⟨oc, od, .func (fnOf name qual params body scope dV kV doc pm an cdv ct), osl⟩) (hcd : codeIn K cdv qual = true) (hroom : A.depth < recursionLimit)
    (hbind : BindsTo s (fnOf name qual params body scope dV kV doc pm an cdv ct) args binds) (hloc : ∀ y ∈ binds, scope.names.lookup y.1 = some .local)
    (h : ∀ L' h₁, Fr s.heap L' h₁ (fun y => binds.reverse.lookup y) → Below A s.heap [] s.heap →
      wpC (model prog w) (A.deeper (envOf qual scope L' f cdv)) (execs body (envOf qual scope L' f cdv))
        (fun fl s' => R (.ok (.ret (match fl with | .ret v => v | _ => .none))) s') (fun _ _ => False)
        { s with heap := h₁, toks := s.toks + binds.length })
    (hco : scope.isCoroutine = false) (hgen : scope.isGenerator = false) (hk : scope.kind = .function)
    (hcell : ∀ x ∈ scope.names, x.2 ≠ .cell) : codeC (model prog w) A (.call (.ref f) args) R s :=
  C_call_def (fd := fnX name qual params body scope [] dV kV doc pm an cdv ct) (body := body) (binds := binds) hroom (X₀ _ _ ho) rfl T.nolimit (codeRec_of X₀ hcd) rfl hbind hcell hloc
    (fun h₁ hns hk₁ => h _ h₁ ⟨hns, hk₁, Nat.le_refl _⟩ ⟨hA, fun _ _ e => e, trivial⟩) hco hgen hk
end

section
variable {prog : Program} {w : World} {A : Around} {K : Frag} {C x : Addr} {s : Shared} {h₀ : Heap} {L : Addr} {m : Str → Option Value} {news : List (Addr × Obj)} {R : Result → Shared → Prop}
theorem tidy_make {as : Args} : tidy (.builtin "type.__call__" as) := tidy_other (fun _ _ _ _ _ => rfl) (by decide +kernel)

theorem C_builtin {id : String} {args : Args} {b : Builtin} (ht : tidy (.builtin id args)) (hb : entryFor table id = some b)
    (h : wpC (model prog w) (A.under (.builtin id args)) (b args)
      (fun fin s' => match fin with | .done f => R (.ok f) s' | .again c' => c'.quiet = true ∧ codeC (model prog w) A c' R s') (fun e s' => R (.error e) s') s) :
    codeC (model prog w) A (.builtin id args) R s := by
  refine codeC_of_tree ht ?_
  show wpC _ _ (match entryFor table id with | some b => b args | none => unsupported ((withoutEnding? id "#data").getD id)) _ _ s
  rw [hb]; exact h
theorem C_call_builtin {id : String} {args : Args} {b : Builtin} (ht : tidy (.builtin id args)) (hq : (Code.builtin id args).quiet = true) (hb : entryFor table id = some b)
    (h : wpAny (model prog w) A.in1 (checkBuiltinCall id args) (fun _ s₁ => wpC (model prog w) (A.under (.builtin id args)) (b args)
      (fun fin s' => match fin with | .done f => R (.ok f) s' | .again c' => c'.quiet = true ∧ codeC (model prog w) A c' R s') (fun e s' => R (.error e) s') s₁)
      (fun e s' => R (.error e) s') s) : codeC (model prog w) A (.call (.builtin id) args) R s := by
  refine codeC_of_tree (fun _ _ => rfl) ?_
  show wpC _ A.in1 (do checkBuiltinCall id args; again (.builtin id args)) _ _ s
  exact wpC_lead (wpAny_mono h (fun _ s₁ h₁ => wpC_pure (And.intro hq (C_builtin ht hb h₁))) fun _ _ h' => h')

theorem C_make {rest : List Value} {fI : Addr} (F : Fr h₀ L s.heap m) (N : News h₀ L s.heap news) (X : K.In s.heap) (hm : makesIn K C = true)
    (hi : findIn K (.ref C) "__init__" = some (some (.ref fI))) (hf : typeIn K (.ref fI) = some (.type "function"))
    (h : ∀ x dx h', Fr h₀ L h' m → News h₀ L h' ((x, instObj C dx) :: (dx, dictOf [] 0) :: news) → (∀ p ∈ news, p.1 < dx) → dx < x →
      codeC (model prog w) (A.under (.builtin "type.__call__" ⟨.ref C :: rest, []⟩)) (.call (.ref fI) ⟨.ref x :: rest, []⟩) (InitBack x R) { s with heap := h' }) :
    codeC (model prog w) A (.call (.ref C) ⟨rest, []⟩) R s := by
  obtain ⟨hh, g, d, t, os⟩ := s
  have Y := makes_of (M := model prog w) X hm
  have hi' := looks_findIn (M := model prog w) X hi
  have hb := fun self => bind_fn (M := model prog w) X self hf
  have hq := h _ hh.objs.size _ ((F.push emptyDict).push (instObj C hh.objs.size)) (by
    have := (N.push F emptyDict).push (F.push _) (instObj C hh.objs.size)
    rwa [Heap.size_push] at this) (fun p hp => Heap.lt_size (N p hp).1) (Nat.lt_succ_self _)
  have Y' := Y
  obtain ⟨⟨oc, od, cd, sl, hC, e1, e2, e4⟩, made, bas, self, top, call, typ⟩ := Y
  refine codeC_of_tree (fun _ _ => rfl) ?_
  show wpC _ _ (callAny (.ref C) _) _ _ _
  refine wpC_lead (wpAny_load hC ?_)
  show wpC _ _ (callAny.viaDunder (.ref C) _) _ _ _
  unfold callAny.viaDunder
  refine wpC_lead (call.here ?_)
  dsimp only
  rw [tc_bind]
  refine wpC_lead (wpAny_pure (wpC_lead (wpAny_pure ?_)))
  refine wpC_pure (a := Fin.again (.call (.builtin "type.__call__") ⟨.ref C :: rest, []⟩)) (And.intro rfl ?_)
  refine C_call_builtin tidy_make (Code.quiet_builtin _ (by decide +kernel)) entry_typeCall (check_slot tc_kind tc_split typ (tc_args _ _ _) ?_)
  unfold Builtin.«type.__call__»
  have hm : Looks (model prog w) hh (mroOf (.ref C)) cd.mro := ((Looks.ld (part := none) hC).andThen .now).andThen .now
  dsimp only
  rw [if_neg (show ¬ ((Value.ref C == Value.type "type") = true) from Bool.false_ne_true)]
  refine wpC_lead (hm.here ?_)
  rw [e4]
  refine wpC_ite (fun q => absurd q Bool.false_ne_true) fun _ => ?_
  refine wpC_lead (made.here ?_)
  refine wpC_lead (wpAny_pure ?_)
  refine wpC_lead (wpAny_holding (wpAny_call (new_K Y' hi' (.inl rfl) ?_)))
  have k : ∀ b o, hh.get? b = some o → ((hh.push emptyDict).push (instObj C hh.objs.size)).get? b = some o := fun b o e => Heap.get?_push_of_some _ (Heap.get?_push_of_some _ e)
  have hx : ((hh.push emptyDict).push (instObj C hh.objs.size)).get? (hh.objs.size + 1) = some (instObj C hh.objs.size) := by heap_get
  have t1 : Looks (model prog w) ((hh.push emptyDict).push (instObj C hh.objs.size)) (typeOf (.ref (hh.objs.size + 1))) (.ref C) := (Looks.ld hx).andThen .now
  have s1 := self.keeps k
  have i1 := hi'.keeps k
  have b1 := (hb (.ref (hh.objs.size + 1))).keeps k
  have in1 : Looks (model prog w) ((hh.push emptyDict).push (instObj C hh.objs.size)) (isInstance (.ref (hh.objs.size + 1)) (.ref C)) true := by unfold isInstance; exact t1.andThen s1
  refine wpC_lead (in1.at ?_)
  refine wpC_ite (fun q => absurd q Bool.false_ne_true) fun _ => ?_
  refine wpC_bind (wpC_holding ?_)
  unfold callSpecial? specialOf
  refine wpC_lead (wpAny_bind (t1.at (i1.at ?_)))
  dsimp only
  refine wpC_holding (wpC_lead (b1.at (wpC_bind (wpC_call (codeC_mono hq fun r s' z => ?_)))))
  rcases r with e | (v | _ | _ | _) <;> first | exact z | exact z.elim | skip
  obtain ⟨rfl, z⟩ := z
  exact wpC_pure (wpC_pure z)
end
end Mine

end

-- C3
section
open PySem PySem.W PySem.Calls PyProof.Rows
open Sem (wp)
namespace Mine
section
variable {prog : Program} {w : World} {A : Around} {E : Value → Shared → Prop} {s : Shared} {R : Result → Shared → Prop}

theorem C_callType {T newId initId : String} {Bi : Builtin} {args : List Value} {Q Q₁ : Value → Shared → Prop} (ft : TypeCalled T newId initId)
    (hct : checkTypeCall T ⟨args, []⟩ = pure ()) (entryI : entryFor table initId = some Bi) (hti : ∀ as, tidy (.builtin initId as))
    (hnew : codeAny (model prog w) A.in1 (.call (.builtin newId) ⟨.type T :: args, []⟩) (wants Q₁ E) s)
    (hnext : ∀ obj s₁, Q₁ obj s₁ → s₁.TypeIs obj T ∧ argsOk initId ⟨obj :: args, []⟩ ∧
      wpC (model prog w) A.in1.in1 (Bi ⟨obj :: args, []⟩) (fun fin s' => fin = .done (.ret .none) ∧ Q obj s') E s₁) :
    wpC (model prog w) A (call (.type T) args) Q E s := by
  obtain ⟨c, tl, hmro⟩ := ft.mro
  have hmade := ft.made
  have hsub := ft.sub
  refine wpC_call (codeC_of_tree (fun _ _ => rfl) ?_)
  show wpC _ _ (callAny (.type T) _) _ _ _
  refine wpC_pure ⟨Code.quiet_builtin _ (by decide +kernel), C_builtin tidy_make F.entry_type_call ?_⟩
  rw [Around.under_plain (weight_type_call_type T args []) rfl]
  have h1 := ft.notType
  have h2 := ft.canCreate
  unfold Builtin.«type.__call__»
  dsimp only
  rw [if_neg (by rw [h1]; exact Bool.false_ne_true)]
  refine wpC_ite (fun q => ?_) fun _ => ?_
  · exact absurd (h2.symm.trans q) Bool.false_ne_true
  rw [hct]
  refine wpC_lead (wpAny_pure ?_)
  rw [hmro]
  refine wpC_lead (wpAny_pure ?_)
  refine wpC_ite (fun q => absurd q Bool.false_ne_true) fun _ => ?_
  rw [hmade]
  refine wpC_lead (wpAny_pure ?_)
  refine wpC_lead (wpAny_pure ?_)
  refine wpC_lead (wpAny_holding (wpAny_call (codeAny_mono hnew fun r s₁ hr => ?_)))
  cases r with
  | error e => exact hr
  | ok fl =>
    cases fl with
    | ret obj =>
      obtain ⟨hT, hok, hsi⟩ := hnext _ _ hr
      have hli := ft.init.lookup
      have hbi := ft.init.bind obj
      refine wpC_lead (wpAny_isInstance hT hsub ?_)
      refine wpC_ite (fun q => absurd q Bool.false_ne_true) fun _ => ?_
      refine wpC_bind (wpC_holding ?_)
      unfold callSpecial?
      refine wpC_lead (wpAny_specialOf hT hli ?_)
      dsimp only
      rw [hbi]
      refine wpC_holding (wpC_lead (wpAny_pure ?_))
      refine wpC_bind (wpC_call (C_call_builtin (hti _) (plainId_quiet ft.init.plain _) entryI ?_))
      refine ft.init.check _ _ _ _ _ _ _ _ hT hok ?_
      rw [Around.under_plainId ft.init.plain _]
      refine wpC_mono hsi (fun fin s' hq => ?_) fun _ _ e => e
      obtain ⟨rfl, hq⟩ := hq
      exact wpC_pure (wpC_pure hq)
    | _ => exact hr.elim
end

theorem ba_mro : mroOf (.type "bytearray") = pure [.type "bytearray", .type "object"] := by rw [mroOf_type]; kernel_rfl
theorem ba_lookup_new : typeLookup (.type "bytearray") "__new__" = pure (some (.builtin "bytearray.__new__")) := by rw [typeLookup_type, builtinLookup_eq_fast]; kernel_rfl
theorem ba_slot_init : Slot "bytearray" "__init__" "bytearray.__init__" :=
  .of (owner := "bytearray") (n := "__init__") (by rw [typeLookup_type, builtinLookup_eq_fast]; kernel_rfl) (by decide +kernel) (by decide +kernel) (by decide +kernel)
    (by first | exact .inl (by decide +kernel) | exact .inr (by decide +kernel)) (by rw [isSubtype_type]; kernel_rfl)
theorem ba_sub : isSubtype (.type "bytearray") (.type "bytearray") = pure true := by rw [isSubtype_type]; kernel_rfl
theorem ba_called : TypeCalled "bytearray" "bytearray.__new__" "bytearray.__init__" :=
  ⟨by decide +kernel, by decide +kernel, ⟨_, _, ba_mro⟩, madeBy_type ba_mro ba_lookup_new (by decide +kernel), by decide +kernel, ba_sub, ba_slot_init⟩
theorem ba_typeCall0 : checkTypeCall "bytearray" ⟨[], []⟩ = pure () := by kernel_rfl
theorem ba_typeCall1 (a : Value) : checkTypeCall "bytearray" ⟨[a], []⟩ = pure () := by kernel_rfl
theorem ba_newCall0 : checkBuiltinCall "bytearray.__new__" ⟨[.type "bytearray"], []⟩ = pure () := by kernel_rfl
theorem ba_newCall1 (a : Value) : checkBuiltinCall "bytearray.__new__" ⟨[.type "bytearray", a], []⟩ = pure () := by kernel_rfl
theorem ba_plain_new : plainId "bytearray.__new__" = true := by decide +kernel
theorem ba_entry_new : entryFor table "bytearray.__new__" = some Builtin.«list.__new__» := entryFor_alias (id' := "list.__new__") (by kernel_rfl) rfl (by decide +kernel) (by kernel_rfl)
theorem ba_entry_init : entryFor table "bytearray.__init__" = some Builtin.«bytearray.__init__» := by first | exact entryFor_of_fast (by kernel_rfl) | exact entryFor_of_tree (by kernel_rfl)
theorem ba_tidy_init (as : Args) : tidy (.builtin "bytearray.__init__" as) := tidy_other (fun _ _ _ _ _ => rfl) (by decide +kernel)
theorem ba_args0 (a : Value) : argsOk "bytearray.__init__" ⟨[a], []⟩ := by unfold argsOk; kernel_rfl
theorem ba_args1 (a b : Value) : argsOk "bytearray.__init__" ⟨[a, b], []⟩ := by unfold argsOk; kernel_rfl
set_option maxRecDepth 1000000 in
theorem ba_owner : ("bytearray.__new__".splitOn ".__new__").headD "" = "bytearray" := by simp +decide [String.splitOn, String.splitOnAux]
section
variable {prog : Program} {w : World} {A : Around} {E : Value → Shared → Prop} {s : Shared} {R : Result → Shared → Prop}
theorem ba_code_new {args : List Value} (hc : checkBuiltinCall "bytearray.__new__" ⟨.type "bytearray" :: args, []⟩ = pure ()) {Q₁ : Value → Shared → Prop}
    (h : Q₁ (.ref s.heap.objs.size) { s with heap := s.heap.push { cls := .type "bytearray", data := .bytearray #[] } }) :
    codeAny (model prog w) A (.call (.builtin "bytearray.__new__") ⟨.type "bytearray" :: args, []⟩) (wants Q₁ E) s := by
  refine codeAny_of_tree ?_
  show wpAny _ A.in1 (do checkBuiltinCall "bytearray.__new__" ⟨.type "bytearray" :: args, []⟩; again (.builtin "bytearray.__new__" ⟨.type "bytearray" :: args, []⟩)) _ _ s
  refine wpAny_bind (wpAny_of_eq hc (wpAny_pure ⟨plainId_quiet ba_plain_new _, codeAny_builtin_stack ba_entry_new rfl fun p st => ?_⟩))
  rw [Around.under_plainId ba_plain_new _]
  have hsub := ba_sub
  have hown := ba_owner
  obtain ⟨hp, g, d, tk, os⟩ := s
  simp only [hown]
  wp_walk
  exact h
end
end Mine

end

-- C4
section
open PySem PySem.W PySem.Calls PyProof.Rows
open PySem.Builtin
open Sem (wp)
namespace Mine
noncomputable abbrev baObj (b : Array UInt8) : Obj := { cls := .type "bytearray", data := .bytearray b }
theorem ba_look_release : typeLookup (.type "bytearray") "__release_buffer__" = pure (some (.builtin "bytearray.__release_buffer__")) := by rw [typeLookup_type, builtinLookup_eq_fast]; kernel_rfl
theorem ba_look_buffer : typeLookup (.type "bytearray") "__buffer__" = pure (some (.builtin "bytearray.__buffer__")) := by rw [typeLookup_type, builtinLookup_eq_fast]; kernel_rfl
theorem ba_look_bytes : typeLookup (.type "bytearray") "__bytes__" = pure none := by rw [typeLookup_type, builtinLookup_eq_fast]; kernel_rfl
theorem ba_look_index : typeLookup (.type "bytearray") "__index__" = pure none := by rw [typeLookup_type, builtinLookup_eq_fast]; kernel_rfl
theorem by_look_index : typeLookup (.type "bytes") "__index__" = pure none := by rw [typeLookup_type, builtinLookup_eq_fast]; kernel_rfl
theorem by_look_int : typeLookup (.type "bytes") "__int__" = pure none := by rw [typeLookup_type, builtinLookup_eq_fast]; kernel_rfl
theorem by_look_float : typeLookup (.type "bytes") "__float__" = pure none := by rw [typeLookup_type, builtinLookup_eq_fast]; kernel_rfl
theorem ba_bind0 : Bytes.bindOptional "bytearray.__init__" "bytearray" ["source", "encoding", "errors"] [] [] = pure [none, none, none] := by kernel_rfl
theorem ba_bind1 (v : Value) : Bytes.bindOptional "bytearray.__init__" "bytearray" ["source", "encoding", "errors"] [v] [] = pure [some v, none, none] := by kernel_rfl
section
variable {M : Model} {A : Around} {E : Value → Shared → Prop} {s : Shared} {a : Addr} {b : Array UInt8}
theorem ba_typeIs (h : s.heap.get? a = some (baObj b)) : s.TypeIs (.ref a) "bytearray" := ⟨_, h, rfl⟩
theorem ba_own {name : String} {id : String} {Q : Bool → Shared → Prop} (h : s.heap.get? a = some (baObj b)) (hl : typeLookup (.type "bytearray") (Str.ofString name) = pure (some (.builtin id))) (he : (!id.endsWith ("." ++ name)) = false) (hd : id.dropRight (name.length + 1) = "bytearray")
    (hq : Q true s) : wpAny M A (Bytes.slotIsOwn (.ref a) name) Q E s := by
  unfold Bytes.slotIsOwn
  refine wpAny_bind (wpAny_specialOf (ba_typeIs h) hl ?_)
  dsimp only
  rw [he]
  refine wpAny_ite ?_
  rw [if_neg Bool.false_ne_true, hd]
  exact wpAny_isInstance (ba_typeIs h) ba_sub hq
theorem ba_ownRelease {Q : Bool → Shared → Prop} (h : s.heap.get? a = some (baObj b)) (hq : Q false s) : wpAny M A (Bytes.ownRelease (.ref a)) Q E s := by
  unfold Bytes.ownRelease
  exact wpAny_bind (ba_own h ba_look_release (by decide +kernel) (by decide +kernel) (wpAny_pure hq))
theorem ba_payload {Q : Array UInt8 → Shared → Prop} (h : s.heap.get? a = some (baObj b)) (hq : Q b s) : wpAny M A (Bytes.payload (.ref a)) Q E s := by
  unfold Bytes.payload Bytes.payload?
  exact wpAny_bind (wpAny_bind (wpAny_load h (wpAny_pure (wpAny_pure hq))))
theorem ba_exports {Q : Nat → Shared → Prop} (h : s.heap.get? a = some (baObj b)) (hq : Q 0 s) : wpAny M A (Bytes.exportsOf (.ref a)) Q E s := by
  unfold Bytes.exportsOf
  exact wpAny_bind (wpAny_load h (wpAny_pure hq))
theorem ba_write {f : Array UInt8 → Array UInt8} {Q : Unit → Shared → Prop} (h : s.heap.get? a = some (baObj b)) (hz : (f b).size ≤ 16777216)
    (hq : Q () { s with heap := s.heap.update a (Obj.mapBytearray f) }) : wpAny M A (Bytes.write (.ref a) f) Q E s := by
  unfold Bytes.write updateBytearray
  refine wpAny_bind (wpAny_load h (wpAny_bind (wpAny_update h ?_)))
  have hg : (s.heap.update a (Obj.mapBytearray f)).get? a = some (baObj (f b)) := Heap.get?_update_self _ h rfl
  refine wpAny_lookBehind hg ?_ hq
  show Data.pastItsLine (.bytearray (f b) 0) = none
  have : ¬ (f b).size > sizeLine := by rw [sizeLine_eq]; omega
  exact if_neg this
theorem ba_free {Q : Bool → Shared → Prop} (h : s.heap.get? a = some (baObj b)) (hq : Q false s) : wpC M A (Bytes.exported (.ref a) <||> (do return (← Bytes.exportsOf (.ref a)) > 0)) Q E s := by
  show wpC M A (Bytes.exported (.ref a) >>= fun c => _) Q E s
  refine wpC_bind (exported_no ?_)
  exact wpC_lead (ba_exports h (wpC_pure hq))
theorem ba_resize {Q : Unit → Shared → Prop} (h : s.heap.get? a = some (baObj b)) (hq : Q () s) : wpC M A (Bytes.checkResize (.ref a)) Q E s := by
  unfold Bytes.checkResize
  refine wpC_bind (ba_free h ?_)
  exact wpC_ite (fun q => absurd q Bool.false_ne_true) fun _ => wpC_pure hq
/-- bytearray() -/
theorem ba_init0 {Q : PySem.Fin → Shared → Prop} (h : s.heap.get? a = some (baObj b)) (hq : Q (.done (.ret .none)) { s with heap := s.heap.update a (Obj.mapBytearray fun _ => #[]) }) :
    wpC M A (Builtin.«bytearray.__init__» ⟨[.ref a], []⟩) Q E s := by
  unfold Builtin.«bytearray.__init__»
  dsimp only
  refine wpC_lead (ba_ownRelease h ?_)
  refine wpC_ite (fun q => absurd q Bool.false_ne_true) fun _ => ?_
  rw [ba_bind0]
  refine wpC_lead (wpAny_pure ?_)
  dsimp only
  refine wpC_lead (wpAny_of_eq (a := ()) rfl ?_)
  refine wpC_lead (wpAny_of_eq (a := ()) rfl ?_)
  refine wpC_bind (ba_free h ?_)
  refine wpC_ite (fun q => absurd q Bool.false_ne_true) fun _ => ?_
  refine wpC_lead (ba_write h (by decide) ?_)
  refine wpC_lead (wpAny_of_eq (a := ()) rfl ?_)
  exact wpC_pure hq
theorem by_buffer {id : String} {c : Array UInt8} {t : Tok} : Bytes.buffer? id (.bytes c t) true = pure (some c) := by
  unfold Bytes.buffer?
  rw [KBy.special_eq KBy.look_buffer, KBy.own_buffer, KBy.own_release]
  kernel_rfl
/-- bytearray(octets) -/
theorem ba_init1 {c : Array UInt8} {t : Tok} {Q : PySem.Fin → Shared → Prop} (h : s.heap.get? a = some (baObj b)) (hz : c.size ≤ 16777216)
    (hq : Q (.done (.ret .none)) { s with heap := (s.heap.update a (Obj.mapBytearray fun _ => #[])).update a (Obj.mapBytearray fun _ => c) }) :
    wpC M A (Builtin.«bytearray.__init__» ⟨[.ref a, .bytes c t], []⟩) Q E s := by
  unfold Builtin.«bytearray.__init__»
  dsimp only
  refine wpC_lead (ba_ownRelease h ?_)
  refine wpC_ite (fun q => absurd q Bool.false_ne_true) fun _ => ?_
  rw [ba_bind1]
  refine wpC_lead (wpAny_pure ?_)
  dsimp only
  refine wpC_lead (wpAny_of_eq (a := ()) rfl ?_)
  refine wpC_lead (wpAny_of_eq (a := ()) rfl ?_)
  refine wpC_bind (ba_free h ?_)
  refine wpC_ite (fun q => absurd q Bool.false_ne_true) fun _ => ?_
  refine wpC_lead (ba_write h (by decide) ?_)
  refine wpC_lead (wpAny_of_eq (a := none) rfl ?_)
  refine wpC_ite (fun q => absurd q Bool.false_ne_true) fun _ => ?_
  refine wpC_lead (wpAny_of_eq (a := ()) rfl ?_)
  rw [KBy.special_eq by_look_index]
  refine wpC_lead (wpAny_pure ?_)
  refine wpC_ite (fun q => absurd q Bool.false_ne_true) fun _ => ?_
  rw [by_buffer]
  refine wpC_lead (wpAny_pure ?_)
  dsimp only
  refine wpC_lead (wpAny_rule ?_)
  have h' : (s.heap.update a (Obj.mapBytearray fun _ => #[])).get? a = some (baObj #[]) := Heap.get?_update_self _ h rfl
  refine wpC_lead (ba_write (s := { s with heap := s.heap.update a (Obj.mapBytearray fun _ => #[]) }) h' hz ?_)
  exact wpC_pure hq
end
end Mine

end

-- C5
section
open PySem PySem.W PySem.Calls PyProof.Rows
open PySem.Builtin
open Sem (wp)
namespace Mine
section
variable {prog : Program} {w : World} {A : Around} {E : Value → Shared → Prop} {s : Shared} {h₀ : Heap} {L : Addr} {m : Str → Option Value} {news : List (Addr × Obj)}
theorem C_bytearray0 {Q : Value → Shared → Prop} (F : Fr h₀ L s.heap m) (N : News h₀ L s.heap news)
    (h : ∀ x h', Fr h₀ L h' m → News h₀ L h' ((x, baObj #[]) :: news) → (∀ p ∈ news, p.1 < x) → Q (.ref x) { s with heap := h' }) : wpC (model prog w) A (call (.type "bytearray") []) Q E s := by
  have hlt : ∀ p ∈ news, p.1 < s.heap.objs.size := fun p hp => Heap.lt_size (N p hp).1
  have N1 := N.push F (baObj #[])
  have u := news_upd (pre := []) (post := news) (f := Obj.mapBytearray fun _ => #[]) (o' := baObj #[]) (F.push (baObj #[])) N1 (fun _ h => nomatch h) (fun p hp => Nat.ne_of_lt (hlt p hp)) rfl rfl
  refine C_callType (Q₁ := fun obj s₁ => obj = .ref s.heap.objs.size ∧ s₁ = { s with heap := s.heap.push (baObj #[]) }) ba_called ba_typeCall0 ba_entry_init ba_tidy_init (ba_code_new ba_newCall0 ⟨rfl, rfl⟩) fun obj s₁ hs => ?_
  obtain ⟨rfl, rfl⟩ := hs
  have hx : (s.heap.push (baObj #[])).get? s.heap.objs.size = some (baObj #[]) := Heap.get?_push_size _ rfl
  exact ⟨ba_typeIs hx, ba_args0 _, ba_init0 (s := { s with heap := s.heap.push (baObj #[]) }) hx ⟨rfl, h _ _ u.1 u.2 hlt⟩⟩
theorem C_bytearray1 {c : Array UInt8} {t : Tok} {Q : Value → Shared → Prop} (F : Fr h₀ L s.heap m) (N : News h₀ L s.heap news) (hz : c.size ≤ 16777216)
    (h : ∀ x h', Fr h₀ L h' m → News h₀ L h' ((x, baObj c) :: news) → (∀ p ∈ news, p.1 < x) → Q (.ref x) { s with heap := h' }) : wpC (model prog w) A (call (.type "bytearray") [.bytes c t]) Q E s := by
  have hlt : ∀ p ∈ news, p.1 < s.heap.objs.size := fun p hp => Heap.lt_size (N p hp).1
  have N1 := N.push F (baObj #[])
  have u := news_upd (pre := []) (post := news) (f := Obj.mapBytearray fun _ => #[]) (o' := baObj #[]) (F.push (baObj #[])) N1 (fun _ h => nomatch h) (fun p hp => Nat.ne_of_lt (hlt p hp)) rfl rfl
  have u2 := news_upd (pre := []) (post := news) (f := Obj.mapBytearray fun _ => c) (o' := baObj c) u.1 u.2 (fun _ h => nomatch h) (fun p hp => Nat.ne_of_lt (hlt p hp)) rfl rfl
  refine C_callType (Q₁ := fun obj s₁ => obj = .ref s.heap.objs.size ∧ s₁ = { s with heap := s.heap.push (baObj #[]) }) ba_called (ba_typeCall1 _) ba_entry_init ba_tidy_init (ba_code_new (ba_newCall1 _) ⟨rfl, rfl⟩) fun obj s₁ hs => ?_
  obtain ⟨rfl, rfl⟩ := hs
  have hx : (s.heap.push (baObj #[])).get? s.heap.objs.size = some (baObj #[]) := Heap.get?_push_size _ rfl
  exact ⟨ba_typeIs hx, ba_args1 _ _, ba_init1 (s := { s with heap := s.heap.push (baObj #[]) }) hx hz ⟨rfl, h _ _ u2.1 u2.2 hlt⟩⟩
end
end Mine

end

-- C6
section
open PySem PySem.W PySem.Calls PyProof.Rows
open PySem.Builtin
open Sem (wp)
namespace Mine
theorem ba_slot_getitem : Slot "bytearray" "__getitem__" "bytearray.__getitem__" :=
  .of (owner := "bytearray") (n := "__getitem__") (by rw [typeLookup_type, builtinLookup_eq_fast]; kernel_rfl) (by decide +kernel) (by decide +kernel) (by decide +kernel)
    (by first | exact .inl (by decide +kernel) | exact .inr (by decide +kernel)) (by rw [isSubtype_type]; kernel_rfl)
theorem ba_slot_setitem : Slot "bytearray" "__setitem__" "bytearray.__setitem__" :=
  .of (owner := "bytearray") (n := "__setitem__") (by rw [typeLookup_type, builtinLookup_eq_fast]; kernel_rfl) (by decide +kernel) (by decide +kernel) (by decide +kernel)
    (by first | exact .inl (by decide +kernel) | exact .inr (by decide +kernel)) (by rw [isSubtype_type]; kernel_rfl)
theorem ba_slot_len : Slot "bytearray" "__len__" "bytearray.__len__" :=
  .of (owner := "bytearray") (n := "__len__") (by rw [typeLookup_type, builtinLookup_eq_fast]; kernel_rfl) (by decide +kernel) (by decide +kernel) (by decide +kernel)
    (by first | exact .inl (by decide +kernel) | exact .inr (by decide +kernel)) (by rw [isSubtype_type]; kernel_rfl)
theorem ba_entry_getitem : entryFor table "bytearray.__getitem__" = some Builtin.«bytearray.__getitem__» := by first | exact entryFor_of_fast (by kernel_rfl) | exact entryFor_of_tree (by kernel_rfl)
theorem ba_entry_setitem : entryFor table "bytearray.__setitem__" = some Builtin.«bytearray.__setitem__» := by first | exact entryFor_of_fast (by kernel_rfl) | exact entryFor_of_tree (by kernel_rfl)
theorem ba_entry_len : entryFor table "bytearray.__len__" = some Builtin.«bytearray.__len__» := by first | exact entryFor_of_fast (by kernel_rfl) | exact entryFor_of_tree (by kernel_rfl)
theorem ba_args_getitem (a b : Value) : argsOk "bytearray.__getitem__" ⟨[a, b], []⟩ := by unfold argsOk; kernel_rfl
theorem ba_args_setitem (a b c : Value) : argsOk "bytearray.__setitem__" ⟨[a, b, c], []⟩ := by unfold argsOk; kernel_rfl
theorem ba_args_len (a : Value) : argsOk "bytearray.__len__" ⟨[a], []⟩ := by unfold argsOk; kernel_rfl
theorem ba_tidy_setitem (as : Args) : tidy (.builtin "bytearray.__setitem__" as) := tidy_other (fun _ _ _ _ _ => rfl) (by decide +kernel)

noncomputable abbrev slObj (l u : Value) : Obj := { cls := .type "slice", data := .fields #[l, u, .none] }
section
variable {prog : Program} {w : World} {A : Around} {E : Value → Shared → Prop} {s : Shared} {h₀ : Heap} {L a sl : Addr} {m : Str → Option Value} {news : List (Addr × Obj)} {b : Array UInt8} {l u : Value} {lo hi : Option Int}

theorem slice_parts {M : Model} {Q : Value × Value × Value → Shared → Prop} (ho : s.heap.get? sl = some (slObj l u)) (hl : IsPart l lo) (hu : IsPart u hi) (hq : Q (rawPart lo, rawPart hi, rawPart none) s) : wpAny M A (Bytes.sliceParts (.ref sl)) Q E s := by
  unfold Bytes.sliceParts
  refine wpAny_bind (wpAny_field (x := .none) ho rfl rfl ?_)
  kby_none
  refine wpAny_ite (KBy.ite_no (show ¬ ((Value.none == rawInt 0) = true) from Bool.false_ne_true) ?_)
  refine wpAny_bind (wpAny_field (x := l) ho rfl rfl ?_)
  cases hl <;> cases hu <;> (first
    | (kby_none; (refine wpAny_bind (wpAny_field (x := .none) ho rfl rfl ?_)); kby_none)
    | (kby_none; (refine wpAny_bind (wpAny_field (x := .int _ _) ho rfl rfl ?_)); kby_int)
    | (kby_int; (refine wpAny_bind (wpAny_field (x := .none) ho rfl rfl ?_)); kby_none)
    | (kby_int; (refine wpAny_bind (wpAny_field (x := .int _ _) ho rfl rfl ?_)); kby_int)) <;> exact wpAny_pure hq

theorem ba_getitem {Q : PySem.Fin → Shared → Prop} (h : s.heap.get? a = some (baObj b)) (ho : s.heap.get? sl = some (slObj l u)) (hl : IsPart l lo) (hu : IsPart u hi) (hz : (KBy.picked b lo hi).size ≤ 16777216)
    (hq : Q (.done (.ret (.ref s.heap.objs.size))) { s with heap := s.heap.push (baObj (KBy.picked b lo hi)) }) : wpAny (model prog w) A (Builtin.«bytearray.__getitem__» ⟨[.ref a, .ref sl], []⟩) Q E s := by
  have hT : s.TypeIs (.ref sl) "slice" := ⟨_, ho, rfl⟩
  show wpAny _ _ (Bytes.subscript? (.ref sl) >>= fun r => _) _ _ s
  refine wpAny_bind ?_
  unfold Bytes.subscript?
  refine wpAny_bind (wpAny_specialOf hT slice_no_index (wpAny_pure ?_))
  refine wpAny_bind (wpAny_typeOf hT ?_)
  show wpAny _ _ (Bytes.sliceParts (.ref sl) >>= fun r => _) _ _ s
  refine wpAny_bind (slice_parts ho hl hu ?_)
  refine wpAny_bind (ba_payload h ?_)
  refine wpAny_bind (wpAny_of_eq (sliceIndices_raw lo hi none b.size (fun e => nomatch e)) ?_)
  refine wpAny_bind ?_
  unfold Bytes.newBytearray
  refine wpAny_newObj_type (wpAny_pure hq) ?_
  show (KBy.picked b lo hi).size ≤ sizeLine
  rw [sizeLine_eq]; exact hz
theorem ba_len {Q : Value → Shared → Prop} (h : s.heap.get? a = some (baObj b)) (hz : b.size ≤ 16777216) (hq : Q (.int b.size (s.toks + 1)) { s with toks := s.toks + 1 + 1 }) : wpAny (model prog w) A (call (.builtin "len") [.ref a]) Q E s := by
  refine Calls.call_function_entry kind_len plain_len entry_len (args_len1 _) ?_
  unfold Builtin.«len»
  refine wpAny_bind (m := oneArg "len" _) (wpAny_pure ?_)
  refine wpAny_bind (m := callSpecial? (.ref a) (Str.ofString "__len__")) (wpAny_callSpecial?_slot (name := Str.ofString "__len__") (ba_typeIs h) ba_slot_len (wpAny_call_entry ba_slot_len (ba_typeIs h) ba_entry_len ?_ (ba_args_len _)))
  show wpAny _ _ (do retInt (← Bytes.payload (.ref a)).size) _ _ s
  refine wpAny_bind (ba_payload h ?_)
  refine wpAny_bind (wpAny_mkInt (wpAny_pure ⟨_, rfl, ?_⟩))
  refine wpAny_bind (wpAny_holding (wpAny_pure ?_))
  refine wpAny_bind (wpAny_letGo ?_)
  show wpAny _ _ (if (b.size : Int) < 0 then _ else _) _ _ _
  rw [if_neg (by omega)]
  show wpAny _ _ (if (b.size : Int) ≥ 2 ^ 63 then _ else _) _ _ _
  rw [if_neg (by omega)]
  exact wpAny_bind (wpAny_mkInt (wpAny_pure ⟨_, rfl, hq⟩))

theorem ba_new_bytes {Q : Value → Shared → Prop} (h : s.heap.get? a = some (baObj b)) (hz : b.size ≤ 16777216) (hQ : ∀ t k, Q (.bytes b t) { s with toks := k }) :
    codeAny (model prog w) A (.call (.builtin "bytes.__new__") ⟨[.type "bytes", .ref a], []⟩) (wants Q E) s := by
  refine codeAny_of_tree ?_
  show wpAny _ A.in1 (do checkBuiltinCall "bytes.__new__" ⟨[.type "bytes", .ref a], []⟩; again (.builtin "bytes.__new__" ⟨[.type "bytes", .ref a], []⟩)) _ _ s
  refine wpAny_bind (wpAny_of_eq (F.bm_newCall _) (wpAny_pure ⟨plainId_quiet F.bm_plain _, codeAny_builtin F.bm_entry ?_⟩))
  rw [Around.under_plainId F.bm_plain _]
  have hT := ba_typeIs h
  unfold Builtin.«bytes.__new__»
  refine wpAny_bind (wpAny_of_eq (a := true) rfl ?_)
  refine bm_if_false rfl ?_
  refine wpAny_bind (wpAny_of_eq F.bm_sub ?_)
  refine bm_if_false rfl ?_
  refine wpAny_bind (wpAny_of_eq (F.bm_bind _) ?_)
  refine wpAny_bind (wpAny_of_eq (a := ()) rfl ?_)
  refine wpAny_bind (wpAny_of_eq (a := ()) rfl ?_)
  refine bm_if_false rfl ?_
  refine wpAny_bind (wpAny_specialOf hT ba_look_bytes ?_)
  refine wpAny_bind (wpAny_bind ?_)
  show wpAny _ _ (load a >>= _) _ _ _
  refine wpAny_bind (wpAny_load h ?_)
  refine wpAny_pure (wpAny_pure ?_)
  refine bm_if_false rfl ?_
  refine wpAny_bind (wpAny_specialOf hT ba_look_index ?_)
  refine bm_if_true rfl ?_
  first
    | show wpAny _ _ (Builtin.Bytes.buffer? "bytes.__new__" (.ref a) true >>= _) _ _ _
    | (refine wpAny_bind ?_; show wpAny _ _ (Builtin.Bytes.buffer? "bytes.__new__" (.ref a) true >>= _) _ _ _)
  refine wpAny_bind ?_
  unfold Builtin.Bytes.buffer?
  refine wpAny_bind (wpAny_specialOf hT ba_look_buffer ?_)
  refine wpAny_bind (ba_own h ba_look_buffer (by decide +kernel) (by decide +kernel) ?_)
  refine bm_if_false rfl ?_
  refine wpAny_bind (wpAny_specialOf hT ba_look_buffer ?_)
  refine wpAny_bind (ba_ownRelease h ?_)
  refine bm_if_false rfl ?_
  refine wpAny_bind (ba_payload h ?_)
  refine wpAny_pure ?_
  dsimp only
  refine wpAny_bind (wpAny_rule ?_)
  refine wpAny_bind (wpAny_mkBytes ?_ (by rw [sizeLine_eq]; exact hz))
  show wpAny _ _ (if (Value.type "bytes" == Value.type "bytes") = true then _ else _) _ _ _
  refine bm_if_true (by decide) ?_
  first
    | exact wpAny_pure (hQ _ _)
    | exact wpAny_bind (wpAny_pure (wpAny_pure (hQ _ _)))
theorem ba_bytes {Q : Value → Shared → Prop} (h : s.heap.get? a = some (baObj b)) (hz : b.size ≤ 16777216) (hQ : ∀ t k, Q (.bytes b t) { s with toks := k }) : wpAny (model prog w) A (call (.type "bytes") [.ref a]) Q E s := by
  refine callType_codes (Q₁ := fun obj s₁ => s₁.TypeIs obj "bytes" ∧ Q obj s₁) F.bm_called (F.bm_typeCall _) F.entry_object_init
    (ba_new_bytes h hz fun t k => ⟨PySem.W.typeIs_bytes _ _ _, hQ t k⟩) fun obj s₁ h₁ => ?_
  exact ⟨h₁.1, F.args_object_init_2 obj _, object_init_meets F.bm_called.init.lookup F.bm_called.made (by decide) prog w A.in1 _ s₁ ⟨h₁.1, rfl, h₁.2⟩⟩
end
end Mine

end

-- C7
section
open PySem PySem.W PySem.Calls PyProof.Rows
open PySem.Builtin
open Sem (wp)
namespace Mine
theorem by_not_ba : isSubtype (.type "bytes") (.type "bytearray") = pure false := by rw [isSubtype_type]; kernel_rfl
theorem by_not_complex : isSubtype (.type "bytes") (.type "complex") = pure false := by rw [isSubtype_type]; kernel_rfl
theorem by_isInstance {T : String} {r : Bool} {c : Array UInt8} {t : Tok} (h : isSubtype (.type "bytes") (.type T) = pure r) : isInstance (.bytes c t) (.type T) = pure r := by
  have e : isInstance (.bytes c t) (.type T) = isSubtype (.type "bytes") (.type T) := rfl
  rw [e, h]
/-- a bytearray with a slice of it put anew -/
noncomputable def spliced (b : Array UInt8) (lo hi : Option Int) (c : Array UInt8) : Array UInt8 :=
  b.extract 0 (sliceBounds lo hi none b.size).1.toNat ++ c ++ b.extract (max (sliceBounds lo hi none b.size).1 (sliceBounds lo hi none b.size).2.1).toNat b.size
section
variable {prog : Program} {w : World} {A : Around} {E : Value → Shared → Prop} {s : Shared} {h₀ : Heap} {L a sl : Addr} {m : Str → Option Value} {news news' : List (Addr × Obj)} {b c : Array UInt8} {t : Tok} {l u : Value} {lo hi : Option Int}
theorem ba_setitem {Q : PySem.Fin → Shared → Prop} (F : Fr h₀ L s.heap m) (N : News h₀ L s.heap news) (hm : (sl, slObj l u) ∈ news) (U : Upd a (baObj b) (baObj (spliced b lo hi c)) news news') (hl : IsPart l lo) (hu : IsPart u hi)
    (hz : c.size ≤ 16777216) (hz2 : (spliced b lo hi c).size ≤ 16777216)
    (h : ∀ h' k, Fr h₀ L h' m → News h₀ L h' news' → Q (.done (.ret .none)) { s with heap := h', toks := k }) : wpC (model prog w) A (Builtin.«bytearray.__setitem__» ⟨[.ref a, .ref sl, .bytes c t], []⟩) Q E s := by
  have ho : s.heap.get? sl = some (slObj l u) := (N _ hm).1
  have hT : s.TypeIs (.ref sl) "slice" := ⟨_, ho, rfl⟩
  obtain ⟨pre, post, rfl, rfl, u1, u2⟩ := U.split
  unfold Builtin.«bytearray.__setitem__»
  dsimp only
  refine wpC_ite (fun q => absurd q Bool.false_ne_true) fun _ => ?_
  refine wpC_lead ?_
  unfold Bytes.subscript?
  refine wpAny_bind (wpAny_specialOf hT slice_no_index (wpAny_pure ?_))
  dsimp only
  refine wpC_lead (wpAny_typeOf hT ?_)
  refine wpC_ite (fun q => absurd q Bool.false_ne_true) fun _ => ?_
  refine wpC_lead (slice_parts ho hl hu ?_)
  rw [if_neg (show ¬ (Bytes.sameRef (Value.ref a) (Value.bytes c t) = true) from Bool.false_ne_true)]
  rw [by_isInstance by_not_ba]
  refine wpC_lead (wpAny_pure ?_)
  refine wpC_ite (fun _ => ?_) (fun q => absurd rfl q)
  rw [KBy.special_eq by_look_index, KBy.special_eq by_look_int, KBy.special_eq by_look_float, by_isInstance by_not_complex]
  refine wpC_lead (wpAny_of_eq (a := false) rfl ?_)
  refine wpC_lead (wpAny_of_eq (a := none) rfl ?_)
  refine wpC_ite (fun q => absurd q Bool.false_ne_true) fun _ => ?_
  refine wpC_lead (wpAny_rule ?_)
  refine wpC_bind (C_bytearray1 F N hz fun x h1 F1 N1 lt1 => ?_)
  have hx : h1.get? x = some (baObj c) := (N1 _ (.head _)).1
  have ho1 : h1.get? sl = some (slObj l u) := (N1 _ (.tail _ hm)).1
  have ha1 : h1.get? a = some (baObj b) := (N1 _ (.tail _ (List.mem_append_right _ (.head _)))).1
  have hax : a < x := lt1 (a, baObj b) (List.mem_append_right _ (.head _))
  have up := news_upd (pre := (x, baObj c) :: pre) (post := post) (f := Obj.mapBytearray fun b_1 => b_1.extract 0 (sliceBounds lo hi none b.size).1.toNat ++ c ++ b_1.extract (max (sliceBounds lo hi none b.size).1 (sliceBounds lo hi none b.size).2.1).toNat b_1.size)
    (o' := baObj (spliced b lo hi c)) F1 N1 (fun p hp => by
      rcases List.mem_cons.mp hp with rfl | hp
      · exact Nat.ne_of_gt hax
      · exact u1 p hp) u2 rfl rfl
  refine wpC_lead (wpAny_holding (slice_parts (s := { s with heap := h1 }) ho1 hl hu ?_))
  refine wpC_lead (ba_payload hx ?_)
  refine wpC_lead (ba_payload ha1 ?_)
  refine wpC_lead (wpAny_of_eq (sliceIndices_raw lo hi none b.size (fun e => nomatch e)) ?_)
  refine wpC_ite (fun _ => ?_) (fun q => absurd rfl q)
  refine wpC_lead (wpAny_rule ?_)
  have fin : wpC (model prog w) A (Bytes.write (.ref a) (fun b_1 => b_1.extract 0 (sliceBounds lo hi none b.size).1.toNat ++ c ++ b_1.extract (max (sliceBounds lo hi none b.size).1 (sliceBounds lo hi none b.size).2.1).toNat b_1.size) >>= fun _ => ret .none) Q E { s with heap := h1 } :=
    wpC_lead (ba_write (s := { s with heap := h1 }) ha1 hz2 (wpC_pure (h _ _ up.1 (drop_news up.2 fun p hp => .tail _ hp))))
  exact wpC_ite (fun _ => wpC_bind (ba_resize ha1 fin)) (fun _ => fin)
end
end Mine

end

-- C8
section
open PySem PySem.W PySem.Calls PyProof.Rows
open PySem.Builtin
open Sem (wp)
namespace Mine
section
variable {prog : Program} {w : World} {A : Around} {E : Value → Shared → Prop} {s : Shared} {h₀ : Heap} {L a sl : Addr} {m : Str → Option Value} {news news' : List (Addr × Obj)} {b c : Array UInt8} {t : Tok} {l u : Value} {lo hi : Option Int}
theorem C_setslice {Q : Unit → Shared → Prop} (F : Fr h₀ L s.heap m) (N : News h₀ L s.heap news) (hm : (sl, slObj l u) ∈ news) (U : Upd a (baObj b) (baObj (spliced b lo hi c)) news news') (hl : IsPart l lo) (hu : IsPart u hi)
    (hz : c.size ≤ 16777216) (hz2 : (spliced b lo hi c).size ≤ 16777216)
    (h : ∀ h' k, Fr h₀ L h' m → News h₀ L h' news' → Q () { s with heap := h', toks := k }) : wpC (model prog w) A (setItem (.ref a) (.ref sl) (.bytes c t)) Q E s := by
  have hmem : (a, baObj b) ∈ news := upd_mem U
  have hb := ba_typeIs (s := s) (N _ hmem).1
  unfold setItem
  refine wpC_holding ?_
  refine wpC_lead (wpAny_sequenceKey hb (by decide) ?_)
  unfold callSpecial?
  refine wpC_bind (wpC_lead (wpAny_specialOf hb ba_slot_setitem.lookup ?_))
  dsimp only
  refine wpC_holding ?_
  rw [ba_slot_setitem.bind]
  refine wpC_lead (wpAny_pure ?_)
  refine wpC_bind (wpC_call ?_)
  refine C_call_builtin (ba_tidy_setitem _) (Code.quiet_builtin _ (by decide +kernel)) ba_entry_setitem ?_
  refine ba_slot_setitem.check _ _ _ _ _ _ _ _ hb (ba_args_setitem _ _ _) ?_
  refine ba_setitem F N hm U hl hu hz hz2 fun h' k F' N' => ?_
  exact wpC_pure (wpC_pure (h h' k F' N'))
end
end Mine

end

-- R1
section
open PySem PySem.W PySem.Calls PyProof.Rows
open PySem.Builtin
open Sem (wp)
namespace Mine
theorem int_look_bytes : typeLookup (.type "int") "__bytes__" = pure none := by rw [typeLookup_type, builtinLookup_eq_fast]; kernel_rfl
theorem int_look_index : typeLookup (.type "int") "__index__" = pure (some (.builtin "int.__index__")) := by rw [typeLookup_type, builtinLookup_eq_fast]; kernel_rfl
theorem fits_small {n : Int} (h0 : 0 ≤ n) (h1 : n ≤ 16777216) : Bytes.fitsIndex n = true := by
  show (decide (-(2 ^ 63 : Int) ≤ n) && decide (n < 2 ^ 63)) = true
  rw [decide_eq_true (show -(2 ^ 63 : Int) ≤ n by omega), decide_eq_true (show n < 2 ^ 63 by omega)]; rfl
section
variable {prog : Program} {w : World} {A : Around} {E : Value → Shared → Prop} {s : Shared} {h₀ : Heap} {L l : Addr} {m : Str → Option Value} {news : List (Addr × Obj)} {n : Int} {t : Tok}
theorem int_new_bytes {Q : Value → Shared → Prop} (h0 : 0 ≤ n) (h1 : n ≤ 16777216) (hQ : ∀ t k, Q (.bytes (Array.replicate n.toNat 0) t) { s with toks := k }) :
    codeAny (model prog w) A (.call (.builtin "bytes.__new__") ⟨[.type "bytes", .int n t], []⟩) (wants Q E) s := by
  refine codeAny_of_tree ?_
  show wpAny _ A.in1 (do checkBuiltinCall "bytes.__new__" ⟨[.type "bytes", .int n t], []⟩; again (.builtin "bytes.__new__" ⟨[.type "bytes", .int n t], []⟩)) _ _ s
  refine wpAny_bind (wpAny_of_eq (F.bm_newCall _) (wpAny_pure ⟨plainId_quiet F.bm_plain _, codeAny_builtin F.bm_entry ?_⟩))
  rw [Around.under_plainId F.bm_plain _]
  have hT : s.TypeIs (.int n t) "int" := typeIs_int s n t
  unfold Builtin.«bytes.__new__»
  refine wpAny_bind (wpAny_of_eq (a := true) rfl ?_)
  refine bm_if_false rfl ?_
  refine wpAny_bind (wpAny_of_eq F.bm_sub ?_)
  refine bm_if_false rfl ?_
  refine wpAny_bind (wpAny_of_eq (F.bm_bind _) ?_)
  refine wpAny_bind (wpAny_of_eq (a := ()) rfl ?_)
  refine wpAny_bind (wpAny_of_eq (a := ()) rfl ?_)
  refine bm_if_false rfl ?_
  refine wpAny_bind (wpAny_specialOf hT int_look_bytes ?_)
  refine wpAny_bind (wpAny_of_eq (a := false) rfl ?_)
  refine bm_if_false rfl ?_
  refine wpAny_bind (wpAny_specialOf hT int_look_index ?_)
  refine bm_if_false rfl ?_
  refine wpAny_bind (wpAny_of_eq (a := .ok n) rfl ?_)
  dsimp only
  rw [fits_small h0 h1]
  refine bm_if_false rfl ?_
  rw [if_neg (show ¬ n < 0 by omega), if_neg (show ¬ n > 2 ^ 63 - 34 by omega)]
  have hl : Bytes.tooLong n.toNat = false := decide_eq_false (show ¬ n.toNat > sizeLine by rw [sizeLine_eq]; omega)
  rw [hl]
  refine bm_if_false rfl ?_
  refine wpAny_bind (wpAny_rule ?_)
  refine wpAny_bind (wpAny_mkBytes ?_ (by rw [Array.size_replicate, sizeLine_eq]; omega))
  show wpAny _ _ (if (Value.type "bytes" == Value.type "bytes") = true then _ else _) _ _ _
  refine bm_if_true (by decide) ?_
  first
    | exact wpAny_pure (hQ _ _)
    | exact wpAny_bind (wpAny_pure (wpAny_pure (hQ _ _)))
theorem zeros_ints (k : Nat) : KBw.bInts (Array.replicate k 0) = List.replicate k 0 := by
  show (Array.replicate k (0 : UInt8)).toList.map _ = _
  rw [Array.toList_replicate, List.map_replicate]; rfl
theorem bytes_int {Q : Value → Shared → Prop} (h0 : 0 ≤ n) (h1 : n ≤ 16777216) (hQ : ∀ b t k, KBw.bInts b = List.replicate n.toNat 0 → Q (.bytes b t) { s with toks := k }) : wpAny (model prog w) A (call (.type "bytes") [.int n t]) Q E s := by
  refine callType_codes (Q₁ := fun obj s₁ => s₁.TypeIs obj "bytes" ∧ Q obj s₁) F.bm_called (F.bm_typeCall _) F.entry_object_init
    (int_new_bytes h0 h1 fun t k => ⟨PySem.W.typeIs_bytes _ _ _, hQ _ t k (zeros_ints _)⟩) fun obj s₁ h₁ => ?_
  exact ⟨h₁.1, F.args_object_init_2 obj _, object_init_meets F.bm_called.init.lookup F.bm_called.made (by decide) prog w A.in1 _ s₁ ⟨h₁.1, rfl, h₁.2⟩⟩

theorem join_slot : Slot "bytes" "join" "bytes.join" :=
  .of (owner := "bytes") (n := "join") (by rw [typeLookup_type, builtinLookup_eq_fast]; kernel_rfl) (by decide +kernel) (by decide +kernel) (by decide +kernel)
    (by first | exact .inl (by decide +kernel) | exact .inr (by decide +kernel)) (by rw [isSubtype_type]; kernel_rfl)
theorem join_type : typeOf (.builtin "bytes.join") = pure (.type "method_descriptor") := by show builtinType _ = _; rw [builtinType_eq_fast]; kernel_rfl
theorem join_entry : entryFor table "bytes.join" = some Builtin.«bytes.join» := entryFor_of_fast (by kernel_rfl)
theorem join_args (a b : Value) : argsOk "bytes.join" ⟨[a, b], []⟩ := by unfold argsOk; kernel_rfl
end
end Mine

end

-- R2
section
open PySem PySem.W PySem.Calls PyProof.Rows
open PySem.Builtin
open Sem (wp)
namespace Mine
theorem by_bufferF {id : String} {c : Array UInt8} {t : Tok} : Bytes.buffer? id (.bytes c t) false = pure (some c) := by
  unfold Bytes.buffer?
  rw [KBy.special_eq KBy.look_buffer, KBy.own_buffer, KBy.own_release]
  kernel_rfl
theorem take_quiet {id : String} {c : Array UInt8} {t : Tok} : Bytes.takeBufferQuiet? id (.bytes c t) 0 = pure (some (c, none)) := by
  unfold Bytes.takeBufferQuiet? Bytes.takeBuffer?
  have e : ((0 : Int) == Bytes.fullReadOnly) = false := by decide
  rw [KBy.special_eq KBy.look_buffer, KBy.own_buffer, e, by_bufferF]
  kernel_rfl
section
variable {prog : Program} {w : World} {M : Model} {A : Around} {E : Value → Shared → Prop} {s : Shared} {h₀ : Heap} {L l : Addr} {m : Str → Option Value} {news : List (Addr × Obj)} {n : Int} {t : Tok}
theorem forRange {β : Type} {n : Nat} {f : Nat → β → Sem (ForInStep β)} (I : Nat → β → Shared → Prop) {Q : β → Shared → Prop}
    (hstep : ∀ i c s, i < n → I i c s → wpAny M A (f i c) (fun r s' => match r with | .done c' => Q c' s' | .yield c' => I (i + 1) c' s') E s)
    (hend : ∀ c s, I n c s → Q c s) {c : β} {s : Shared} (h : I 0 c s) : wpAny M A (forIn [0:n] c f) Q E s := by
  rw [Std.Legacy.Range.forIn_eq_forIn_range']
  have hsz : ([0:n] : Std.Legacy.Range).size = n := by simp [Std.Legacy.Range.size]
  show wpAny M A (forIn (List.range' 0 ([0:n] : Std.Legacy.Range).size 1) c f) Q E s
  rw [hsz]
  refine wpAny_forIn_list f (fun l c s => ∃ i, i ≤ n ∧ l = List.range' i (n - i) 1 ∧ I i c s) Q ?_ ?_ _ c ⟨0, Nat.zero_le _, by simp, h⟩
  · rintro x rest c s ⟨i, hib, hl, hI⟩
    have hlt : i < n := by
      rcases Nat.lt_or_ge i n with h' | h'
      · exact h'
      · rw [show n - i = 0 by omega] at hl; simp at hl
    obtain ⟨k, hk⟩ : ∃ k, n - i = k + 1 := ⟨n - i - 1, by omega⟩
    rw [hk, List.range'_succ] at hl
    obtain ⟨rfl, rfl⟩ := List.cons.inj hl
    refine wpAny_mono (hstep x c s hlt hI) (fun r s' h' => ?_) fun _ _ h => h
    cases r with
    | done c' => exact h'
    | yield c' => exact ⟨x + 1, hlt, by congr 1; omega, h'⟩
  · rintro c s ⟨i, hib, hl, hI⟩
    have : n - i = 0 := by
      rcases Nat.eq_zero_or_pos (n - i) with h' | h'
      · exact h'
      · obtain ⟨k, hk⟩ : ∃ k, n - i = k + 1 := ⟨n - i - 1, by omega⟩
        rw [hk, List.range'_succ] at hl; cases hl
    have e : i = n := by omega
    subst e
    exact hend _ _ hI

noncomputable abbrev joinVals (bs : List (Array UInt8 × Tok)) : Array Value := (bs.map fun p => Value.bytes p.1 p.2).toArray
noncomputable abbrev joinTaken (bs : List (Array UInt8 × Tok)) : List (Value × Option Value) := bs.map fun p => (Value.bytes p.1 p.2, none)
theorem taken_any (bs : List (Array UInt8 × Tok)) : (joinTaken bs).any (·.1.onHeap) = false := by
  induction bs with
  | nil => rfl
  | cons p r ih => show (false || _) = false; exact ih
theorem joinLetGo_bytes {keep : List Value} {Q : Unit → Shared → Prop} : ∀ (bs : List (Array UInt8 × Tok)) {s : Shared}, Q () s → wpAny M A (Bytes.joinLetGo (joinTaken bs) keep) Q E s
  | [], s, h => wpAny_pure h
  | p :: r, s, h => by
    show wpAny _ _ (Bytes.joinLetGo ((Value.bytes p.1 p.2, none) :: joinTaken r) keep) _ _ _
    unfold Bytes.joinLetGo
    dsimp only
    refine wpAny_bind (wpAny_letGo ?_)
    exact joinLetGo_bytes r h
theorem join_tree {l : Addr} {bs : List (Array UInt8 × Tok)} {nn : Nat} {P : PySem.Fin → Shared → Prop} (ho : s.heap.get? l = some { cls := .type "list", data := .seq (joinVals bs) nn }) (h1 : bs.length ≠ 1)
    (hz : (Bytes.joined #[] (bs.map (·.1))).size ≤ 16777216) (hz2 : (bs.map (·.1)).toArray.foldl (· + ·.size) 0 ≤ 16777216) (h : ∀ t k, P (.done (.ret (.bytes (Bytes.joined #[] (bs.map (·.1))) t))) { s with toks := k }) :
    wpAny M A (Builtin.«bytes.join» ⟨[.bytes #[] t, .ref l], []⟩) P E s := by
  have hT : s.TypeIs (.ref l) "list" := ⟨_, ho, rfl⟩
  unfold Builtin.«bytes.join» Bytes.joinM
  refine wpAny_bind (wpAny_of_eq (a := (Value.bytes #[] t, Value.ref l)) rfl ?_)
  dsimp only
  rw [if_pos (show (Bytes.Kind.bytes == Bytes.Kind.bytes) = true by decide)]
  unfold Bytes.joinItems
  refine wpAny_bind (wpAny_bind (wpAny_typeOf hT ?_))
  rw [if_pos (show (Value.type "list" == Value.type "list" || Value.type "list" == Value.type "tuple") = true by decide)]
  refine wpAny_pure ?_
  have hitems : ∀ {α : Type} {f : Option (Array Value) → Sem α} {Q : α → Shared → Prop}, wpAny M A (f (some (joinVals bs))) Q E s → wpAny M A (seqItems? (.ref l) >>= f) Q E s := fun {α f Q} g => by
    unfold seqItems?
    refine wpAny_bind ?_
    dsimp only
    exact wpAny_bind (wpAny_load ho (wpAny_pure g))
  refine hitems ?_
  dsimp only
  rw [if_pos (show (Bytes.Kind.bytes == Bytes.Kind.bytes) = true by decide)]
  have hsz : (joinVals bs).size = bs.length := by simp [joinVals]
  have hv : ∀ (i : Nat) p, bs[i]? = some p → (joinVals bs).getD i .none = .bytes p.1 p.2 := fun i p hp => by
    rw [Array.getD_eq_getD_getElem?]; simp [joinVals, hp]
  generalize joinVals bs = xs at hsz hv hitems ⊢
  have red : ∀ {α : Type} (f : Value → α) (g : Array Value → α), Bytes.joinM.match_1 (motive := fun _ => α) xs f g = g xs := fun {α} f g => by
    unfold Bytes.joinM.match_1
    rw [dif_neg (by rw [hsz]; exact h1)]
  rw [red]
  rw [hsz]
  refine wpAny_bind (forRange (fun i b s' => s' = s ∧ b = (((bs.take i).map (·.1)).toArray, joinTaken (bs.take i))) (fun i c s' hi hI => ?_) (fun c s' hI => ?_) ⟨rfl, rfl⟩)
  · obtain ⟨rfl, rfl⟩ := hI
    obtain ⟨p, hp⟩ : ∃ p, bs[i]? = some p := ⟨bs[i], List.getElem?_eq_getElem hi⟩
    have htk : bs.take (i + 1) = bs.take i ++ [p] := by simp [List.take_add_one, hp]
    dsimp only
    refine hitems ?_
    dsimp only
    rw [taken_any, hv i p hp, if_neg (show ¬ ((Bytes.Kind.bytes == Bytes.Kind.bytearray || false) = true) by decide)]
    refine wpAny_bind (wpAny_holding ?_)
    rw [take_quiet]
    refine wpAny_pure ?_
    dsimp only
    refine hitems ?_
    dsimp only
    rw [hsz, if_neg (by simp)]
    refine wpAny_pure ⟨rfl, ?_⟩
    rw [htk]
    simp [joinTaken]
  · obtain ⟨rfl, rfl⟩ := hI
    rw [List.take_length]
    dsimp only
    refine wpAny_bind (wpAny_of_eq (a := #[]) rfl ?_)
    have hl : Bytes.tooLong ((bs.map (·.1)).toArray.foldl (fun x1 x2 => x1 + x2.size) ((#[] : Array UInt8).size * ((bs.map (·.1)).toArray.size - 1))) = false := by
      rw [show (#[] : Array UInt8).size = 0 from rfl, Nat.zero_mul]
      exact decide_eq_false (by rw [sizeLine_eq]; omega)
    rw [hl]
    refine wpAny_ite (KBy.ite_no Bool.false_ne_true ?_)
    refine wpAny_bind (wpAny_mkBytes ?_ (by rw [sizeLine_eq]; exact hz))
    refine wpAny_bind (wpAny_holding (wpAny_point ?_))
    refine wpAny_bind (joinLetGo_bytes bs ?_)
    exact wpAny_pure (h _ _)
end
end Mine

end

-- R3
section
open PySem PySem.W PySem.Calls PyProof.Rows
open PySem.Builtin
open Sem (wp)
namespace Mine
theorem joined_go (parts : List (Array UInt8)) : ∀ (k : Nat) (out : Array UInt8), (parts.zipIdx k).foldl (fun (out : Array UInt8) (x : Array UInt8 × Nat) => match x with | (p, i) => (if i > 0 then out ++ #[] else out) ++ p) out = parts.foldl (· ++ ·) out := by
  induction parts with
  | nil => intro k out; rfl
  | cons p r ih => intro k out; rw [List.zipIdx_cons, List.foldl_cons, List.foldl_cons, ih]; simp
theorem joined_eq (parts : List (Array UInt8)) : Bytes.joined #[] parts = parts.foldl (· ++ ·) #[] := joined_go parts 0 #[]
theorem foldl_ints (parts : List (Array UInt8)) : ∀ (out : Array UInt8), KBw.bInts (parts.foldl (· ++ ·) out) = KBw.bInts out ++ parts.flatMap KBw.bInts := by
  induction parts with
  | nil => intro out; simp
  | cons p r ih => intro out; rw [List.foldl_cons, ih, KBw.ints_app rfl rfl]; simp
theorem joined_ints (parts : List (Array UInt8)) : KBw.bInts (Bytes.joined #[] parts) = parts.flatMap KBw.bInts := by
  rw [joined_eq, foldl_ints]; rfl
theorem foldl_size (parts : List (Array UInt8)) : ∀ n : Nat, parts.foldl (fun (a : Nat) p => a + p.size) n = n + (parts.flatMap KBw.bInts).length := by
  induction parts with
  | nil => intro n; simp
  | cons p r ih => intro n; rw [List.foldl_cons, ih]; simp [KBw.ints_length]; omega
section
variable {prog : Program} {w : World} {M : Model} {A : Around} {E : Value → Shared → Prop} {s : Shared} {h₀ : Heap} {L l : Addr} {m : Str → Option Value} {news : List (Addr × Obj)} {n : Int} {t : Tok}
theorem join_method {b : Array UInt8} {pl : Sem Bool} {Q : Value × List Value → Shared → Prop} (h : Q (.builtin "bytes.join", [.bytes b t]) s) :
    wpAny M A (getMethod (.bytes b t) (PySem.Str.ofString "join") pl) Q E s :=
  getMethod_builtin (typeIs_bytes _ _ _) FB.plainAttrs_bytes join_slot join_type (fun a e => by cases e) h
theorem join_K {bs : List (Array UInt8 × Tok)} {ks : List Int} {nn : Nat} {Q : Value → Shared → Prop} (N : News h₀ L s.heap news) (hm : (l, { cls := .type "list", data := .seq (joinVals bs) nn }) ∈ news) (h1 : bs.length ≠ 1)
    (hk : bs.flatMap (fun p => KBw.bInts p.1) = ks) (hz : ks.length ≤ 16777216) (h : ∀ b t k, KBw.bInts b = ks → Q (.bytes b t) { s with toks := k }) :
    wpAny (model prog w) A (call (.builtin "bytes.join") [.bytes #[] t, .ref l]) Q E s := by
  have hk' : (bs.map (·.1)).flatMap KBw.bInts = ks := by rw [List.flatMap_map]; exact hk
  have e := joined_ints (bs.map (·.1))
  rw [hk'] at e
  refine wpAny_call_entry join_slot (typeIs_bytes _ _ _) join_entry (join_tree (N _ hm).1 h1 ?_ ?_ fun t k => ⟨_, rfl, h _ t k e⟩) (join_args _ _)
  · rw [← KBw.ints_length, e]; exact hz
  · have := foldl_size (bs.map (·.1)) 0
    rw [hk'] at this
    rw [List.foldl_toArray']
    · rw [this]; omega
    · simp
theorem zeros_mul8 {x : Int} {u v : Tok} {Q : Value → Shared → Prop} (h : ∀ b t' k, KBw.bInts b = List.replicate (8 - x.fmod 8).toNat 0 → 1 ≤ 8 - x.fmod 8 → 8 - x.fmod 8 ≤ 8 → Q (.bytes b t') { s with toks := k }) : wpAny (model prog w) A (binaryOp .Mult (.bytes #[0] u) (.int (8 - x.fmod 8) v)) Q E s := by
  have a := Int.fmod_nonneg_of_pos x (show (0 : Int) < 8 by decide)
  have b := Int.fmod_lt_of_pos x (show (0 : Int) < 8 by decide)
  refine bytes_mul_any (b := [0]) (fun e => nomatch e) (by omega) (by omega) (by simp) fun t' k => h _ t' k ?_ (by omega) (by omega)
  show ((List.replicate _ [(0 : UInt8)]).flatten).map _ = _
  simp [List.flatten_replicate_singleton]
end
end Mine

end

-- P1
section
open PySem PySem.W PySem.Calls PyProof.Rows
namespace Mine
noncomputable def four (x : Int) : List Int := [x / 256 / 256 / 256 % 256, x / 256 / 256 % 256, x / 256 % 256, x % 256]
theorem four_len (x : Int) : (four x).length = 4 := rfl
noncomputable def pad8 (ks : List Int) : List Int := ks ++ List.replicate ((-(ks.length : Int)).fmod 8).toNat 0
noncomputable def w4 (a b c d : Int) : Int := ((a * 256 + b) * 256 + c) * 256 + d
noncomputable def sum8 : List Int → Int → Int → Int × Int
  | b0 :: b1 :: b2 :: b3 :: b4 :: b5 :: b6 :: b7 :: r, x, y =>
    sum8 r ((x + w4 b0 b1 b2 b3 + y).fmod 4294967296) ((y + w4 b4 b5 b6 b7 + (x + w4 b0 b1 b2 b3 + y).fmod 4294967296).fmod 4294967296)
  | _, x, y => (x, y)
/-- the sums carried on over octets -/
noncomputable def sums (ks : List Int) (p : Int × Int) : Int × Int := sum8 (pad8 ks) p.1 p.2
theorem pad8_len (ks : List Int) : (pad8 ks).length = 8 * (((ks.length : Int) + 7) / 8).toNat := by
  unfold pad8
  rw [List.length_append, List.length_replicate, Int.fmod_eq_emod_of_nonneg _ (by decide)]
  omega
theorem pad8_mod (ks : List Int) : ((pad8 ks).length : Int) % 8 = 0 := by rw [pad8_len]; omega
theorem pad8_of0 {ks : List Int} (h : (ks.length : Int).fmod 8 = 0) : pad8 ks = ks := by
  rw [Int.fmod_eq_emod_of_nonneg _ (by decide)] at h
  unfold pad8
  rw [Int.fmod_eq_emod_of_nonneg _ (by decide), show (-(ks.length : Int)) % 8 = 0 by omega]
  simp
theorem pad8_of1 {ks : List Int} (h : (ks.length : Int).fmod 8 ≠ 0) : ks ++ List.replicate (8 - (ks.length : Int).fmod 8).toNat 0 = pad8 ks := by
  rw [Int.fmod_eq_emod_of_nonneg _ (by decide)] at h ⊢
  unfold pad8
  rw [Int.fmod_eq_emod_of_nonneg _ (by decide), show (8 - (ks.length : Int) % 8).toNat = ((-(ks.length : Int)) % 8).toNat by omega]
theorem unc {l : List Int} {n : Nat} (h : n + 1 ≤ l.length) : ∃ b r, l = b :: r ∧ n ≤ r.length := by
  cases l with
  | nil => exact absurd h (Nat.not_succ_le_zero n)
  | cons b r => exact ⟨b, r, rfl, Nat.le_of_succ_le_succ h⟩
theorem eight {l : List Int} (h : 8 ≤ l.length) : ∃ b0 b1 b2 b3 b4 b5 b6 b7 r, l = b0 :: b1 :: b2 :: b3 :: b4 :: b5 :: b6 :: b7 :: r := by
  obtain ⟨b0, r0, rfl, h0⟩ := unc h
  obtain ⟨b1, r1, rfl, h1⟩ := unc h0
  obtain ⟨b2, r2, rfl, h2⟩ := unc h1
  obtain ⟨b3, r3, rfl, h3⟩ := unc h2
  obtain ⟨b4, r4, rfl, h4⟩ := unc h3
  obtain ⟨b5, r5, rfl, h5⟩ := unc h4
  obtain ⟨b6, r6, rfl, h6⟩ := unc h5
  obtain ⟨b7, r7, rfl, h7⟩ := unc h6
  exact ⟨b0, b1, b2, b3, b4, b5, b6, b7, r7, rfl⟩
structure Inv (p : List Int) (x y a o t : Int) : Prop where
  lo : 0 ≤ a
  hi : a ≤ p.length
  by8 : a % 8 = 0
  len8 : (p.length : Int) % 8 = 0
  eq : sum8 (p.drop a.toNat) o t = sum8 p x y
theorem inv0 {p : List Int} {x y : Int} (h : (p.length : Int) % 8 = 0) : Inv p x y 0 x y := ⟨by omega, by omega, rfl, h, rfl⟩
theorem inv_end {p : List Int} {x y a o t : Int} (h : Inv p x y a o t) (hge : ¬ a < (p.length : Int)) : (o, t) = sum8 p x y := by
  have e : a.toNat = p.length := by have := h.hi; omega
  have := h.eq
  rw [e, List.drop_length] at this
  exact this
theorem clip_nat {n k : Nat} (h : k ≤ n) : clipAt n (k : Int) = k := by
  unfold clipAt
  rw [if_neg (Int.not_lt.mpr (Int.natCast_nonneg k))]
  rw [Int.min_eq_left (Int.ofNat_le.mpr h), Int.max_eq_right (Int.natCast_nonneg k)]
  rfl
theorem clip_in {n : Nat} {a : Int} (h0 : 0 ≤ a) (h1 : a ≤ n) : clipAt n a = a.toNat := by
  obtain ⟨k, rfl⟩ := Int.eq_ofNat_of_zero_le h0
  exact clip_nat (Int.ofNat_le.mp h1)
theorem value4 {b0 b1 b2 b3 : Int} {r : List Int} : KFB.value ((b0 :: b1 :: b2 :: b3 :: r).take 4) = w4 b0 b1 b2 b3 := by simp [KFB.value, w4]
theorem inv_core {p : List Int} {x y o t : Int} {k : Nat} (h : Inv p x y (k : Int) o t) (hlt : (k : Int) < (p.length : Int)) : k + 8 ≤ p.length ∧
    Inv p x y ((k + 8 : Nat) : Int) ((o + KFB.value ((p.drop k).take 4) + t).fmod 4294967296) ((t + KFB.value ((p.drop (k + 4)).take 4) + (o + KFB.value ((p.drop k).take 4) + t).fmod 4294967296).fmod 4294967296) := by
  obtain ⟨h0, hi, h8, hp, he⟩ := h
  have hk : k + 8 ≤ p.length := by clear he hi; omega
  have he' : sum8 (p.drop k) o t = sum8 p x y := he
  obtain ⟨b0, b1, b2, b3, b4, b5, b6, b7, r, e⟩ := eight (l := p.drop k) (by rw [List.length_drop]; exact Nat.le_sub_of_add_le' hk)
  have e4 : p.drop (k + 4) = b4 :: b5 :: b6 :: b7 :: r := by rw [← List.drop_drop, e]; rfl
  have e8 : p.drop (k + 8) = r := by rw [← List.drop_drop, e]; rfl
  rw [e, e4, value4, value4]
  refine ⟨hk, Int.natCast_nonneg _, Int.ofNat_le.mpr hk, (Int.add_emod_right ..).trans h8, hp, ?_⟩
  rw [e] at he'
  rw [← he', Int.toNat_natCast, e8]
  rfl
end Mine

end

-- R4
section
open PySem PySem.W PySem.Calls PyProof.Rows
open Sem (wp)
namespace Mine
noncomputable def wd (ks : List Int) (i : Nat) : Int := w4 (ks.getD (4 * i) 0) (ks.getD (4 * i + 1) 0) (ks.getD (4 * i + 2) 0) (ks.getD (4 * i + 3) 0)
theorem fitsL {i : Int} (h0 : -5 ≤ i) (h1 : i ≤ 10000) : Builtin.Range.rangeFitsLong i = true := by
  unfold Builtin.Range.rangeFitsLong
  rw [Bool.and_eq_true, decide_eq_true_eq, decide_eq_true_eq]
  omega
theorem small4 {n : Nat} (h : n ≤ 1000) : Builtin.Range.small 0 (n : Int) 4 = true := by
  have e0 : 0 ≤ Builtin.Range.rangeSize 0 (n : Int) 4 ∧ Builtin.Range.rangeSize 0 (n : Int) 4 ≤ 1000 := by
    unfold Builtin.Range.rangeSize
    rw [if_pos (by decide)]
    split <;> omega
  unfold Builtin.Range.small
  rw [fitsL (by decide) (by decide), fitsL (by omega) (by omega), fitsL (by decide) (by decide), fitsL (by omega) (by omega), if_pos (by decide), fitsL (by omega) (by omega)]
  simp
theorem size4 (n : Nat) : Builtin.Range.rangeSize 0 ((4 * n : Nat) : Int) 4 = (n : Int) := by
  unfold Builtin.Range.rangeSize
  rw [if_pos (by decide)]
  split <;> omega
section
variable {prog : Program} {w : World} {A : Around} {E : Value → Shared → Prop} {s : Shared} {env : Env} {h₀ : Heap} {x : Str} {body : List Stmt} {Q : Flow → Shared → Prop}
end
end Mine

end

-- R5
section
open PySem PySem.W PySem.Calls PyProof.Rows
open Sem (wp)
namespace Mine
theorem ints_set {vs : List Value} {ns : List Int} (h : IntsAre vs ns) (v : Int) (t : Tok) : ∀ i, IntsAre (vs.set i (.int v t)) (ns.set i v) := by
  induction h with
  | nil => intro i; exact .nil
  | cons n t' hr ih =>
    intro i
    cases i with
    | zero => exact .cons v t hr
    | succ i => exact .cons n t' (ih i)
section
variable {prog : Program} {w : World} {A : Around} {E : Value → Shared → Prop} {s : Shared} {h₀ : Heap} {L D : Addr} {m : Str → Option Value} {news news' : List (Addr × Obj)} {vs : List Value} {ns : List Int} {k v : Int} {t u : Tok} {n : Nat} {its : Array Value}
theorem store_K {Q : Unit → Shared → Prop} (F : Fr h₀ L s.heap m) (N : News h₀ L s.heap news) (U : Upd D (listOf its n) (listOf (its.setIfInBounds k.toNat (.int v u)) n) news news') (he : its = vs.toArray) (hi : IntsAre vs ns) (h0 : 0 ≤ k) (h1 : k < (ns.length : Int)) (hz : ns.length ≤ 64)
    (h : ∀ h', Fr h₀ L h' m → News h₀ L h' news' → IntsAre (vs.set k.toNat (.int v u)) (ns.set k.toNat v) → Q () { s with heap := h' }) : wpAny (model prog w) A (setItem (.ref D) (.int k t) (.int v u)) Q E s := by
  subst he
  obtain ⟨pre, post, rfl, rfl, a, b⟩ := U.split
  have z := N (D, listOf vs.toArray n) (List.mem_append.mpr (.inr (.head _)))
  have hl := hi.length
  have hs : vs.toArray.size = vs.length := by simp
  refine ki_setAt z.1 h0 (by omega) (by omega) (h _ (F.change (Heap.SameBut.update ..) z.2.1 z.2.2) (ki_turn _ N a b ?_ ?_) (ints_set hi v u _))
  · rfl
  · simp
end
end Mine

end

-- T0
section
open PySem PySem.W PySem.Calls PyProof.Rows
namespace Mine
/-- the tuple of the ledger from which a comprehension draws -/
noncomputable def TupAt (ax : Addr) (its : Array Value) (news : List (Addr × Obj)) : Prop := False ∨ ∃ o, (ax, o) ∈ news ∧ o.cls = .type "tuple" ∧ ∃ n, o.data = .seq its n
section
variable {prog : Program} {w : World} {A : Around} {E : Value → Shared → Prop} {s : Shared} {h₀ : Heap} {L : Addr} {m : Str → Option Value} {env : Env}
theorem TupAt.tup {h : Heap} {ax : Addr} {its : Array Value} {news : List (Addr × Obj)} (x : TupAt ax its news) (N : News h₀ L h news) : h.IsTuple ax its := by
  rcases x with x | ⟨o, hm, r⟩
  · exact x.elim
  · exact ⟨o, (N _ hm).1, r⟩
theorem tup_st {ax I : Addr} {its : Array Value} : ∀ i (h h' : Heap) (o : Obj) (nw : List (Addr × Obj)), (h.IsTupleIter I ax i ∧ h.IsTuple ax its) → h.get? I = some o → h'.get? I = some o → (∀ b o, h₀.get? b = some o → h'.get? b = some o) → News h₀ L h' nw → TupAt ax its nw → (h'.IsTupleIter I ax i ∧ h'.IsTuple ax its) :=
  fun i h h' o nw st e e' _ N S => ⟨by obtain ⟨o', q, r⟩ := st.1; rw [e] at q; cases q; exact ⟨o, e', r⟩, S.tup N⟩
noncomputable def MSrc (prog : Program) (w : World) (A : Around) (h₀ : Heap) (L : Addr) (m : Str → Option Value) (env : Env) (elt : Expr) (x : Str) (scope : Scope) (cl : List (Str × Addr)) (Fin : Shared → List Value → List (Addr × Obj) → Prop) (xv : Value) (s₁ : Shared) : Prop :=
  ∃ ax its news, xv = .ref ax ∧ A.handled = none ∧ Fr h₀ L s₁.heap m ∧ News h₀ L s₁.heap news ∧ TupAt ax its news ∧ its.size ≤ sizeLine ∧
    ∀ s₂ : Shared, (∃ h, s₂ = { s₁ with heap := h }) → LCg.CompRest prog w A h₀ L m env elt x scope cl s₂ (TupAt ax its) (fun i v => its[i]? = some v) (Fin s₂) its.size 0 [] news
theorem MSrc.ledger {elt : Expr} {x : Str} {scope : Scope} {cl : List (Str × Addr)} {Fin : Shared → List Value → List (Addr × Obj) → Prop} {ax : Addr} {its : Array Value} {k : Nat} {news : List (Addr × Obj)} {s₁ : Shared}
    (hh : A.handled = none) (F : Fr h₀ L s₁.heap m) (N : News h₀ L s₁.heap news) (hm : (ax, ({ cls := .type "tuple", data := .seq its k } : Obj)) ∈ news) (hsz : its.size ≤ sizeLine)
    (h : ∀ g, LCg.CompRest prog w A h₀ L m env elt x scope cl { s₁ with heap := g } (TupAt ax its) (fun i v => its[i]? = some v) (Fin { s₁ with heap := g }) its.size 0 [] news) :
    MSrc prog w A h₀ L m env elt x scope cl Fin (.ref ax) s₁ := ⟨ax, its, news, rfl, hh, F, N, .inr ⟨_, hm, rfl, _, rfl⟩, hsz, fun _ ⟨g, e⟩ => e ▸ h g⟩
theorem ListComp_T {elt iter : Expr} {x : Str} {px : Pos} {scope : Scope} {cl : List (Str × Addr)} {pos : Pos} {Q : Value → Shared → Prop} (F₀ : Fr h₀ L s.heap m)
    (hclos : closureFor scope env = pure cl) (hcell : ∀ y ∈ scope.names, y.2 ≠ .cell) (hkind : scope.kind = .function)
    (hnames : ∀ y ∈ scope.names, y.2 = .local → scope.names.lookup y.1 = some .local) (hx : scope.names.lookup x = some .local)
    (h : wpAny (model prog w) A (eval iter env) (MSrc prog w A h₀ L m env elt x scope cl (fun s₂ => LCg.FinE h₀ L m s₂ Q)) E s)
    (hs : ∀ x, foldedSetIterable iter env x = pure x := by intro _; rfl) :
    wpAny (model prog w) A (eval (.ListComp elt [⟨.Name x px, iter, [], 0⟩] scope pos) env) Q E s := by
  rw [eval_ListComp]
  refine wpAny_comprehension_free (use := none) rfl hs hclos hkind hnames (wpAny_mono h (fun xv s₁ h₁ => ?_) fun _ _ e => e)
  obtain ⟨ax, its, news, rfl, hh, F, N, S, hsz, R⟩ := h₁
  have hl := S.tup N
  have hlt : ax < s₁.heap.objs.size := by obtain ⟨_, e, _⟩ := hl; exact Heap.lt_size e
  refine wpAny_pyIter_tuple hl ?_
  have up : ∀ b o, s₁.heap.get? b = some o → (s₁.heap.push { cls := .type "tuple_iterator", data := .fields #[.ref ax, .int 0 0] }).get? b = some o := fun b o e => Heap.get?_push_of_some _ e
  refine LCg.block_U (Walks.tuple hh s₁.heap.objs.size ax (Nat.ne_of_lt hlt) its) hsz (fun i h st => by obtain ⟨o, e, _⟩ := st.1; exact ⟨o, e⟩) tup_st hcell hkind hx ⟨⟨_, Heap.get?_push_size _ rfl, rfl, rfl⟩, by obtain ⟨o, e, r⟩ := hl; exact ⟨o, up _ _ e, r⟩⟩ (fun b hb => ?_)
      (F.keeps up) (N.grown up) (Nat.ne_of_lt F.ns.lt) (next_is_new F) (fun p hp => Nat.ne_of_lt (Heap.lt_size (N p hp).1)) S (R _ ⟨_, rfl⟩) ?_
  · show b < (s₁.heap.push _).objs.size
    rw [Heap.size_push]
    rcases List.mem_cons.mp hb with rfl | hb
    · exact Nat.lt_succ_self _
    · rw [List.mem_singleton.mp hb]; exact Nat.lt_succ_of_lt hlt
  · intro D C h tk m' ys news' F' N' o1 hn hC₀ hD₀ hCL hDL hCD offC fin
    refine ⟨m', hn, fun h'' hs'' => fin D h'' tk (F'.change hs'' hCL hC₀) (fun p hp => ?_) o1⟩
    refine ⟨hs''.extBut _ _ ?_ (N' p hp).1, (N' p hp).2⟩
    rcases List.mem_cons.mp hp with rfl | hp
    · exact Ne.symm hCD
    · exact offC p hp
end
end Mine

end

-- T1
section
open PySem PySem.W PySem.Calls PyProof.Rows
open Sem (wp)
namespace Mine
/-- two addresses are not the same, kept out of omega's sight -/
noncomputable def Apart (a b : Nat) : Prop := a ≠ b
section
variable {prog : Program} {w : World} {A : Around} {E : Value → Shared → Prop} {s : Shared} {env : Env} {h₀ : Heap} {x : Str} {body : List Stmt} {Q : Flow → Shared → Prop}
end
end Mine

end

-- P2
section
open PySem PySem.W PySem.Calls PyProof.Rows
namespace Mine
theorem sum8_range : ∀ (n : Nat) (p : List Int) (x y : Int), p.length ≤ n → 0 ≤ x → x < 4294967296 → 0 ≤ y → y < 4294967296 → 0 ≤ (sum8 p x y).1 ∧ (sum8 p x y).1 < 4294967296 ∧ 0 ≤ (sum8 p x y).2 ∧ (sum8 p x y).2 < 4294967296
  | 0, p, x, y, h, h1, h2, h3, h4 => by
    have : p = [] := List.length_eq_zero_iff.mp (Nat.le_zero.mp h)
    subst this
    exact ⟨h1, h2, h3, h4⟩
  | n + 1, p, x, y, h, h1, h2, h3, h4 => by
    match p, h with
    | b0 :: b1 :: b2 :: b3 :: b4 :: b5 :: b6 :: b7 :: r, h =>
      exact sum8_range n r _ _ (by simp at h; omega) (Int.fmod_nonneg_of_pos _ (by decide)) (Int.fmod_lt_of_pos _ (by decide)) (Int.fmod_nonneg_of_pos _ (by decide)) (Int.fmod_lt_of_pos _ (by decide))
    | [], _ => exact ⟨h1, h2, h3, h4⟩
    | [_], _ => exact ⟨h1, h2, h3, h4⟩
    | [_, _], _ => exact ⟨h1, h2, h3, h4⟩
    | [_, _, _], _ => exact ⟨h1, h2, h3, h4⟩
    | [_, _, _, _], _ => exact ⟨h1, h2, h3, h4⟩
    | [_, _, _, _, _], _ => exact ⟨h1, h2, h3, h4⟩
    | [_, _, _, _, _, _], _ => exact ⟨h1, h2, h3, h4⟩
    | [_, _, _, _, _, _, _], _ => exact ⟨h1, h2, h3, h4⟩
theorem sums_range {ks : List Int} {x y o t : Int} (h : (o, t) = sums ks (x, y)) (h1 : 0 ≤ x) (h2 : x < 4294967296) (h3 : 0 ≤ y) (h4 : y < 4294967296) : 0 ≤ o ∧ o < 4294967296 ∧ 0 ≤ t ∧ t < 4294967296 := by
  have := sum8_range _ (pad8 ks) x y (Nat.le_refl _) h1 h2 h3 h4
  have e : sums ks (x, y) = sum8 (pad8 ks) x y := rfl
  rw [← e, ← h] at this
  exact this
noncomputable def toldOf (x1 x2 x3 x4 x5 x6 : Int) : List Int := four x1 ++ four x2 ++ four x3 ++ four x4 ++ four x5 ++ four x6
noncomputable def headOf (x1 x2 x3 x4 x5 x6 : Int) : List Int := toldOf x1 x2 x3 x4 x5 x6 ++ four (sums (toldOf x1 x2 x3 x4 x5 x6) (0, 0)).1 ++ four (sums (toldOf x1 x2 x3 x4 x5 x6) (0, 0)).2
noncomputable def sumsOf (page count : Int) (x y : Int) (ks : List Int) : Int × Int := sums (four page ++ four count ++ ks) (x, y)
noncomputable def frameOf (page count s1 s2 : Int) (x y : Int) (ks : List Int) : List Int := four page ++ four count ++ four s1 ++ four s2 ++ four (sumsOf page count x y ks).1 ++ four (sumsOf page count x y ks).2 ++ ks
/-- what is told of the octets of one frame -/
noncomputable def toldIs (ks : List Int) (size s1 s2 x y : Int) : Option (Int × Int × Int × Int) :=
  if (ks.length : Int) < 24 + size then none
  else if wd ks 0 = 0 then none
  else if (wd ks 2 == s1 && wd ks 3 == s2) = true then
    if (wd ks 4 == (sums (ks.take 8 ++ (ks.drop 24).take size.toNat) (x, y)).1 && wd ks 5 == (sums (ks.take 8 ++ (ks.drop 24).take size.toNat) (x, y)).2) = true then
      some (wd ks 0, wd ks 1, (sums (ks.take 8 ++ (ks.drop 24).take size.toNat) (x, y)).1, (sums (ks.take 8 ++ (ks.drop 24).take size.toNat) (x, y)).2)
    else none
  else none
section
variable {ks : List Int} {size s1 s2 x y o t : Int}
theorem told_a (h : (ks.length : Int) < 24 + size) : toldIs ks size s1 s2 x y = none := if_pos h
theorem told_b (h : ¬ (ks.length : Int) < 24 + size) (h0 : wd ks 0 = 0) : toldIs ks size s1 s2 x y = none := by
  unfold toldIs
  rw [if_neg h, if_pos h0]
theorem told_e (h : ¬ (ks.length : Int) < 24 + size) (h1 : (wd ks 2 == s1 && wd ks 3 == s2) = false) : toldIs ks size s1 s2 x y = none := by
  unfold toldIs
  rw [if_neg h, h1]
  split <;> rfl
end
theorem wd_take {ks : List Int} {n i : Nat} (h : 4 * i + 4 ≤ n) : wd (ks.take n) i = wd ks i := by
  have d : ∀ j, j < n → (ks.take n).getD j 0 = ks.getD j 0 := fun j hj => by
    rw [List.getD_eq_getElem?_getD, List.getD_eq_getElem?_getD, List.getElem?_take, if_pos hj]
  unfold wd
  rw [d _ (by omega), d _ (by omega), d _ (by omega), d _ (by omega)]
section
variable {prog : Program} {w : World} {A : Around} {E : Value → Shared → Prop} {s : Shared} {h₀ : Heap} {L D : Addr} {news : List (Addr × Obj)} {vs : List Value} {k : Int} {u : Tok} {n : Nat} {v : Value} {value slice : Expr} {Q : Value → Shared → Prop}
end
/-- whether a head of a log is whole and right, but for the size of its pages -/
noncomputable def headOk (c : List Int) : Bool := decide (32 ≤ c.length) && (wd c 0 == 931071618) && (wd c 1 == 3007000) && (wd c 6 == (sums (c.take 24) (0, 0)).1 && wd c 7 == (sums (c.take 24) (0, 0)).2)
section
variable {c : List Int} {o t : Int}
theorem hk_a (h : (c.length : Int) < 32) : headOk c = false := by
  unfold headOk
  rw [decide_eq_false (by omega)]; rfl
theorem hk_b (h : wd c 0 ≠ 931071618) : headOk c = false := by
  unfold headOk
  rw [show (wd c 0 == 931071618) = false from beq_eq_false_iff_ne.mpr h]; simp
theorem hk_c (h : wd c 1 ≠ 3007000) : headOk c = false := by
  unfold headOk
  rw [show (wd c 1 == 3007000) = false from beq_eq_false_iff_ne.mpr h]; simp
end

end Mine

end

-- R6
section
open PySem PySem.W PySem.Calls PyProof.Rows
open Sem (wp)
namespace Mine
/-- a cut of the octets, named -/
noncomputable def CutIs (a b : List Int) : Prop := a = b
theorem CutIs.eq {a b : List Int} (h : CutIs a b) : a = b := h
section
variable {prog : Program} {w : World} {A : Around} {E : Value → Shared → Prop} {s : Shared} {h₀ : Heap} {L a : Addr} {m : Str → Option Value} {news : List (Addr × Obj)} {b : Array UInt8} {l u : Value} {lo hi : Option Int} {value slice : Expr} {ks : List Int} {Q : Value → Shared → Prop}
theorem ba_slice_K (hF : Fr h₀ L s.heap m) (hN : News h₀ L s.heap news) (hm : (a, baObj b) ∈ news) (hk : KBw.bInts b = ks) (hl : IsPart l lo) (hu : IsPart u hi) (hz : ks.length ≤ 16777216)
    (h : ∀ D h', Fr h₀ L h' m → News h₀ L h' ((D, baObj (KBy.picked b lo hi)) :: news) → (∀ p ∈ news, p.1 < D) → KBw.bInts (KBy.picked b lo hi) = (ks.drop (lo.elim 0 (clipAt ks.length))).take (hi.elim ks.length (clipAt ks.length) - lo.elim 0 (clipAt ks.length)) → Q (.ref D) { s with heap := h' })
    (hs : subscripted slice false (.ref a) (.ref s.heap.objs.size) = operate [.ref s.heap.objs.size, .ref a] (getItem (.ref a) (.ref s.heap.objs.size)) := by with_unfolding_all rfl) :
    wpAny (model prog w) A (subscriptTail value slice (.ref a) (.ref s.heap.objs.size)) Q E { s with heap := s.heap.push { cls := .type "slice", data := .fields #[l, u, .none] } } := by
  have ha : (s.heap.push { cls := .type "slice", data := .fields #[l, u, .none] }).get? a = some (baObj b) := Heap.get?_push_of_some _ (hN _ hm).1
  have hsl : (s.heap.push { cls := .type "slice", data := .fields #[l, u, .none] }).get? s.heap.objs.size = some (slObj l u) := Heap.get?_push_size _ rfl
  have hT : ({ s with heap := s.heap.push { cls := .type "slice", data := .fields #[l, u, .none] } } : Shared).TypeIs (.ref a) "bytearray" := ba_typeIs ha
  have hF' := hF.push { cls := .type "slice", data := .fields #[l, u, .none] }
  have hN' : News h₀ L (s.heap.push { cls := .type "slice", data := .fields #[l, u, .none] }) news := News.pushKeep hN _
  refine tail_any hT ba_slot_getitem.lookup (wpAny_getItem_slot hT (by decide) ba_slot_getitem (wpAny_call_entry ba_slot_getitem hT ba_entry_getitem (ba_getitem ha hsl hl hu ?_ ⟨_, rfl, ?_⟩) (ba_args_getitem _ _))) hs
  · have := KBc.size_picked_le b lo hi
    rw [← hk, KBw.ints_length] at hz
    omega
  · exact h _ _ (hF'.push _) (hN'.push hF' _) (fun p hp => by rw [Heap.size_push]; exact Nat.lt_succ_of_lt (Heap.lt_size (hN p hp).1)) (KBc.ints_picked hk lo hi)
theorem ba_len_K (hN : News h₀ L s.heap news) (hm : (a, baObj b) ∈ news) (hk : KBw.bInts b = ks) (hz : ks.length ≤ 16777216) (h : Q (.int (ks.length : Nat) (s.toks + 1)) { s with toks := s.toks + 1 + 1 }) :
    wpAny (model prog w) A (call (.builtin "len") [.ref a]) Q E s := by
  rw [← hk, KBw.ints_length] at hz h
  exact ba_len (hN _ hm).1 hz h
theorem ba_bytes_K (hN : News h₀ L s.heap news) (hm : (a, baObj b) ∈ news) (hk : KBw.bInts b = ks) (hz : ks.length ≤ 16777216) (h : ∀ t k, Q (.bytes b t) { s with toks := k }) :
    wpAny (model prog w) A (call (.type "bytes") [.ref a]) Q E s := by
  rw [← hk, KBw.ints_length] at hz
  exact ba_bytes (hN _ hm).1 hz h
end
end Mine

end

-- R7
section
open PySem PySem.W PySem.Calls PyProof.Rows
open Sem (wp)
namespace Mine
section
variable {prog : Program} {w : World} {A : Around} {E : Value → Shared → Prop} {s : Shared} {env : Env} {h₀ : Heap} {target : Expr} {body : List Stmt}
theorem C_runOwn {c : Code} {Q : Flow → Shared → Prop} (hc : codeC (model prog w) A c (fun r s' => match r with | .ok f => Q f s' | .error _ => False) s) : wpC (model prog w) A (runOwn c env) Q E s := by
  unfold runOwn
  exact wpC_onRaise (wpC_run (codeC_mono hc fun r s' h => by cases r with | ok f => exact h | error e => exact h.elim))
/-- one turn after the other, over tidy stacks; nothing raises -/
theorem C_forLoop {R : Result → Shared → Prop} {it : Value} (I : Nat → Shared → Prop)
    (turn : ∀ n s, I n s → wpAny (model prog w) A (pyNext it) (fun r s₁ => match r with
      | none => R (.ok .next) s₁
      | some v => wpAny (model prog w) A (letOwnedTupleGo target it v) (fun _ s₁ => wpAny (model prog w) A (assign target env v) (fun _ s₂ => wpC (model prog w) A (execs body env) (fun f s₃ => match f with
          | .next | .cont => ∃ m, m < n ∧ I m s₃
          | .brk => R (.ok .next) s₃
          | .ret v => R (.ok (.ret v)) s₃) (fun _ _ => False) s₂) (fun _ _ => False) s₁) (fun _ _ => False) s₁) (fun _ _ => False) s)
    (n : Nat) (h : I n s) : codeC (model prog w) A (.forLoop target it body [] env) R s := by
  induction n using Nat.strongRecOn generalizing s with
  | ind n ih =>
    refine codeC_of_tree (fun _ _ => rfl) ?_
    show wpC _ A ((forTurn target it body [] env).onRaise (fun x => do noteFrame x env; theTreesLotGoes x)) _ _ s
    refine wpC_onRaise (wpC_mono (E := fun _ _ => False) (Q := fun fin s' => match fin with | .done f => R (.ok f) s' | .again c' => c'.quiet = true ∧ codeC (model prog w) A c' R s') ?_ (fun _ _ h => h) fun _ _ h => h.elim)
    simp only [forTurn]
    refine wpC_lead (wpAny_standAt (wpC_lead (wpAny_onRaise (wpAny_mono (turn n s h) (fun r s₁ h₁ => ?_) fun _ _ h' => h'.elim))))
    cases r with
    | none => exact wpC_pure ⟨rfl, codeC_of (codeAny_block (wpAny_execs_nil h₁))⟩
    | some v =>
      refine wpC_lead (wpAny_mono h₁ (fun _ s₂ h₂ => wpC_lead (wpAny_mono h₂ (fun _ s₂ h₂ => wpC_bind (wpC_mono h₂ (fun f s₃ h₃ => ?_) fun _ _ h' => h')) fun _ _ h' => h')) fun _ _ h' => h')
      cases f with
      | next => obtain ⟨m, hm, hI⟩ := h₃; exact wpC_pure ⟨rfl, ih m hm hI⟩
      | cont => obtain ⟨m, hm, hI⟩ := h₃; exact wpC_pure ⟨rfl, ih m hm hI⟩
      | brk => exact wpC_pure h₃
      | ret v => exact wpC_pure h₃
/-- how a turn of C_forW ends -/
noncomputable def TurnEnd (h₀ : Heap) (L I : Addr) (oI : Obj) (s : Shared) (J : (Str → Option Value) → List (Addr × Obj) → Prop) (Rr : Value → Shared → Prop) (f : Flow) (s₃ : Shared) : Prop := match f with
  | .ret v => Rr v s₃
  | .brk => False
  | _ => ∃ h' tk' m' news', s₃ = { s with heap := h', toks := tk' } ∧ Fr h₀ L h' m' ∧ News h₀ L h' ((I, oI) :: news') ∧ (∀ p ∈ news', p.1 ≠ I) ∧ J m' news'
/-- a for over an iterator that the ledger does not share -/
theorem C_forW {R : Result → Shared → Prop} {I : Addr} {fp : List Addr} {n : Nat} {P : Nat → Value → Prop} {St : Nat → Heap → Prop} {m : Str → Option Value} {news : List (Addr × Obj)} (J : Nat → (Str → Option Value) → List (Addr × Obj) → Prop)
    (W : Walks prog w A I fp [I] n P St) (hIo : ∀ i h, St i h → ∃ o, h.get? I = some o)
    (hSt : ∀ i h h' o m' news', St i h → h.get? I = some o → h'.get? I = some o → News h₀ env.locals h' news' → J i m' news' → St i h')
    (hIL : I ≠ env.locals) (hI0 : h₀.get? I = none) (hst : St 0 s.heap) (F : Fr h₀ env.locals s.heap m) (N : News h₀ env.locals s.heap news) (off : ∀ p ∈ news, p.1 ≠ I) (hj : J 0 m news)
    (turn : ∀ i v m₁ news₁ h tk oI, i < n → P i v → J i m₁ news₁ → (∀ p ∈ news₁, p.1 ≠ I) → Fr h₀ env.locals h m₁ → News h₀ env.locals h ((I, oI) :: news₁) →
      wpAny (model prog w) A (letOwnedTupleGo target (.ref I) v) (fun _ s₁ => wpAny (model prog w) A (assign target env v) (fun _ s₂ => wpC (model prog w) A (execs body env) (TurnEnd h₀ env.locals I oI s (J (i + 1)) fun v s₃ => R (.ok (.ret v)) s₃) (fun _ _ => False) s₂) (fun _ _ => False) s₁) (fun _ _ => False) { s with heap := h, toks := tk })
    (hSt1 : ∀ i h h' o, St (i + 1) h → h.get? I = some o → h'.get? I = some o → (∀ b o, h₀.get? b = some o → h'.get? b = some o) → ∀ m' news', News h₀ env.locals h' news' → J (i + 1) m' news' → St (i + 1) h')
    (done : ∀ m₁ news₁ h tk, J n m₁ news₁ → Fr h₀ env.locals h m₁ → News h₀ env.locals h news₁ → R (.ok .next) { s with heap := h, toks := tk }) :
    codeC (model prog w) A (.forLoop target (.ref I) body [] env) R s := by
  refine C_forLoop (fun k s' => ∃ h' tk m' news' i, s' = { s with heap := h', toks := tk } ∧ St i h' ∧ Fr h₀ env.locals h' m' ∧ News h₀ env.locals h' news' ∧ (∀ p ∈ news', p.1 ≠ I) ∧ J i m' news' ∧ i ≤ n ∧ k = n + 1 - i) ?_ (n + 1)
    ⟨s.heap, s.toks, m, news, 0, rfl, hst, F, N, off, hj, Nat.zero_le _, rfl⟩
  rintro k s' ⟨h', tk, m', news', i, rfl, hst', F', N', off', hJ, hi, rfl⟩
  have next : ∀ h₁ : Heap, (∀ b o, b ∉ [I] → h'.get? b = some o → h₁.get? b = some o) → Fr h₀ env.locals h₁ m' ∧ News h₀ env.locals h₁ news' := fun h₁ hk₁ =>
    ⟨⟨F'.ns.at' fun o e => hk₁ _ o (by simpa using Ne.symm hIL) e, fun b o e => hk₁ b o (fun hm => by rw [List.mem_singleton.mp hm, hI0] at e; cases e) (F'.keep b o e), F'.above⟩, fun p hp => ⟨hk₁ _ _ (by simpa using off' p hp) (N' p hp).1, (N' p hp).2⟩⟩
  by_cases hlt : i < n
  · refine W.item i _ _ _ hlt hst' fun v h₁ tk₁ hP hst₁ hk₁ => ?_
    obtain ⟨F₁, N₁⟩ := next h₁ hk₁
    obtain ⟨oI, hoI⟩ := hIo _ _ hst₁
    have NI : News h₀ env.locals h₁ ((I, oI) :: news') := fun p hp => by
      rcases List.mem_cons.mp hp with rfl | hp
      · exact ⟨hoI, hIL, hI0⟩
      · exact N₁ p hp
    refine wpAny_mono (turn i v m' news' h₁ tk₁ oI hlt hP hJ off' F₁ NI) (fun _ s₂ h₂ => wpAny_mono h₂ (fun _ s₂ h₂ => wpC_mono h₂ (fun f s₃ h₃ => ?_) fun _ _ e => e) fun _ _ e => e) fun _ _ e => e
    have fin : (∃ h' tk' m' news', s₃ = { s with heap := h', toks := tk' } ∧ Fr h₀ env.locals h' m' ∧ News h₀ env.locals h' ((I, oI) :: news') ∧ (∀ p ∈ news', p.1 ≠ I) ∧ J (i + 1) m' news') → ∃ m, m < n + 1 - i ∧ ∃ h' tk m' news' j, s₃ = { s with heap := h', toks := tk } ∧ St j h' ∧ Fr h₀ env.locals h' m' ∧ News h₀ env.locals h' news' ∧ (∀ p ∈ news', p.1 ≠ I) ∧ J j m' news' ∧ j ≤ n ∧ m = n + 1 - j := by
      rintro ⟨g₃, tk₃, m₃, news₃, rfl, F₃, N₃, off₃, hJ₃⟩
      exact ⟨n + 1 - (i + 1), by omega, g₃, tk₃, m₃, news₃, i + 1, rfl, hSt1 i h₁ g₃ oI hst₁ hoI (N₃ _ (.head _)).1 F₃.keep m₃ news₃ (fun p hp => N₃ p (.tail _ hp)) hJ₃, F₃, fun p hp => N₃ p (.tail _ hp), off₃, hJ₃, hlt, rfl⟩
    cases f with
    | next => exact fin h₃
    | cont => exact fin h₃
    | brk => exact h₃.elim
    | ret v => exact h₃
  · obtain rfl : i = n := by omega
    refine W.done _ _ _ hst' fun h₁ tk₁ hk₁ => ?_
    obtain ⟨F₁, N₁⟩ := next h₁ hk₁
    exact done _ _ _ _ hJ F₁ N₁
end
end Mine

end

-- R8
section
open PySem PySem.W PySem.Calls PyProof.Rows
open Sem (wp)
namespace Mine
section
variable {prog : Program} {w : World} {A : Around} {E : Value → Shared → Prop} {s : Shared} {h₀ : Heap} {L a : Addr} {m : Str → Option Value} {news news' : List (Addr × Obj)} {b c : Array UInt8} {t : Tok} {l u : Value} {lo hi : Option Int}
theorem C_setslice_K {Q : Unit → Shared → Prop} (F : Fr h₀ L s.heap m) (N : News h₀ L s.heap news) (U : Upd a (baObj b) (baObj (spliced b lo hi c)) news news') (hl : IsPart l lo) (hu : IsPart u hi)
    (hz : c.size ≤ 16777216) (hz2 : (spliced b lo hi c).size ≤ 16777216)
    (h : ∀ h' k, Fr h₀ L h' m → News h₀ L h' news' → Q () { s with heap := h', toks := k }) :
    wpC (model prog w) A (setItem (.ref a) (.ref s.heap.objs.size) (.bytes c t)) Q E { s with heap := s.heap.push { cls := .type "slice", data := .fields #[l, u, .none] } } := by
  have N' := N.push F (slObj l u)
  have hne : s.heap.objs.size ≠ a := Ne.symm (Nat.ne_of_lt (Heap.lt_size (N _ (upd_mem U)).1))
  exact C_setslice (s := { s with heap := s.heap.push (slObj l u) }) (F.push _) N' (.head _) (.tail hne U) hl hu hz hz2 fun h' k F' N'' => h h' k F' fun p hp => N'' p (.tail _ hp)
end
theorem bounds_at {x y : Int} {n : Nat} (h0 : 0 ≤ x) (h1 : x ≤ (n : Int)) (h2 : x ≤ y) : (sliceBounds (some x) (some y) none n).1 = x ∧ (sliceBounds (some x) (some y) none n).2.1 = min y n := by
  unfold sliceBounds
  simp only [Option.getD_none]
  constructor
  · rw [if_pos (by decide), if_neg (by omega)]; omega
  · rw [if_pos (by decide), if_neg (by omega)]; omega
theorem ints_spliced {b c : Array UInt8} {ks ns : List Int} {x : Int} (hb : KBw.bInts b = ks) (hc : KBw.bInts c = ns) (h0 : 0 ≤ x) (h1 : x ≤ (ks.length : Int)) :
    KBw.bInts (spliced b (some x) (some (x + (ns.length : Int))) c) = ks.take x.toNat ++ ns ++ ks.drop (x.toNat + ns.length) := by
  subst hb
  subst hc
  rw [KBw.ints_length b] at h1
  obtain ⟨k, rfl⟩ := Int.eq_ofNat_of_zero_le h0
  have g1 := Int.ofNat_le.mp h1
  generalize hl : (KBw.bInts c).length = l
  have hkl : (k : Int) ≤ (k : Int) + (l : Int) := Int.le_add_of_nonneg_right (Int.natCast_nonneg l)
  obtain ⟨e1, e2⟩ := bounds_at h0 h1 hkl
  unfold spliced
  rw [e1, e2]
  show List.map _ (b.extract 0 k ++ c ++ b.extract (max (k : Int) (min ((k : Int) + (l : Int)) b.size)).toNat b.size).toList = _
  rw [Array.toList_append, Array.toList_append, List.map_append, List.map_append, Array.toList_extract, Array.toList_extract]
  congr 1
  · congr 1
    show List.map _ (List.take _ (List.drop 0 b.toList)) = _
    rw [List.drop_zero, Nat.sub_zero, List.map_take]
    rfl
  · show List.map _ (List.take _ (List.drop _ b.toList)) = List.drop _ (List.map _ b.toList)
    have hb' : b.toList.length = b.size := Array.length_toList ..
    rw [List.take_of_length_le (by rw [List.length_drop, hb']; exact Nat.le_refl _), ← List.map_drop]
    by_cases h : k + l ≤ b.size
    · have h2 : (k : Int) + (l : Int) ≤ (b.size : Int) := Int.ofNat_le.mpr h
      rw [Int.min_eq_left h2, Int.max_eq_right hkl]
      rfl
    · have h := Nat.le_of_not_le h
      have h2 : (b.size : Int) ≤ (k : Int) + (l : Int) := Int.ofNat_le.mpr h
      rw [Int.min_eq_right h2, Int.max_eq_right h1]
      show List.map _ (List.drop b.size b.toList) = List.map _ (List.drop (k + l) b.toList)
      rw [List.drop_of_length_le (by rw [hb']; exact Nat.le_refl _), List.drop_of_length_le (by rw [hb']; exact h)]
theorem by_look_dbytes : typeLookup (.type "bytes") "__bytes__" = pure (some (.builtin "bytes.__bytes__")) := by rw [typeLookup_type, builtinLookup_eq_fast]; kernel_rfl
section
open PySem.Builtin
variable {prog : Program} {w : World} {A : Around} {E : Value → Shared → Prop} {s : Shared} {c : Array UInt8} {t : Tok}
theorem by_new_bytes {Q : Value → Shared → Prop} (hQ : Q (.bytes c t) s) :
    codeAny (model prog w) A (.call (.builtin "bytes.__new__") ⟨[.type "bytes", .bytes c t], []⟩) (wants Q E) s := by
  refine codeAny_of_tree ?_
  show wpAny _ A.in1 (do checkBuiltinCall "bytes.__new__" ⟨[.type "bytes", .bytes c t], []⟩; again (.builtin "bytes.__new__" ⟨[.type "bytes", .bytes c t], []⟩)) _ _ s
  refine wpAny_bind (wpAny_of_eq (F.bm_newCall _) (wpAny_pure ⟨plainId_quiet F.bm_plain _, codeAny_builtin F.bm_entry ?_⟩))
  rw [Around.under_plainId F.bm_plain _]
  have hT : s.TypeIs (.bytes c t) "bytes" := typeIs_bytes _ _ _
  unfold Builtin.«bytes.__new__»
  refine wpAny_bind (wpAny_of_eq (a := true) rfl ?_)
  refine bm_if_false rfl ?_
  refine wpAny_bind (wpAny_of_eq F.bm_sub ?_)
  refine bm_if_false rfl ?_
  refine wpAny_bind (wpAny_of_eq (F.bm_bind _) ?_)
  refine wpAny_bind (wpAny_of_eq (a := ()) rfl ?_)
  refine wpAny_bind (wpAny_of_eq (a := ()) rfl ?_)
  refine bm_if_false rfl ?_
  refine wpAny_bind (wpAny_specialOf hT by_look_dbytes ?_)
  dsimp only
  refine wpAny_bind (wpAny_rule ?_)
  refine wpAny_bind (wpAny_of_eq (a := Value.type "bytes") rfl ?_)
  refine bm_if_true (by decide) ?_
  show wpAny _ _ (if (Value.type "bytes" == Value.type "bytes") = true then _ else _) _ _ _
  refine bm_if_true (by decide) ?_
  first
    | exact wpAny_pure hQ
    | exact wpAny_pure ⟨_, rfl, hQ⟩
    | exact wpAny_bind (wpAny_pure (wpAny_pure hQ))
theorem bytes_bytes {Q : Value → Shared → Prop} (hQ : Q (.bytes c t) s) : wpAny (model prog w) A (call (.type "bytes") [.bytes c t]) Q E s := by
  refine callType_codes (Q₁ := fun obj s₁ => s₁.TypeIs obj "bytes" ∧ Q obj s₁) F.bm_called (F.bm_typeCall _) F.entry_object_init
    (by_new_bytes ⟨PySem.W.typeIs_bytes _ _ _, hQ⟩) fun obj s₁ h₁ => ?_
  exact ⟨h₁.1, F.args_object_init_2 obj _, object_init_meets F.bm_called.init.lookup F.bm_called.made (by decide) prog w A.in1 _ s₁ ⟨h₁.1, rfl, h₁.2⟩⟩
end
end Mine

end

-- P3
section
open PySem PySem.W PySem.Calls PyProof.Rows
namespace Mine
theorem wd_four {x : Int} {r : List Int} (h0 : 0 ≤ x) (h1 : x < 4294967296) : wd (four x ++ r) 0 = x := by
  show w4 (x / 256 / 256 / 256 % 256) (x / 256 / 256 % 256) (x / 256 % 256) (x % 256) = x
  unfold w4
  omega
theorem wd_next {x : Int} {r : List Int} {i : Nat} : wd (four x ++ r) (i + 1) = wd r i := rfl
section
variable {x1 x2 x3 x4 x5 x6 : Int}
theorem head_len : (headOf x1 x2 x3 x4 x5 x6).length = 32 := rfl
theorem head_take : (headOf x1 x2 x3 x4 x5 x6).take 24 = toldOf x1 x2 x3 x4 x5 x6 := rfl
theorem head_split : headOf x1 x2 x3 x4 x5 x6 = four x1 ++ (four x2 ++ (four x3 ++ (four x4 ++ (four x5 ++ (four x6 ++ (four (sums (toldOf x1 x2 x3 x4 x5 x6) (0, 0)).1 ++ (four (sums (toldOf x1 x2 x3 x4 x5 x6) (0, 0)).2 ++ []))))))) := by
  unfold headOf
  rw [List.append_nil]
  unfold toldOf
  simp only [List.append_assoc]
theorem head_wd (g1 : 0 ≤ x1) (g2 : x1 < 4294967296) (g3 : 0 ≤ x2) (g4 : x2 < 4294967296) (g5 : 0 ≤ x3) (g6 : x3 < 4294967296) (g7 : 0 ≤ x4) (g8 : x4 < 4294967296) (g9 : 0 ≤ x5) (g10 : x5 < 4294967296) (g11 : 0 ≤ x6) (g12 : x6 < 4294967296) :
    wd (headOf x1 x2 x3 x4 x5 x6) 0 = x1 ∧ wd (headOf x1 x2 x3 x4 x5 x6) 1 = x2 ∧ wd (headOf x1 x2 x3 x4 x5 x6) 2 = x3 ∧ wd (headOf x1 x2 x3 x4 x5 x6) 3 = x4 ∧ wd (headOf x1 x2 x3 x4 x5 x6) 4 = x5 ∧ wd (headOf x1 x2 x3 x4 x5 x6) 5 = x6 ∧
    wd (headOf x1 x2 x3 x4 x5 x6) 6 = (sums (toldOf x1 x2 x3 x4 x5 x6) (0, 0)).1 ∧ wd (headOf x1 x2 x3 x4 x5 x6) 7 = (sums (toldOf x1 x2 x3 x4 x5 x6) (0, 0)).2 := by
  obtain ⟨a, b, c, d⟩ := sums_range (ks := toldOf x1 x2 x3 x4 x5 x6) (x := 0) (y := 0) (o := (sums (toldOf x1 x2 x3 x4 x5 x6) (0, 0)).1) (t := (sums (toldOf x1 x2 x3 x4 x5 x6) (0, 0)).2) rfl (by decide) (by decide) (by decide) (by decide)
  rw [head_split]
  refine ⟨wd_four g1 g2, ?_, ?_, ?_, ?_, ?_, ?_, ?_⟩
  · rw [wd_next, wd_four g3 g4]
  · rw [wd_next, wd_next, wd_four g5 g6]
  · rw [wd_next, wd_next, wd_next, wd_four g7 g8]
  · rw [wd_next, wd_next, wd_next, wd_next, wd_four g9 g10]
  · rw [wd_next, wd_next, wd_next, wd_next, wd_next, wd_four g11 g12]
  · rw [wd_next, wd_next, wd_next, wd_next, wd_next, wd_next, wd_four a b]
  · rw [wd_next, wd_next, wd_next, wd_next, wd_next, wd_next, wd_next, wd_four c d]
theorem head_ok (g5 : 0 ≤ x3) (g6 : x3 < 4294967296) (g7 : 0 ≤ x4) (g8 : x4 < 4294967296) (g9 : 0 ≤ x5) (g10 : x5 < 4294967296) (g11 : 0 ≤ x6) (g12 : x6 < 4294967296) : headOk (headOf 931071618 3007000 x3 x4 x5 x6) = true := by
  obtain ⟨e0, e1, e2, e3, e4, e5, e6, e7⟩ := head_wd (x1 := 931071618) (x2 := 3007000) (by decide) (by decide) (by decide) (by decide) g5 g6 g7 g8 g9 g10 g11 g12
  unfold headOk
  rw [head_take, e0, e1, e6, e7, head_len]
  simp
end
end Mine

end

-- R9
section
open PySem PySem.W PySem.Calls PyProof.Rows
namespace Mine
theorem valueAt_new {kvs : List (Int × Value)} {k : Int} {v : Value} (h : valueAt kvs k = none) : valueAt (stored kvs k v) k = some v := by
  rw [stored_absent h]
  unfold valueAt at h ⊢
  rw [List.find?_append]
  cases q : kvs.find? (fun kv => kv.1 = k) with
  | none => simp
  | some p => rw [q] at h; cases h
end Mine

end

-- R10
section
open PySem PySem.W PySem.Calls PyProof.Rows
open Sem (wp)
namespace Mine
section
variable {prog : Program} {w : World} {A : Around} {E : Value → Shared → Prop} {s : Shared} {a c : Addr} {x y u v : Value} {n k : Nat}
/-- two tuples of two parts each, the parts alike -/
theorem pair_tree {P : PySem.Fin → Shared → Prop} (ha : s.heap.get? a = some { cls := .type "tuple", data := .seq #[x, u] n }) (hc : s.heap.get? c = some { cls := .type "tuple", data := .seq #[y, v] k })
    (e1 : ∀ Q : Bool → Shared → Prop, Q true s → wpAny (model prog w) A (eqBool x y) Q E s) (e2 : ∀ Q : Bool → Shared → Prop, Q true s → wpAny (model prog w) A (eqBool u v) Q E s) (h : P (.done (.ret (.bool false))) s) :
    wpAny (model prog w) A (Builtin.«tuple.__ne__» ⟨[.ref a, .ref c], []⟩) P E s := by
  have hTb : s.TypeIs (.ref c) "tuple" := ⟨_, hc, rfl⟩
  show wpAny _ _ (isInstance (.ref c) (.type "tuple") >>= _) _ _ s
  refine wpAny_bind (wpAny_isInstance hTb isSubtype_tuple_tuple ?_)
  simp only [Bool.not_true, Bool.false_eq_true, if_false]
  refine wpAny_bind (wpAny_tupleItemsOf ha rfl ?_)
  refine wpAny_bind (wpAny_tupleItemsOf hc rfl ?_)
  refine wpAny_bind ?_
  refine wpAny_forIn_list _ (fun rest r s' => r.1 = none ∧ s' = s ∧ (rest = [(x, y), (u, v)] ∨ rest = [(u, v)] ∨ rest = [])) _ ?_ ?_ _ _ ⟨rfl, rfl, .inl rfl⟩
  · rintro ⟨p, q⟩ rest r s' ⟨hr, rfl, hz | hz | hz⟩
    · obtain ⟨h1, rfl⟩ := List.cons.inj hz
      obtain ⟨rfl, rfl⟩ := Prod.mk.inj h1
      refine wpAny_bind (e1 _ ?_)
      simp only [Bool.not_true, Bool.false_eq_true, if_false]
      exact wpAny_pure ⟨rfl, rfl, by simp⟩
    · obtain ⟨h1, rfl⟩ := List.cons.inj hz
      obtain ⟨rfl, rfl⟩ := Prod.mk.inj h1
      refine wpAny_bind (e2 _ ?_)
      simp only [Bool.not_true, Bool.false_eq_true, if_false]
      exact wpAny_pure ⟨rfl, rfl, by simp⟩
    · cases hz
  · rintro ⟨r1, r2⟩ s' ⟨hr, rfl, _⟩
    simp only at hr
    subst hr
    exact wpAny_pure h
theorem pair_ne {Q : Value → Shared → Prop} (ha : s.heap.get? a = some { cls := .type "tuple", data := .seq #[x, u] n }) (hc : s.heap.get? c = some { cls := .type "tuple", data := .seq #[y, v] k }) (hu : A.units < cLine)
    (e1 : ∀ A' : Around, A'.units ≤ A.units + 8 → ∀ Q : Bool → Shared → Prop, Q true s → wpAny (model prog w) A' (eqBool x y) Q E s) (e2 : ∀ A' : Around, A'.units ≤ A.units + 8 → ∀ Q : Bool → Shared → Prop, Q true s → wpAny (model prog w) A' (eqBool u v) Q E s) (h : Q (.bool false) s) :
    wpAny (model prog w) A (compareOp .NotEq (.ref a) (.ref c)) Q E s := by
  have hTa : s.TypeIs (.ref a) "tuple" := ⟨_, ha, rfl⟩
  have hTc : s.TypeIs (.ref c) "tuple" := ⟨_, hc, rfl⟩
  show wpAny _ _ (richCompare .NotEq (.ref a) (.ref c)) Q E s
  refine wpAny_richCompare_same_room (op := .NotEq) hTa hTc F.slot_tuple_ne (wpAny_call_entry F.slot_tuple_ne hTa F.entry_tuple_ne (pair_tree ha hc ?_ ?_ ⟨_, rfl, (fun e => nomatch e), h⟩) (F.args_tuple_ne_2 _ _)) hu
  · exact fun Q hq => e1 _ (by first | exact Nat.le_refl _ | (simp only [units_in1]; omega) | (show _ + _ ≤ _; omega)) Q hq
  · exact fun Q hq => e2 _ (by first | exact Nat.le_refl _ | (simp only [units_in1]; omega) | (show _ + _ ≤ _; omega)) Q hq
theorem bytes_same {b b' : Array UInt8} {ks : List Int} (hb : KBw.bInts b = ks) (hb' : KBw.bInts b' = ks) : b.toList = b'.toList := by
  have e : b.toList.map (fun c : UInt8 => (c.toNat : Int)) = b'.toList.map (fun c : UInt8 => (c.toNat : Int)) := hb.trans hb'.symm
  refine (List.map_inj_right fun p q h => ?_).mp e
  have : p.toNat = q.toNat := by exact_mod_cast h
  exact UInt8.toNat_inj.mp this
theorem frame_ne {h₀ : Heap} {L d d' : Addr} {news : List (Addr × Obj)} {b b' : Array UInt8} {ks : List Int} {o p : Int} {t1 t2 t3 t4 t5 t6 : Tok} {Q : Value → Shared → Prop} (N : News h₀ L s.heap news)
    (m1 : (a, ({ cls := .type "tuple", data := .seq #[.bytes b t1, .ref d] } : Obj)) ∈ news) (m2 : (c, ({ cls := .type "tuple", data := .seq #[.bytes b' t2, .ref d'] } : Obj)) ∈ news)
    (m3 : (d, ({ cls := .type "tuple", data := .seq #[.int o t3, .int p t4] } : Obj)) ∈ news) (m4 : (d', ({ cls := .type "tuple", data := .seq #[.int o t5, .int p t6] } : Obj)) ∈ news)
    (hb : KBw.bInts b = ks) (hb' : KBw.bInts b' = ks) (hu : A.units + 16 < cLine) (h : Q (.bool false) s) : wpAny (model prog w) A (compareOp .NotEq (.ref a) (.ref c)) Q E s := by
  refine pair_ne (N _ m1).1 (N _ m2).1 (by omega) (fun A' hA Q hq => eqBool_bytes (by rw [decide_eq_true (bytes_same hb hb')]; exact hq)) (fun A' hA Q hq => ?_) h
  have k3 : IsTupleKey (PySem.intKind prog w) s.heap [o, p] d := ⟨_, _, _, (N _ m3).1, rfl, rfl, .cons (intKind_is _ _ _ _) (.cons (intKind_is _ _ _ _) .nil)⟩
  have k4 : IsTupleKey (PySem.intKind prog w) s.heap [o, p] d' := ⟨_, _, _, (N _ m4).1, rfl, rfl, .cons (intKind_is _ _ _ _) (.cons (intKind_is _ _ _ _) .nil)⟩
  exact wpAny_eqBool_tuple (by omega) k3 k4 (by rw [decide_eq_true rfl]; exact hq)
end
section
variable {M : Model} {A : Around} {E : Value → Shared → Prop} {s : Shared} {env : Env}
end
end Mine

end

-- R11
section
open PySem PySem.W PySem.Calls PyProof.Rows
open Sem (wp)
namespace Mine
section
variable {prog : Program} {w : World} {A : Around} {E : Value → Shared → Prop} {s : Shared} {env : Env} {h₀ : Heap} {target : Expr} {body : List Stmt} {R : Result → Shared → Prop} {m : Str → Option Value} {news : List (Addr × Obj)}
/-- C_forW, the iterator's state handed to the turn -/
theorem C_forW2 {R : Result → Shared → Prop} {I : Addr} {fp : List Addr} {n : Nat} {P : Nat → Value → Prop} {St : Nat → Heap → Prop} {m : Str → Option Value} {news : List (Addr × Obj)} (J : Nat → (Str → Option Value) → List (Addr × Obj) → Prop)
    (W : Walks prog w A I fp [I] n P St) (hIo : ∀ i h, St i h → ∃ o, h.get? I = some o)
    (hSt : ∀ i h h' o m' news', St i h → h.get? I = some o → h'.get? I = some o → News h₀ env.locals h' news' → J i m' news' → St i h')
    (hIL : I ≠ env.locals) (hI0 : h₀.get? I = none) (hst : St 0 s.heap) (F : Fr h₀ env.locals s.heap m) (N : News h₀ env.locals s.heap news) (off : ∀ p ∈ news, p.1 ≠ I) (hj : J 0 m news)
    (turn : ∀ i v m₁ news₁ h tk oI, i < n → P i v → St (i + 1) h → J i m₁ news₁ → (∀ p ∈ news₁, p.1 ≠ I) → Fr h₀ env.locals h m₁ → News h₀ env.locals h ((I, oI) :: news₁) →
      wpAny (model prog w) A (letOwnedTupleGo target (.ref I) v) (fun _ s₁ => wpAny (model prog w) A (assign target env v) (fun _ s₂ => wpC (model prog w) A (execs body env) (TurnEnd h₀ env.locals I oI s (J (i + 1)) fun v s₃ => R (.ok (.ret v)) s₃) (fun _ _ => False) s₂) (fun _ _ => False) s₁) (fun _ _ => False) { s with heap := h, toks := tk })
    (hSt1 : ∀ i h h' o, St (i + 1) h → h.get? I = some o → h'.get? I = some o → (∀ b o, h₀.get? b = some o → h'.get? b = some o) → ∀ m' news', News h₀ env.locals h' news' → J (i + 1) m' news' → St (i + 1) h')
    (done : ∀ m₁ news₁ h tk, J n m₁ news₁ → Fr h₀ env.locals h m₁ → News h₀ env.locals h news₁ → R (.ok .next) { s with heap := h, toks := tk }) :
    codeC (model prog w) A (.forLoop target (.ref I) body [] env) R s := by
  refine C_forLoop (fun k s' => ∃ h' tk m' news' i, s' = { s with heap := h', toks := tk } ∧ St i h' ∧ Fr h₀ env.locals h' m' ∧ News h₀ env.locals h' news' ∧ (∀ p ∈ news', p.1 ≠ I) ∧ J i m' news' ∧ i ≤ n ∧ k = n + 1 - i) ?_ (n + 1)
    ⟨s.heap, s.toks, m, news, 0, rfl, hst, F, N, off, hj, Nat.zero_le _, rfl⟩
  rintro k s' ⟨h', tk, m', news', i, rfl, hst', F', N', off', hJ, hi, rfl⟩
  have next : ∀ h₁ : Heap, (∀ b o, b ∉ [I] → h'.get? b = some o → h₁.get? b = some o) → Fr h₀ env.locals h₁ m' ∧ News h₀ env.locals h₁ news' := fun h₁ hk₁ =>
    ⟨⟨F'.ns.at' fun o e => hk₁ _ o (by simpa using Ne.symm hIL) e, fun b o e => hk₁ b o (fun hm => by rw [List.mem_singleton.mp hm, hI0] at e; cases e) (F'.keep b o e), F'.above⟩, fun p hp => ⟨hk₁ _ _ (by simpa using off' p hp) (N' p hp).1, (N' p hp).2⟩⟩
  by_cases hlt : i < n
  · refine W.item i _ _ _ hlt hst' fun v h₁ tk₁ hP hst₁ hk₁ => ?_
    obtain ⟨F₁, N₁⟩ := next h₁ hk₁
    obtain ⟨oI, hoI⟩ := hIo _ _ hst₁
    have NI : News h₀ env.locals h₁ ((I, oI) :: news') := fun p hp => by
      rcases List.mem_cons.mp hp with rfl | hp
      · exact ⟨hoI, hIL, hI0⟩
      · exact N₁ p hp
    refine wpAny_mono (turn i v m' news' h₁ tk₁ oI hlt hP hst₁ hJ off' F₁ NI) (fun _ s₂ h₂ => wpAny_mono h₂ (fun _ s₂ h₂ => wpC_mono h₂ (fun f s₃ h₃ => ?_) fun _ _ e => e) fun _ _ e => e) fun _ _ e => e
    have fin : (∃ h' tk' m' news', s₃ = { s with heap := h', toks := tk' } ∧ Fr h₀ env.locals h' m' ∧ News h₀ env.locals h' ((I, oI) :: news') ∧ (∀ p ∈ news', p.1 ≠ I) ∧ J (i + 1) m' news') → ∃ m, m < n + 1 - i ∧ ∃ h' tk m' news' j, s₃ = { s with heap := h', toks := tk } ∧ St j h' ∧ Fr h₀ env.locals h' m' ∧ News h₀ env.locals h' news' ∧ (∀ p ∈ news', p.1 ≠ I) ∧ J j m' news' ∧ j ≤ n ∧ m = n + 1 - j := by
      rintro ⟨g₃, tk₃, m₃, news₃, rfl, F₃, N₃, off₃, hJ₃⟩
      exact ⟨n + 1 - (i + 1), by omega, g₃, tk₃, m₃, news₃, i + 1, rfl, hSt1 i h₁ g₃ oI hst₁ hoI (N₃ _ (.head _)).1 F₃.keep m₃ news₃ (fun p hp => N₃ p (.tail _ hp)) hJ₃, F₃, fun p hp => N₃ p (.tail _ hp), off₃, hJ₃, hlt, rfl⟩
    cases f with
    | next => exact fin h₃
    | cont => exact fin h₃
    | brk => exact h₃.elim
    | ret v => exact h₃
  · obtain rfl : i = n := by omega
    refine W.done _ _ _ hst' fun h₁ tk₁ hk₁ => ?_
    obtain ⟨F₁, N₁⟩ := next h₁ hk₁
    exact done _ _ _ _ hJ F₁ N₁
/-- for over a list of the ledger, over tidy stacks -/
theorem C_forList {l : Addr} {vs : List Value} {k : Nat} (J : Nat → (Str → Option Value) → List (Addr × Obj) → Prop)
    (hh : A.handled = none) (F : Fr h₀ env.locals s.heap m) (N : News h₀ env.locals s.heap news) (hl : (l, listOf vs.toArray k) ∈ news) (hJl : ∀ i m' news', J i m' news' → (l, listOf vs.toArray k) ∈ news') (hj : J 0 m news)
    (turn : ∀ (i : Nat) (v : Value) m₁ news₁ h tk I oI, vs[i]? = some v → h.IsListIter I l (i + 1) → J i m₁ news₁ → (∀ p ∈ news₁, Apart p.1 I) → Fr h₀ env.locals h m₁ → News h₀ env.locals h ((I, oI) :: news₁) →
      wpAny (model prog w) A (letOwnedTupleGo target (.ref I) v) (fun _ s₁ => wpAny (model prog w) A (assign target env v) (fun _ s₂ => wpC (model prog w) A (execs body env) (TurnEnd h₀ env.locals I oI s (J (i + 1)) fun v s₃ => R (.ok (.ret v)) s₃) (fun _ _ => False) s₂) (fun _ _ => False) s₁) (fun _ _ => False) { s with heap := h, toks := tk })
    (done : ∀ m₁ news₁ h tk, J vs.length m₁ news₁ → Fr h₀ env.locals h m₁ → News h₀ env.locals h news₁ → R (.ok .next) { s with heap := h, toks := tk }) :
    wpAny (model prog w) A (pyIter (.ref l)) (fun it s₂ => codeC (model prog w) A (.forLoop target it body [] env) R s₂) E s := by
  have isl : ∀ (h : Heap) news', News h₀ env.locals h news' → (l, listOf vs.toArray k) ∈ news' → h.IsList l vs.toArray := fun h news' N' hm => ⟨_, (N' _ hm).1, rfl, k, rfl⟩
  have hls := isl _ _ N hl
  have hne : l ≠ s.heap.objs.size := Nat.ne_of_lt (Heap.lt_size (N _ hl).1)
  refine wpAny_pyIter_list hls ?_
  have W := Walks.list (prog := prog) (w := w) hh s.heap.objs.size l hne vs.toArray
  have st : ∀ (i : Nat) (h h' : Heap) (o : Obj), h.IsListIter s.heap.objs.size l i → h.get? s.heap.objs.size = some o → h'.get? s.heap.objs.size = some o → h'.IsListIter s.heap.objs.size l i := fun i h h' o q e e' => by
    obtain ⟨o', q1, q2⟩ := q
    rw [e] at q1
    cases q1
    exact ⟨o, e', q2⟩
  have up : ∀ b o, s.heap.get? b = some o → (s.heap.push { cls := .type "list_iterator", data := .fields #[.ref l, .int 0 0] }).get? b = some o := fun b o e => Heap.get?_push_of_some _ e
  have C := @C_forW2 prog w A { s with heap := s.heap.push { cls := .type "list_iterator", data := .fields #[.ref l, .int 0 0] } } env h₀ target body R s.heap.objs.size _ _ _ _ m news J W
    (fun i h q => by obtain ⟨o, e, _⟩ := q.1; exact ⟨o, e⟩) (fun i h h' o m' news' q e e' N' hJ => ⟨st i h h' o q.1 e e', isl _ _ N' (hJl _ _ _ hJ)⟩) (Nat.ne_of_gt F.ns.lt) (next_is_new F) ⟨⟨_, Heap.get?_push_size _ rfl, rfl, rfl⟩, hls.at fun o e => up _ _ e⟩
    (F.push _) (fun p hp => ⟨up _ _ (N p hp).1, (N p hp).2⟩) (fun p hp => Nat.ne_of_lt (Heap.lt_size (N p hp).1)) hj
  refine C ?_ (fun i h h' o q e e' _ m' news' N' hJ => ⟨st (i + 1) h h' o q.1 e e', isl _ _ N' (hJl _ _ _ hJ)⟩) (fun m₁ news₁ h tk hJ F₁ N₁ => done m₁ news₁ h tk (by simpa using hJ) F₁ N₁)
  intro i v m₁ news₁ h tk oI hi hP hst hJ off F₁ N₁
  exact turn i v m₁ news₁ h tk _ oI (by simpa using hP) hst.1 hJ off F₁ N₁
end
end Mine

end

-- P4
section
open PySem PySem.W PySem.Calls PyProof.Rows
namespace Mine
section
variable {page count s1 s2 x y : Int} {ks : List Int}
theorem frame_len : (frameOf page count s1 s2 x y ks).length = 24 + ks.length := by
  unfold frameOf
  simp only [List.length_append, four_len]
theorem frame_split : frameOf page count s1 s2 x y ks = four page ++ (four count ++ (four s1 ++ (four s2 ++ (four (sumsOf page count x y ks).1 ++ (four (sumsOf page count x y ks).2 ++ ks))))) := by
  unfold frameOf
  simp only [List.append_assoc]
theorem frame_take : (frameOf page count s1 s2 x y ks).take 8 = four page ++ four count := by rw [frame_split]; rfl
theorem frame_drop : (frameOf page count s1 s2 x y ks).drop 24 = ks := by rw [frame_split]; rfl
theorem sumsOf_range (g4 : 0 ≤ x) (g5 : x < 4294967296) (g6 : 0 ≤ y) (g7 : y < 4294967296) : 0 ≤ (sumsOf page count x y ks).1 ∧ (sumsOf page count x y ks).1 < 4294967296 ∧ 0 ≤ (sumsOf page count x y ks).2 ∧ (sumsOf page count x y ks).2 < 4294967296 :=
  sums_range (ks := four page ++ four count ++ ks) (x := x) (y := y) rfl g4 g5 g6 g7
theorem frame_wd (g0 : 0 ≤ page) (g1 : page < 4294967296) (g2 : 0 ≤ count) (g3 : count < 4294967296) (g8 : 0 ≤ s1) (g9 : s1 < 4294967296) (g10 : 0 ≤ s2) (g11 : s2 < 4294967296) (g4 : 0 ≤ x) (g5 : x < 4294967296) (g6 : 0 ≤ y) (g7 : y < 4294967296) :
    wd (frameOf page count s1 s2 x y ks) 0 = page ∧ wd (frameOf page count s1 s2 x y ks) 1 = count ∧ wd (frameOf page count s1 s2 x y ks) 2 = s1 ∧ wd (frameOf page count s1 s2 x y ks) 3 = s2 ∧
    wd (frameOf page count s1 s2 x y ks) 4 = (sumsOf page count x y ks).1 ∧ wd (frameOf page count s1 s2 x y ks) 5 = (sumsOf page count x y ks).2 := by
  obtain ⟨a, b, c, d⟩ := sumsOf_range (page := page) (count := count) (ks := ks) g4 g5 g6 g7
  rw [frame_split]
  refine ⟨wd_four g0 g1, ?_, ?_, ?_, ?_, ?_⟩
  · rw [wd_next, wd_four g2 g3]
  · rw [wd_next, wd_next, wd_four g8 g9]
  · rw [wd_next, wd_next, wd_next, wd_four g10 g11]
  · rw [wd_next, wd_next, wd_next, wd_next, wd_four a b]
  · rw [wd_next, wd_next, wd_next, wd_next, wd_next, wd_four c d]
theorem told_frame {size S1 S2 : Int} (hl : (ks.length : Int) = size) (g0 : 0 ≤ page) (g1 : page < 4294967296) (g2 : 0 ≤ count) (g3 : count < 4294967296) (g8 : 0 ≤ s1) (g9 : s1 < 4294967296) (g10 : 0 ≤ s2) (g11 : s2 < 4294967296) (g4 : 0 ≤ x) (g5 : x < 4294967296) (g6 : 0 ≤ y) (g7 : y < 4294967296) :
    toldIs (frameOf page count s1 s2 x y ks) size S1 S2 x y = if page = 0 then none else if s1 = S1 ∧ s2 = S2 then some (page, count, (sumsOf page count x y ks).1, (sumsOf page count x y ks).2) else none := by
  obtain ⟨e0, e1, e2, e3, e4, e5⟩ := frame_wd (ks := ks) g0 g1 g2 g3 g8 g9 g10 g11 g4 g5 g6 g7
  have es : sums ((frameOf page count s1 s2 x y ks).take 8 ++ ((frameOf page count s1 s2 x y ks).drop 24).take size.toNat) (x, y) = sumsOf page count x y ks := by
    rw [frame_take, frame_drop, List.take_of_length_le (by omega)]
    rfl
  unfold toldIs
  rw [es, e0, e1, e2, e3, e4, e5, frame_len, if_neg (by push_cast; omega)]
  by_cases hp : page = 0
  · rw [if_pos hp, if_pos hp]
  · rw [if_neg hp, if_neg hp]
    by_cases hs : s1 = S1 ∧ s2 = S2
    · obtain ⟨rfl, rfl⟩ := hs
      simp
    · rw [if_neg hs, if_neg]
      simpa using hs
end
theorem written_eq {ks cs : List Int} {a n : Nat} (h : a ≤ ks.length) (h2 : ks.length ≤ a + cs.length) (hn : a + cs.length = n) : (ks.take a ++ cs ++ ks.drop (a + cs.length)).length = n := by
  rw [List.length_append, List.length_append, List.length_take, List.length_drop]
  omega
theorem clip_maxN {n k : Nat} (h : n ≤ k) : clipAt n (k : Int) = n := by
  unfold clipAt
  rw [if_neg (Int.not_lt.mpr (Int.natCast_nonneg k)), Int.min_eq_right (Int.ofNat_le.mpr h), Int.max_eq_right (Int.natCast_nonneg n)]
  rfl
theorem clip_max {n : Nat} {a : Int} (h : (n : Int) ≤ a) : clipAt n a = n := by
  obtain ⟨k, rfl⟩ := Int.eq_ofNat_of_zero_le (Int.le_trans (Int.natCast_nonneg n) h)
  exact clip_maxN (Int.ofNat_le.mp h)
/-- what is read back where it was written -/
theorem cut_written {ks cs : List Int} {a n : Int} (h0 : 0 ≤ a) (h1 : a ≤ (ks.length : Int)) (hn : 0 ≤ n) (h : (cs.length : Int) = n ∨ ((ks.length : Int) = a ∧ (cs.length : Int) ≤ n)) :
    List.take (clipAt (ks.take a.toNat ++ cs ++ ks.drop (a.toNat + cs.length)).length (a + n) - clipAt (ks.take a.toNat ++ cs ++ ks.drop (a.toNat + cs.length)).length a) (List.drop (clipAt (ks.take a.toNat ++ cs ++ ks.drop (a.toNat + cs.length)).length a) (ks.take a.toNat ++ cs ++ ks.drop (a.toNat + cs.length))) = cs := by
  obtain ⟨k, rfl⟩ := Int.eq_ofNat_of_zero_le h0
  obtain ⟨j, rfl⟩ := Int.eq_ofNat_of_zero_le hn
  have g1 := Int.ofNat_le.mp h1
  have ht : (ks.take k).length = k := List.length_take_of_le g1
  rw [Int.toNat_natCast, show (k : Int) + (j : Int) = ((k + j : Nat) : Int) by rfl]
  have hl : (ks.take k ++ cs ++ ks.drop (k + cs.length)).length = k + cs.length + (ks.length - (k + cs.length)) := by
    rw [List.length_append, List.length_append, ht, List.length_drop]
  rw [clip_nat (k := k) (by rw [hl, Nat.add_assoc]; exact Nat.le_add_right ..), List.append_assoc, List.drop_left' ht]
  rw [List.append_assoc] at hl
  rcases h with h | ⟨h, h'⟩
  · have h := Int.ofNat.inj h
    rw [← h, clip_nat (by rw [hl]; exact Nat.le_add_right ..), Nat.add_sub_cancel_left, List.take_left' rfl]
  · have h := Int.ofNat.inj h
    have hdn : ks.drop (k + cs.length) = [] := List.drop_of_length_le (by rw [h]; exact Nat.le_add_right ..)
    rw [hdn, List.append_nil, clip_maxN (by rw [List.length_append, ht]; exact Nat.add_le_add_left (Int.ofNat_le.mp h') k), List.length_append, ht, Nat.add_sub_cancel_left, List.take_length]
noncomputable def Pick3 (x y : Int) : Prop := (x = 3 ∧ y = 2) ∨ (x = 1 ∧ y = 3) ∨ (x = 1 ∧ y = 2)
theorem pick_range {x y : Int} (h : Pick3 x y) : 0 ≤ x ∧ x < 4294967296 ∧ 0 ≤ y ∧ y < 4294967296 := by
  unfold Pick3 at h
  omega
section
open Sem (wp)
variable {prog : Program} {w : World} {A : Around} {E : Value → Shared → Prop} {s : Shared} {a c : Addr}
end
end Mine

end

-- E0
section
open PySem PySem.W PySem.Calls PyProof.Rows
open Sem (wp)
namespace Mine
section
variable {prog : Program} {w : World} {A : Around} {s : Shared} {h₀ : Heap} {L : Addr} {m mg mb : Str → Option Value} {news small : List (Addr × Obj)} {K : Frag} {p : Program} {loose : List Str} {mean : ExcName → Option Value}
  {R : Result → Shared → Prop} {name qual : Str} {params : Arguments} {body : List Stmt} {scope : Scope} {dV kV doc pm cdv ct oc : Value} {an od : Option Addr} {osl : Array (Option Value)} {f : Addr} {args : Args} {binds : List (Str × Value)}
/-- the ledger hidden from the heap: what a callee's frame stands on -/
theorem groundF (F : Fr h₀ L s.heap m) (N : News h₀ L s.heap news) :
    Fr h₀ L (hideAll s.heap (news.map (·.1))) m ∧ h₀.StaysIn (hideAll s.heap (news.map (·.1))) ∧ ∀ v s', LeaveK h₀ L m (hideAll s.heap (news.map (·.1))) R v s' → R (.ok (.ret v)) s' := by
  have nm : ∀ b o, h₀.get? b = some o → b ∉ news.map (·.1) := fun b o e q => by
    obtain ⟨p, hp, rfl⟩ := List.mem_map.mp q
    rw [(N p hp).2.2] at e; cases e
  have st : h₀.StaysIn (hideAll s.heap (news.map (·.1))) := fun b o e => hideAll_get _ (F.keep b o e) (nm b o e)
  obtain ⟨oL, es, ep, hL, hLd, hLk, hLf⟩ := F.ns
  have nL : L ∉ news.map (·.1) := fun q => by
    obtain ⟨p, hp, e⟩ := List.mem_map.mp q
    exact (N p hp).2.1 e
  have hLg := hideAll_get (news.map (·.1)) hL nL
  refine ⟨⟨⟨oL, es, ep, hLg, hLd, hLk, hLf⟩, st, F.above⟩, st, fun v s' hl => ?_⟩
  obtain ⟨L', m', news', F', N', k⟩ := hl
  refine k ⟨⟨oL, es, ep, F'.keep L oL hLg, hLd, hLk, hLf⟩, fun b o e => F'.keep b o (st b o e), F.above⟩ fun p hp => ⟨(N' p hp).1, fun q => ?_, ?_⟩
  · have := (N' p hp).2.2; rw [q, hLg] at this; cases this
  · cases q : h₀.get? p.1 with
    | none => rfl
    | some o => have := (N' p hp).2.2; rw [st _ _ q] at this; cases this
/-- a call of a def: the part 'small' of the ledger is the callee's, all else stands in its base -/
theorem enter_subF (F : Fr h₀ L s.heap m) (X₀ : K.In h₀) (N : News h₀ L s.heap news) (hsub : ∀ p ∈ small, p ∈ news) (T : Top p loose mean mg mb h₀)
    (ho : K.lookup f = some ⟨oc, od, .func (fnOf name qual params body scope dV kV doc pm an cdv ct), osl⟩) (hcd : codeIn K cdv qual = true) (hroom : A.depth < recursionLimit)
    (hbind : BindsTo s (fnOf name qual params body scope dV kV doc pm an cdv ct) args binds) (hloc : ∀ y ∈ binds, scope.names.lookup y.1 = some .local)
    (h : ∀ g L' h₁, Fr h₀ L g m → Fr g L' h₁ (fun y => binds.reverse.lookup y) → News g L' h₁ small → K.In g → Top p loose mean mg mb g → Rest small news h₀ L g → (∀ p ∈ small, p.1 < L') →
      wpAny (model prog w) (A.deeper (envOf qual scope L' f cdv)) (execs body (envOf qual scope L' f cdv))
        (fun fl s' => LeaveK h₀ L m g (fun r s' => Rest small news h₀ L s'.heap → R r s') (match fl with | .ret v => v | _ => .none) s')
        (fun e s' => wpAny (model prog w) (A.deeper (envOf qual scope L' f cdv)) (leaving (envOf qual scope L' f cdv) e) (fun _ s'' => R (.error e) s'') (fun e' s'' => R (.error e') s'') s')
        { s with heap := h₁, toks := s.toks + binds.length })
    (hco : scope.isCoroutine = false) (hgen : scope.isGenerator = false) (hk : scope.kind = .function)
    (hcell : ∀ x ∈ scope.names, x.2 ≠ .cell) : codeAny (model prog w) A (.call (.ref f) args) R s := by
  have N' : News h₀ L s.heap small := fun p hp => N p (hsub p hp)
  obtain ⟨FG, st, lv⟩ := groundF (R := fun r s' => Rest small news h₀ L s'.heap → R r s') F N'
  have rg : Rest small news h₀ L (hideAll s.heap (small.map (·.1))) := fun p hp hn => ⟨hideAll_get _ (N p hp).1 hn, (N p hp).2⟩
  refine codeAny_call_def (fd := fnX name qual params body scope [] dV kV doc pm an cdv ct) (body := body) (binds := binds) hroom ((X₀.keeps F.keep) _ _ ho) rfl (T.nolimit.keeps F.keep) (codeRec_of (X₀.keeps F.keep) hcd) rfl hbind hcell hloc (fun h₁ hns hk₁ => ?_) hco hgen hk
  refine wpAny_mono (h _ s.heap.objs.size h₁ FG ⟨hns, fun b o e => hk₁ b o (of_hideAll _ e), Nat.le_of_eq (hideAll_size _ _)⟩
    (fun p hp => ⟨hk₁ _ _ (N' p hp).1, Nat.ne_of_lt (Heap.lt_size (N' p hp).1), hideAll_none _ (List.mem_map_of_mem hp)⟩) (X₀.keeps st) (T.keeps st) rg (fun p hp => Heap.lt_size (N' p hp).1)) (fun fl s' hl => ?_) fun _ _ y => y
  have hl' := hl
  obtain ⟨L', m', news', F', _, _⟩ := hl'
  exact lv _ _ hl fun p hp hn => ⟨F'.keep _ _ (rg p hp hn).1, (rg p hp hn).2⟩

/-- the same for a def with cells -/
theorem enter_subCF (F : Fr h₀ L s.heap m) (X₀ : K.In h₀) (N : News h₀ L s.heap news) (hsub : ∀ p ∈ small, p ∈ news) (T : Top p loose mean mg mb h₀)
    (ho : K.lookup f = some ⟨oc, od, .func (fnOf name qual params body scope dV kV doc pm an cdv ct), osl⟩) (hcd : codeIn K cdv qual = true) (hroom : A.depth < recursionLimit)
    (hbind : BindsTo s (fnOf name qual params body scope dV kV doc pm an cdv ct) args binds) (hkind : (binds.all fun y => scope.names.lookup y.1 == some .local || scope.names.lookup y.1 == some .cell) = true)
    (hnd : ((cellsFrom 0 scope.names []).map (·.1)).Nodup)
    (h : ∀ g L' h₁ tk cells, Fr h₀ L g m → Fr g L' h₁ (bindL (envOfC qual scope L' f cdv).kindOf binds fun _ => none) → News g L' h₁ (cells ++ small) →
      CellsAre (bindC (envOfC qual scope L' f cdv).kindOf binds fun _ => none) (cellsFrom (L' + 1) scope.names []) cells → K.In g → Top p loose mean mg mb g → Rest small news h₀ L g → (∀ p ∈ small, p.1 < L') →
      wpAny (model prog w) (A.deeper (envOfC qual scope L' f cdv)) (execs body (envOfC qual scope L' f cdv))
        (fun fl s' => LeaveK h₀ L m g (fun r s' => Rest small news h₀ L s'.heap → R r s') (match fl with | .ret v => v | _ => .none) s')
        (fun e s' => wpAny (model prog w) (A.deeper (envOfC qual scope L' f cdv)) (leaving (envOfC qual scope L' f cdv) e) (fun _ s'' => R (.error e) s'') (fun e' s'' => R (.error e') s'') s')
        { s with heap := h₁, toks := tk })
    (hco : scope.isCoroutine = false) (hgen : scope.isGenerator = false) (hk : scope.kind = .function) : codeAny (model prog w) A (.call (.ref f) args) R s := by
  have N' : News h₀ L s.heap small := fun p hp => N p (hsub p hp)
  obtain ⟨FG, st, lv⟩ := groundF (R := fun r s' => Rest small news h₀ L s'.heap → R r s') F N'
  have rg : Rest small news h₀ L (hideAll s.heap (small.map (·.1))) := fun p hp hn => ⟨hideAll_get _ (N p hp).1 hn, (N p hp).2⟩
  refine codeAny_call_function hroom ((X₀.keeps F.keep) _ _ ho) rfl hco hgen rfl (codeRec_of (X₀.keeps F.keep) hcd) (hbind _ _ _ _ ?_)
  refine wpAny_newFunctionEnv_cells hk (kindsX hkind _) fun env' he s' x => ?_
  subst he
  refine ⟨(T.nolimit.keeps F.keep).keeps x.toInCall.keep, codeAny_func ?_⟩
  obtain ⟨h₁, tk, rfl, _⟩ := x.done
  have hk₁ := x.toInCall.keep
  obtain ⟨cells, NC, Y⟩ := Cl.news (h₀ := s.heap) (Nat.le_refl _) fun n c hm => ⟨x.cell n c (lookup_of_mem_nodup (cellsFrom_names scope.names 0 (s.heap.objs.size + 1) [] [] rfl ▸ hnd) hm), x.above n c hm⟩
  refine wpAny_mono (h _ s.heap.objs.size h₁ tk cells FG ⟨x.toInCall.ns, fun b o e => hk₁ b o (of_hideAll _ e), Nat.le_of_eq (hideAll_size _ _)⟩ (fun p hp => ?_) Y (X₀.keeps st) (T.keeps st) rg (fun p hp => Heap.lt_size (N' p hp).1)) (fun fl s' hl => ?_) fun _ _ y => y
  · rcases List.mem_append.mp hp with hp | hp
    · refine ⟨(NC p hp).1, (NC p hp).2.1, ?_⟩
      cases q : (hideAll s.heap (small.map (·.1))).get? p.1 with
      | none => rfl
      | some o => have := of_hideAll _ q; rw [(NC p hp).2.2] at this; cases this
    · exact ⟨hk₁ _ _ (N' p hp).1, Nat.ne_of_lt (Heap.lt_size (N' p hp).1), hideAll_none _ (List.mem_map_of_mem hp)⟩
  · have hl' := hl
    obtain ⟨L', m', news', F', _, _⟩ := hl'
    exact lv _ _ hl fun p hp hn => ⟨F'.keep _ _ (rg p hp hn).1, (rg p hp hn).2⟩

/-- enter_sub over tidy stacks -/
theorem C_enterF (F : Fr h₀ L s.heap m) (X₀ : K.In h₀) (N : News h₀ L s.heap news) (hsub : ∀ p ∈ small, p ∈ news) (T : Top p loose mean mg mb h₀)
    (ho : K.lookup f = some ⟨oc, od, .func (fnOf name qual params body scope dV kV doc pm an cdv ct), osl⟩) (hcd : codeIn K cdv qual = true) (hroom : A.depth < recursionLimit)
    (hbind : BindsTo s (fnOf name qual params body scope dV kV doc pm an cdv ct) args binds) (hloc : ∀ y ∈ binds, scope.names.lookup y.1 = some .local)
    (h : ∀ g L' h₁, Fr h₀ L g m → Fr g L' h₁ (fun y => binds.reverse.lookup y) → News g L' h₁ small → K.In g → Top p loose mean mg mb g → Rest small news h₀ L g → (∀ p ∈ small, p.1 < L') →
      wpC (model prog w) (A.deeper (envOf qual scope L' f cdv)) (execs body (envOf qual scope L' f cdv))
        (fun fl s' => LeaveK h₀ L m g (fun r s' => Rest small news h₀ L s'.heap → R r s') (match fl with | .ret v => v | _ => .none) s') (fun _ _ => False)
        { s with heap := h₁, toks := s.toks + binds.length })
    (hco : scope.isCoroutine = false) (hgen : scope.isGenerator = false) (hk : scope.kind = .function)
    (hcell : ∀ x ∈ scope.names, x.2 ≠ .cell) : codeC (model prog w) A (.call (.ref f) args) R s := by
  have N' : News h₀ L s.heap small := fun p hp => N p (hsub p hp)
  obtain ⟨FG, st, lv⟩ := groundF (R := fun r s' => Rest small news h₀ L s'.heap → R r s') F N'
  have rg : Rest small news h₀ L (hideAll s.heap (small.map (·.1))) := fun p hp hn => ⟨hideAll_get _ (N p hp).1 hn, (N p hp).2⟩
  refine C_call_def (fd := fnX name qual params body scope [] dV kV doc pm an cdv ct) (body := body) (binds := binds) hroom ((X₀.keeps F.keep) _ _ ho) rfl (T.nolimit.keeps F.keep) (codeRec_of (X₀.keeps F.keep) hcd) rfl hbind hcell hloc (fun h₁ hns hk₁ => ?_) hco hgen hk
  refine wpC_mono (h _ s.heap.objs.size h₁ FG ⟨hns, fun b o e => hk₁ b o (of_hideAll _ e), Nat.le_of_eq (hideAll_size _ _)⟩
    (fun p hp => ⟨hk₁ _ _ (N' p hp).1, Nat.ne_of_lt (Heap.lt_size (N' p hp).1), hideAll_none _ (List.mem_map_of_mem hp)⟩) (X₀.keeps st) (T.keeps st) rg (fun p hp => Heap.lt_size (N' p hp).1)) (fun fl s' hl => ?_) fun _ _ y => y
  have hl' := hl
  obtain ⟨L', m', news', F', _, _⟩ := hl'
  exact lv _ _ hl fun p hp hn => ⟨F'.keep _ _ (rg p hp hn).1, (rg p hp hn).2⟩

end
end Mine

end

-- G1
section
open PySem PySem.W PySem.Calls PyProof.Rows
open Sem (wp)
namespace Mine
/-- objects with their addresses; a resource says what its objects are; a frame's names -/
noncomputable abbrev Led := List (Addr × Obj)
noncomputable abbrev Res := Led → Prop
noncomputable abbrev Map := List (Str × Value)
/-- all that is fixed while one frame runs -/
structure Cx where
  any : Bool
  fix : Option (Str → Option Value)
  mean : ExcName → Option Value
  mg : Str → Option Value
  mb : Str → Option Value
  dp : Nat
  un : Nat
  gd : Option (List Code)
  cn : Str
  cs : Scope
  L : Addr
  a : Addr
  ccd : Value
  cl : List (Str × Addr)
  outer : List Env
  h₀ : Heap
  arg : Addr × List Int
noncomputable abbrev Cx.env (c : Cx) : Env := envX c.cn c.cs c.L c.a c.ccd c.cl
noncomputable def Cx.A (c : Cx) : Around := ktrTop c.dp c.un c.gd c.cn c.cs c.L c.a c.ccd c.cl c.outer
/-- the frame stands well, with room for d calls more; its scope is sc -/
structure At (w : World) (c : Cx) (sc : Scope) (d : Nat) : Prop where
  X : (Mine.hd.heap_39 w.params).In c.h₀
  T : Top vw Mine.lv c.mean c.mg c.mb c.h₀
  k : c.cs.kind = .function
  hd : c.dp + d < recursionLimit
  hu : c.un + (8 * d + 200) < cLine
  cs : c.cs = sc
  ar : ∃ vs, IntsAre vs c.arg.2 ∧ c.h₀.IsList c.arg.1 vs.toArray
theorem At.mono {w : World} {c : Cx} {sc : Scope} {d k : Nat} (a : At w c sc d) (h : Nat.ble k d = true := by rfl) : At w c sc k :=
  have := Nat.le_of_ble_eq_true h
  ⟨a.X, a.T, a.k, by have := a.hd; omega, by have := a.hu; omega, a.cs, a.ar⟩
theorem At.arOn {w : World} {c : Cx} {sc : Scope} {d : Nat} (a : At w c sc d) {g : Heap} (h : ∀ b o, c.h₀.get? b = some o → g.get? b = some o) : ∃ vs, IntsAre vs c.arg.2 ∧ g.IsList c.arg.1 vs.toArray :=
  let ⟨vs, hi, o, ho, r⟩ := a.ar
  ⟨vs, hi, o, h _ _ ho, r⟩
theorem At.TR {w : World} {c : Cx} {sc : Scope} {d : Nat} (a : At w c sc d) : TopRead vw Mine.lv c.mg c.mb c.h₀ := topRead_of a.T
/-- the resources, one behind the other -/
noncomputable def Holds : List Res → Led → Prop
  | [], l => l = []
  | r :: n, l => ∃ a b, l = a ++ b ∧ r a ∧ Holds n b
/-- the names m are among mm; where fix says so, mm stays as it is -/
noncomputable def MSub (fx : Option (Str → Option Value)) (m : Map) (mm : Str → Option Value) : Prop := (∀ x v, m.lookup x = some v → mm x = some v) ∧ ∀ f, fx = some f → f = mm
noncomputable def Own (c : Cx) (m : Map) (n : List Res) (h : Heap) : Prop :=
  ∃ mm, MSub c.fix m mm ∧ Fr c.h₀ c.L h mm ∧ ∃ l, Holds n l ∧ News c.h₀ c.L h l ∧ (l.map (·.1)).Nodup
structure St where
  τ : Nat
  m : Map
  n : List Res
noncomputable abbrev Kt (α : Type) := α → St → Prop
/-- over any stack, or over tidy stacks alone -/
noncomputable def wpX {α : Type} (b : Bool) (M : Model) (A : Around) (t : Sem α) (Q : α → Shared → Prop) (E : Value → Shared → Prop) (s : Shared) : Prop := match b with
  | true => wpAny M A t Q E s
  | false => wpC M A t Q E s
section
variable {α β : Type} {b : Bool} {M : Model} {A : Around} {E : Value → Shared → Prop} {s : Shared}
theorem wpX_of {t : Sem α} {Q : α → Shared → Prop} (h : wpAny M A t Q E s) : wpX b M A t Q E s := by cases b <;> first | exact h | exact wpC_of h
theorem wpX_off {t : Sem α} {Q : α → Shared → Prop} (hf : b = false) (h : wpX b M A t Q E s) : wpC M A t Q E s := by subst hf; exact h
theorem wpX_pure {a : α} {Q : α → Shared → Prop} (h : Q a s) : wpX b M A (pure a) Q E s := wpX_of (wpAny_pure h)
theorem wpX_bind {m : Sem α} {f : α → Sem β} {Q : β → Shared → Prop} (h : wpX b M A m (fun a s' => wpX b M A (f a) Q E s') E s) : wpX b M A (m >>= f) Q E s := by cases b <;> first | exact wpAny_bind h | exact wpC_bind h
theorem wpX_lead {m : Sem α} {f : α → Sem β} {Q : β → Shared → Prop} (h : wpAny M A m (fun a s' => wpX b M A (f a) Q E s') E s) : wpX b M A (m >>= f) Q E s := wpX_bind (wpX_of h)
theorem wpX_holding {vs : List Value} {m : Sem α} {Q : α → Shared → Prop} (h : wpX b M A m Q E s) : wpX b M A (holding vs m) Q E s := by cases b <;> first | exact wpAny_holding h | exact wpC_holding h
theorem wpX_keep {vs : List Value} {m : Sem α} {Q : α → Shared → Prop} (h : wpX b M A m Q E s) : wpX b M A (m.keep vs) Q E s := by cases b <;> first | exact Calls.wpAny_keep h | exact wpC_keep h
end
/-- from the token count τ, names m and resources n the tree t comes to K -/
noncomputable def Go {α : Type} (w : World) (c : Cx) (σ : St) (t : Sem α) (K : Kt α) : Prop :=
  ∀ (h : Heap) (g : Array GenState) (dr : Drawn) (os : OsState) (Q : α → Shared → Prop) (E : Value → Shared → Prop), Own c σ.m σ.n h →
    (∀ v σ' h', K v σ' → Own c σ'.m σ'.n h' → Q v ⟨h', g, dr, σ'.τ, os⟩) → wpX c.any (model pw w) c.A t Q E ⟨h, g, dr, σ.τ, os⟩
section
variable {α β : Type} {w : World} {c : Cx} {τ : Nat} {m : Map} {n : List Res}
theorem Go.mono {σ : St} {t : Sem α} {K K' : Kt α} (h : Go w c σ t K) (hk : ∀ v σ, K v σ → K' v σ) : Go w c σ t K' :=
  fun h' g dr os Q E o k => h h' g dr os Q E o fun v σ h' k' o' => k v σ h' (hk v σ k') o'
theorem go_pure {σ : St} {a : α} {K : Kt α} (h : K a σ) : Go w c σ (pure a) K := fun h' _ _ _ _ _ o k => wpX_pure (k a σ h' h o)
theorem go_bind {σ : St} {t : Sem α} {f : α → Sem β} {K : Kt β} (h : Go w c σ t fun a σ => Go w c σ (f a) K) : Go w c σ (t >>= f) K :=
  fun h' g dr os Q E o k => wpX_bind (h h' g dr os _ E o fun _ _ h'' k' o' => k' h'' g dr os Q E o' k)
theorem go_holding {σ : St} {vs : List Value} {t : Sem α} {K : Kt α} (h : Go w c σ t K) : Go w c σ (holding vs t) K := fun h' g dr os Q E o k => wpX_holding (h h' g dr os Q E o k)
theorem go_keep {σ : St} {vs : List Value} {t : Sem α} {K : Kt α} (h : Go w c σ t K) : Go w c σ (t.keep vs) K := fun h' g dr os Q E o k => wpX_keep (h h' g dr os Q E o k)
theorem go_any {σ : St} {t : Sem α} {K : Kt α} (h : ∀ (h : Heap) (g : Array GenState) (dr : Drawn) (os : OsState) (Q : α → Shared → Prop) (E : Value → Shared → Prop), Own c σ.m σ.n h →
    (∀ v τ' m' n' h', K v ⟨τ', m', n'⟩ → Own c m' n' h' → Q v ⟨h', g, dr, τ', os⟩) → wpAny (model pw w) c.A t Q E ⟨h, g, dr, σ.τ, os⟩) : Go w c σ t K := fun h' g dr os Q E o k => wpX_of (h h' g dr os Q E o fun v τ' m' n' h' => k v ⟨τ', m', n'⟩ h')
/-- a tree that reads alone -/
theorem go_val {t : Sem α} {v : α} {τ' : Nat} {K : Kt α} (h : ∀ (h : Heap) (g : Array GenState) (dr : Drawn) (os : OsState) (Q : α → Shared → Prop) (E : Value → Shared → Prop), Own c m n h → Q v ⟨h, g, dr, τ', os⟩ → wpAny (model pw w) c.A t Q E ⟨h, g, dr, τ, os⟩) (k : K v ⟨τ', m, n⟩) :
    Go w c ⟨τ, m, n⟩ t K := go_any fun h' g dr os Q E o q => h h' g dr os Q E o (q v τ' m n h' k o)
theorem go_unit {t : Sem Unit} {K : Kt Unit} (h : ∀ (M : Model) (A : Around) (E : Value → Shared → Prop) (s : Shared) (Q : Unit → Shared → Prop), Q () s → wpAny M A t Q E s) (k : K () ⟨τ, m, n⟩) : Go w c ⟨τ, m, n⟩ t K :=
  go_val (fun _ _ _ _ Q E _ q => h _ _ E _ Q q) k
theorem go_standAt {pos : Pos} {K : Kt Unit} (k : K () ⟨τ, m, n⟩) : Go w c ⟨τ, m, n⟩ (standAt pos) K := go_unit (fun _ _ _ _ _ h => wpAny_standAt h) k
theorem go_point {K : Kt Unit} (k : K () ⟨τ, m, n⟩) : Go w c ⟨τ, m, n⟩ point K := go_unit (fun _ _ _ _ _ h => wpAny_point h) k
theorem go_release {vs ks : List Value} {K : Kt Unit} (k : K () ⟨τ, m, n⟩) : Go w c ⟨τ, m, n⟩ (release vs ks) K := go_unit (fun _ _ _ _ _ h => wpAny_release h) k
theorem go_operate {vs : List Value} {t : Sem Value} {K : Kt Value} (h : Go w c ⟨τ, m, n⟩ t K) : Go w c ⟨τ, m, n⟩ (operate vs t) K :=
  go_bind (go_holding (h.mono fun _ _ k => go_bind (go_release (go_pure k))))
theorem go_stand {pos : Pos} {f : Unit → Sem β} {K : Kt β} (h : Go w c ⟨τ, m, n⟩ (f ()) K) : Go w c ⟨τ, m, n⟩ (standAt pos >>= f) K := go_bind (go_standAt h)
theorem go_let {o r : Value} {e : Expr} {K : Kt Unit} (k : K () ⟨τ, m, n⟩) : Go w c ⟨τ, m, n⟩ (letTemporaryGo e o r) K := go_val (fun _ _ _ _ _ _ _ q => wpAny_letTemporaryGo q) k
end
end Mine

end

-- G2
section
open PySem PySem.W PySem.Calls PyProof.Rows
open Sem (wp)
namespace Mine
noncomputable abbrev Cx.at (c : Cx) (sc : Scope) : Env := envX c.cn sc c.L c.a c.ccd c.cl
theorem At.env {w : World} {c : Cx} {sc : Scope} {d : Nat} (a : At w c sc d) : c.env = c.at sc := by
  have := a.cs
  subst this
  rfl
noncomputable def isLoc (sc : Scope) (x : Str) : Bool := sc.names.lookup x == some .local && !(x == ("__debug__" : Str))
noncomputable def isGlob (sc : Scope) (x : Str) : Bool := sc.names.lookup x == some .globalImplicit && !(x == ("__debug__" : Str))
theorem isLoc_of {sc : Scope} {x : Str} (h : isLoc sc x = true) : sc.names.lookup x = some .local ∧ (x == ("__debug__" : Str)) = false := by
  unfold isLoc at h
  simp only [Bool.and_eq_true, beq_iff_eq, Bool.not_eq_true'] at h
  exact h
theorem isGlob_of {sc : Scope} {x : Str} (h : isGlob sc x = true) : sc.names.lookup x = some .globalImplicit ∧ (x == ("__debug__" : Str)) = false := by
  unfold isGlob at h
  simp only [Bool.and_eq_true, beq_iff_eq, Bool.not_eq_true'] at h
  exact h
theorem At.scope {w : World} {c : Cx} {sc : Scope} {d : Nat} (a : At w c sc d) {x : Str} {k : NameKind} (h : sc.names.lookup x = some k) : c.env.kindOf x = some k := by
  rw [a.env]
  exact h
/-- one object, told whole -/
noncomputable def ob (D : Addr) (o : Obj) : Res := fun l => l = [(D, o)]
noncomputable abbrev tupO (vs : List Value) : Obj := { cls := .type "tuple", data := .seq vs.toArray }
/-- octets -/
noncomputable def IsB (v : Value) (ks : List Int) : Prop := ∃ b t, v = .bytes b t ∧ KBw.bInts b = ks
theorem holds_mem : ∀ {n : List Res} {l : Led} {r : Res}, Holds n l → r ∈ n → ∃ a, r a ∧ ∀ p ∈ a, p ∈ l
  | _ :: _, _, _, ⟨a, b, e, h, _⟩, .head _ => ⟨a, h, fun p hp => e ▸ List.mem_append_left _ hp⟩
  | _ :: _, _, _, ⟨_, b, e, _, h⟩, .tail _ hm =>
    let ⟨a, h1, h2⟩ := holds_mem h hm
    ⟨a, h1, fun p hp => e ▸ List.mem_append_right _ (h2 p hp)⟩
theorem holds_ob {n : List Res} {l : Led} {D : Addr} {o : Obj} (h : Holds n l) (hm : ob D o ∈ n) : (D, o) ∈ l := by
  obtain ⟨a, rfl, h2⟩ := holds_mem h hm
  exact h2 _ (.head _)
theorem own_ob {c : Cx} {m : Map} {n : List Res} {h : Heap} {D : Addr} {o : Obj} (w : Own c m n h) (hm : ob D o ∈ n) : h.get? D = some o := by
  obtain ⟨_, _, _, l, hl, N, _⟩ := w
  exact (N _ (holds_ob hl hm)).1
theorem mem_head {r : Res} {n : List Res} : r ∈ r :: n := .head _
theorem mem_tail {r x : Res} {n : List Res} (h : r ∈ n) : r ∈ x :: n := .tail _ h
/-- a resource brought to the front -/
inductive Pick (r : Res) : List Res → List Res → Prop
  | head {n} : Pick r (r :: n) n
  | tail {x n n'} : Pick r n n' → Pick r (x :: n) (x :: n')
theorem holds_pick {r : Res} {n n' : List Res} (p : Pick r n n') : ∀ {l : Led}, Holds n l → ∃ l', Holds (r :: n') l' ∧ l'.Perm l := by
  induction p with
  | head => exact fun h => ⟨_, h, List.Perm.refl _⟩
  | tail p ih =>
    intro l h
    obtain ⟨a, b, rfl, ha, hb⟩ := h
    obtain ⟨l', ⟨a', b', rfl, ha', hb'⟩, hp⟩ := ih hb
    refine ⟨a' ++ (a ++ b'), ⟨a', _, rfl, ha', ⟨a, b', rfl, ha, hb'⟩⟩, ?_⟩
    have : (a' ++ (a ++ b')).Perm (a ++ (a' ++ b')) := by
      rw [← List.append_assoc, ← List.append_assoc]
      exact List.Perm.append_right _ List.perm_append_comm
    exact this.trans (List.Perm.append_left _ hp)
theorem own_pick {c : Cx} {m : Map} {n n' : List Res} {h : Heap} {r : Res} (w : Own c m n h) (p : Pick r n n') : Own c m (r :: n') h := by
  obtain ⟨mm, S, F, l, hl, N, d⟩ := w
  obtain ⟨l', hl', hp⟩ := holds_pick p hl
  exact ⟨mm, S, F, l', hl', fun q hq => N q (hp.mem_iff.mp hq), (hp.map _).nodup_iff.mpr d⟩
section
variable {α β : Type} {w : World} {c : Cx} {ev : Env} {τ : Nat} {m : Map} {n n' : List Res} {sc : Scope} {d : Nat}
theorem go_pick {r : Res} {t : Sem α} {K : Kt α} (p : Pick r n n') (h : Go w c ⟨τ, m, r :: n'⟩ t K) : Go w c ⟨τ, m, n⟩ t K := fun h' g dr os Q E o k => h h' g dr os Q E (own_pick o p) k
-- names and constants
theorem go_name {x : Str} {pos : Pos} {v : Value} {K : Kt Value} (a : At w c sc d) (k : K v ⟨τ, m, n⟩) (hv : m.lookup x = some v) (hl : isLoc sc x = true) : Go w c ⟨τ, m, n⟩ (eval (.Name x pos) c.env) K :=
  go_val (fun _ _ _ _ _ _ o q => by
    obtain ⟨mm, S, F, _⟩ := o
    exact nameX_L F (S.1 _ _ hv) q a.k (a.scope (isLoc_of hl).1) (isLoc_of hl).2) k
theorem go_global {σ : St} {x : Str} {pos : Pos} {v : Value} {K : Kt Value} (a : At w c sc d) (e : nsIn (Mine.hd.heap_39 w.params) mainGlobals x = some (some v)) (k : K v σ) (hl : isGlob sc x = true) : Go w c σ (eval (.Name x pos) c.env) K :=
  go_val (fun _ _ _ _ _ _ o q => nameX_K o.choose_spec.2.1 a.X a.TR e q a.k (a.scope (isGlob_of hl).1) (isGlob_of hl).2) k
theorem go_builtin {σ : St} {x : Str} {pos : Pos} {v : Value} {K : Kt Value} (a : At w c sc d) (e : nsIn (Mine.hd.heap_39 w.params) mainGlobals x = some none) (hv : bootBuiltins x = some v) (hn : x ≠ "__name__") (k : K v σ) (hl : isGlob sc x = true) : Go w c σ (eval (.Name x pos) c.env) K :=
  go_val (fun _ _ _ _ _ _ o q => nameX_B o.choose_spec.2.1 a.X a.TR e hv hn q a.k (a.scope (isGlob_of hl).1) (isGlob_of hl).2) k
theorem go_int {i : Int} {u : Nat} {pos : Pos} {env : Env} {K : Kt Value} (k : K (.int i τ) ⟨.succ τ, m, n⟩) : Go w c ⟨τ, m, n⟩ (eval (.Constant (.int i) u pos) env) K := go_val (fun _ _ _ _ _ _ _ q => wpAny_mkInt q) k
theorem go_str {x : Str} {u : Nat} {pos : Pos} {env : Env} {K : Kt Value} (k : K (.str x τ) ⟨.succ τ, m, n⟩) : Go w c ⟨τ, m, n⟩ (eval (.Constant (.str x) u pos) env) K := go_val (fun _ _ _ _ _ _ _ q => wpAny_mkText q) k
theorem go_none {σ : St} {u : Nat} {pos : Pos} {env : Env} {K : Kt Value} (k : K .none σ) : Go w c σ (eval (.Constant .none u pos) env) K := go_pure k
theorem go_bool {σ : St} {b : Bool} {u : Nat} {pos : Pos} {env : Env} {K : Kt Value} (k : K (.bool b) σ) : Go w c σ (eval (.Constant (.bool b) u pos) env) K := go_pure k
theorem go_bytes {b : List UInt8} {u : Nat} {pos : Pos} {env : Env} {K : Kt Value} (k : ∀ v, IsB v (b.map fun o => (o.toNat : Int)) → K v ⟨.succ τ, m, n⟩) : Go w c ⟨τ, m, n⟩ (eval (.Constant (.bytes b) u pos) env) K :=
  go_any fun _ _ _ _ _ _ o q => wpAny_mkTextBytes (q _ _ m n _ (k _ ⟨_, _, rfl, by simp [KBw.bInts]⟩) o)
theorem go_binop {σ : St} {l r : Expr} {op : Operator} {pos : Pos} {K : Kt Value}
    (h : Go w c σ (eval l ev) fun a σ => Go w c σ (eval r ev) fun b σ => Go w c σ (binaryOp op a b) K) : Go w c σ (eval (.BinOp l op r pos) ev) K := by
  show Go w c σ (do let a ← eval l ev; let b ← holding [a] (eval r ev); standAt pos; operate [a, b] (binaryOp op a b)) K
  exact go_bind (h.mono fun a σ h => go_bind (go_holding (h.mono fun b σ h => go_stand (go_operate h))))
theorem go_unop {σ : St} {x : Expr} {op : UnaryOp} {pos : Pos} {K : Kt Value} (h : Go w c σ (eval x ev) fun a σ => Go w c σ (unaryOp op a) K) : Go w c σ (eval (.UnaryOp op x pos) ev) K := by
  show Go w c σ (do let v ← eval x ev; standAt pos; holding [v] (unaryOp op v)) K
  exact go_bind (h.mono fun a σ h => go_stand (go_holding h))
-- arguments
theorem go_args_nil {σ : St} {pos : Pos} {K : Kt (List Value)} (k : K [] σ) : Go w c σ (PySem.spliced (backTo pos (starEach [] ev))) K := go_pure k
theorem go_args {σ : St} {pos : Pos} {e : Expr} {es : List Expr} {K : Kt (List Value)}
    (h : Go w c σ (eval e ev) fun v σ => Go w c σ (PySem.spliced (backTo pos (starEach es ev))) fun vs σ => K (v :: vs) σ) (he : starEach (e :: es) ev = (false, eval e ev) :: starEach es ev) :
    Go w c σ (PySem.spliced (backTo pos (starEach (e :: es) ev))) K := by
  rw [he]
  show Go w c σ (do
    let v ← eval e ev
    let here ← pure [v]
    return here ++ (← holding here (PySem.spliced (backTo pos (starEach es ev))))) K
  exact go_bind (h.mono fun v σ h => go_bind (go_pure (go_bind (go_holding (h.mono fun vs σ h => go_pure h)))))
theorem go_new {o : Obj} {t : Sem Value} {K : Kt Value} (h : ∀ (s : Shared) (mm : Str → Option Value) (l : Led) (Q : Value → Shared → Prop) (E : Value → Shared → Prop), Fr c.h₀ c.L s.heap mm → News c.h₀ c.L s.heap l →
      (∀ h', Fr c.h₀ c.L h' mm → News c.h₀ c.L h' ((s.heap.objs.size, o) :: l) → Q (.ref s.heap.objs.size) { s with heap := h' }) → wpAny (model pw w) c.A t Q E s) (k : ∀ D, K (.ref D) ⟨τ, m, ob D o :: n⟩) : Go w c ⟨τ, m, n⟩ t K :=
  go_any fun _ _ _ _ Q E ⟨mm, S, F, l, hl, N, d⟩ q => h _ mm l Q E F N fun h' F' N' => q _ _ m _ h' (k _) ⟨mm, S, F', _, ⟨[(_, o)], l, rfl, rfl, hl⟩, N', List.nodup_cons.mpr ⟨fun hm => by
    obtain ⟨p, hp, e⟩ := List.mem_map.mp hm
    exact Nat.lt_irrefl _ (e ▸ Heap.lt_size (N p hp).1), d⟩⟩
theorem go_newTuple {vs : List Value} {K : Kt Value} (k : ∀ D, K (.ref D) ⟨τ, m, ob D (tupO vs) :: n⟩) (hz : Nat.ble vs.length 1000 = true) : Go w c ⟨τ, m, n⟩ (newTuple vs) K :=
  go_new (fun _ _ _ _ _ F N q => newTuple_N F N (fun h' F' N' => q h' F' N') (Nat.le_trans (Nat.le_of_ble_eq_true hz) (by rw [sizeLine_eq]; decide))) k
theorem go_tuple {σ : St} {elts : List Expr} {u : Nat} {pos : Pos} {K : Kt Value} (h : Go w c σ (PySem.spliced (backTo pos (starEach elts ev))) fun vs σ => Go w c σ (newTuple vs) K) : Go w c σ (eval (.Tuple elts u pos) ev) K := by
  show Go w c σ (do standAt pos; newTuple (← PySem.spliced (backTo pos (starEach elts ev)))) K
  exact go_stand (go_bind h)
theorem go_newList {vs : List Value} {K : Kt Value} (k : ∀ D, K (.ref D) ⟨τ, m, ob D (listOf vs.toArray 0) :: n⟩) (hz : Nat.ble vs.length 1000 = true) : Go w c ⟨τ, m, n⟩ (newList vs) K :=
  go_new (fun _ _ _ _ _ F N q => newList_N F N (fun h' F' N' => q h' F' N') (Nat.le_trans (Nat.le_of_ble_eq_true hz) (by rw [sizeLine_eq]; decide))) k
theorem go_list {σ : St} {elts : List Expr} {pos : Pos} {K : Kt Value} (h : Go w c σ (PySem.spliced (backTo pos (starEach elts ev))) fun vs σ => Go w c σ (newList vs) K) : Go w c σ (eval (.List elts pos) ev) K := by
  show Go w c σ (do standAt pos; newList (← PySem.spliced (backTo pos (starEach elts ev)))) K
  exact go_stand (go_bind h)
-- statements
theorem go_nil {K : Kt Flow} (k : K .next ⟨τ, m, n⟩) : Go w c ⟨τ, m, n⟩ (execs [] c.env) K := go_pure k
/-- what follows a statement -/
noncomputable def Then (w : World) (c : Cx) (rest : List Stmt) (K : Kt Flow) (f : Flow) (σ : St) : Prop := match f with
  | .next => Go w c σ (execs rest c.env) K
  | f => K f σ
/-- a name stored, then the rest -/
noncomputable def Asg (w : World) (c : Cx) (x : Str) (rest : List Stmt) (K : Kt Flow) (v : Value) (σ : St) : Prop := Go w c ⟨.succ σ.τ, (x, v) :: σ.m, σ.n⟩ (execs rest c.env) K
theorem go_seq {σ : St} {st : Stmt} {rest : List Stmt} {K : Kt Flow} (h : Go w c σ (exec st c.env) (Then w c rest K)) : Go w c σ (execs (st :: rest) c.env) K := by
  rw [execs_cons]
  exact go_bind (h.mono fun f σ h => by cases f <;> first | exact h | exact go_pure h)
theorem msub_cons {fx : Option (Str → Option Value)} {x : Str} {v : Value} {mm : Str → Option Value} (hx : fx = none) (S : MSub fx m mm) : MSub fx ((x, v) :: m) fun y => if y = x then some v else mm y := by
  refine ⟨fun y u h => ?_, fun f e => by rw [hx] at e; cases e⟩
  rw [List.lookup_cons] at h
  show (if y = x then some v else mm y) = some u
  by_cases e : y = x
  · subst e
    rw [if_pos rfl]
    simpa using h
  · rw [if_neg e]
    have : (y == x) = false := beq_eq_false_iff_ne.mpr e
    rw [this] at h
    exact S.1 _ _ h
theorem go_bindName {x : Str} {v : Value} {K : Kt Unit} (a : At w c sc d) (hx : c.fix = none) (k : K () ⟨.succ τ, (x, v) :: m, n⟩) (hl : isLoc sc x = true) : Go w c ⟨τ, m, n⟩ (bindName c.env x v) K := by
  unfold bindName
  exact go_bind (go_holding (go_point (go_bind (go_any fun _ _ _ _ Q E ⟨mm, S, F, l, hl', N, hd⟩ q => storeX_L F N (fun h' F' N' => q () _ ((x, v) :: m) n h' (go_point k) ⟨_, msub_cons hx S, F', l, hl', N', hd⟩) a.k (a.scope (isLoc_of hl).1)))))
theorem go_forget {m' : Map} {t : Sem α} {K : Kt α} (hs : ∀ x v, m'.lookup x = some v → m.lookup x = some v) (h : Go w c ⟨τ, m', n⟩ t K) : Go w c ⟨τ, m, n⟩ t K :=
  fun h' g dr os Q E ⟨mm, S, r⟩ k => h h' g dr os Q E ⟨mm, ⟨fun x v e => S.1 x v (hs x v e), S.2⟩, r⟩ k
theorem go_assign {σ : St} {x : Str} {p : Pos} {value : Expr} {pos : Pos} {rest : List Stmt} {K : Kt Flow} (a : At w c sc d) (hx : c.fix = none) (h : Go w c σ (eval value c.env) (Asg w c x rest K))
    (hl : isLoc sc x = true) (hs : swapsWith value (some (.Name x p)) pos.line (c.at sc) = pure false) : Go w c σ (execs (.Assign [.Name x p] value pos :: rest) c.env) K := by
  refine go_seq ?_
  rw [exec_Assign_Name c.env x p value pos (by rw [a.env]; exact hs)]
  exact go_stand (go_bind (h.mono fun v σ h => go_stand (go_bind (go_bindName a hx (go_pure h) hl))))
theorem asg {x : Str} {v : Value} {rest : List Stmt} {K : Kt Flow} (k : Go w c ⟨.succ τ, (x, v) :: m, n⟩ (execs rest c.env) K) : Asg w c x rest K v ⟨τ, m, n⟩ := k
theorem go_return {σ : St} {e : Expr} {pos : Pos} {rest : List Stmt} {K : Kt Flow} (h : Go w c σ (eval e c.env) fun v σ => K (.ret v) σ) : Go w c σ (execs (.Return (some e) pos :: rest) c.env) K := by
  refine go_seq ?_
  rw [exec_Return_some]
  exact go_stand (go_bind (h.mono fun v σ h => go_pure h))
theorem go_if {σ : St} {test : Expr} {body orelse rest : List Stmt} {pos : Pos} {K : Kt Flow}
    (h : Go w c σ (isTrue test c.env (eval test c.env)) fun b σ => if b = true then Go w c σ (execs body c.env) (Then w c rest K) else Go w c σ (execs orelse c.env) (Then w c rest K)) : Go w c σ (execs (.If test body orelse pos :: rest) c.env) K := by
  refine go_seq ?_
  rw [exec_If]
  refine go_stand (go_bind (h.mono fun b σ h => ?_))
  cases b with
  | true => exact h
  | false => exact h
theorem go_expr {σ : St} {e : Expr} {pos : Pos} {rest : List Stmt} {K : Kt Flow} (a : At w c sc d) (h : Go w c σ (eval e c.env) fun v σ => (∀ a, v ≠ .ref a) ∧ Go w c σ (execs rest c.env) K)
    (hs : swapsWith e none pos.line (c.at sc) = pure false) (hi : interactive (c.at sc) = false) : Go w c σ (execs (.Expr e pos :: rest) c.env) K := by
  refine go_seq ?_
  rw [exec_Expr c.env e pos (by rw [a.env]; exact hi) (by rw [a.env]; exact hs)]
  refine go_stand (go_bind (h.mono fun v σ h => ?_))
  obtain ⟨hv, h⟩ := h
  rw [dropValue_plain hv]
  exact go_pure h
end
end Mine

end

-- G3
section
open PySem PySem.W PySem.Calls PyProof.Rows
open Sem (wp)
namespace Mine
section
variable {α β : Type} {w : World} {c : Cx} {ev : Env} {τ : Nat} {m : Map} {n n' : List Res} {sc : Scope} {d : Nat}
theorem Own.in {c : Cx} {m : Map} {n : List Res} {h : Heap} (o : Own c m n h) (a : At w c sc d) : (Mine.hd.heap_39 w.params).In h := a.X.keeps o.choose_spec.2.1.keep
-- calls
theorem go_evalArgs {σ : St} {f : Value} {pos : Pos} {es : List Expr} {K : Kt Args} (h : Go w c σ (PySem.spliced (backTo pos (starEach es ev))) fun vs σ => K ⟨vs, []⟩ σ)
    (hplain : (backTo pos (starEach es ev)).any (·.1) = false) : Go w c σ (evalArgs f true (backTo pos (starEach es ev)) []) K := by
  generalize backTo pos (starEach es ev) = l at hplain h
  match l, hplain with
  | [], _ =>
    unfold evalArgs
    show Go w c σ (PySem.spliced [] >>= _) K
    exact go_bind (h.mono fun vs σ h => go_bind (go_pure (go_holding (go_bind (go_pure (go_bind (go_pure (go_pure h))))))))
  | (false, x) :: r, _ =>
    unfold evalArgs
    show Go w c σ (PySem.spliced ((false, x) :: r) >>= _) K
    exact go_bind (h.mono fun vs σ h => go_bind (go_pure (go_holding (go_bind (go_pure (go_bind (go_pure (go_pure h))))))))
  | (true, x) :: r, h => simp at h
theorem go_callWith_at {σ : St} {pos : Pos} {f : Value} {first : List Value} {es : List Expr} {K : Kt Value}
    (h : Go w c σ (PySem.spliced (backTo pos (starEach es ev))) fun vs σ => (∀ h, Own c σ.m σ.n h → ∃ k, (k = Keeper.frame ∨ k = Keeper.machine ∨ k = Keeper.boundFrame) ∧ Looks (model pw w) h (keeperOf f) k) ∧ Go w c σ (call f (first ++ vs) []) K)
    (hplain : (backTo pos (starEach es ev)).any (·.1) = false) : Go w c σ (callWith pos f first (backTo pos (starEach es ev)) []) K := by
  unfold callWith
  refine go_bind (go_holding ((go_evalArgs (K := fun as σ => (∀ h, Own c σ.m σ.n h → ∃ k, (k = Keeper.frame ∨ k = Keeper.machine ∨ k = Keeper.boundFrame) ∧ Looks (model pw w) h (keeperOf f) k) ∧ Go w c σ (call f (first ++ as.pos) as.kw) K) h hplain).mono fun as σ h => go_stand fun hh g dr os Q E o q => ?_))
  obtain ⟨hk, h⟩ := h
  obtain ⟨k, hk', L⟩ := hk _ o
  simp only [hplain, List.any_nil, Bool.or_false]
  refine wpX_lead (L.here ?_)
  have tail : ∀ {t : Sem Value}, Go w c σ t K → wpX c.any (model pw w) c.A (t >>= fun r => holding [r] point >>= fun _ => pure r) Q E ⟨hh, g, dr, σ.τ, os⟩ :=
    fun ht => (go_bind (f := fun r => holding [r] point >>= fun _ => pure r) (ht.mono fun r σ h => go_bind (go_holding (go_point (go_pure h))))) hh g dr os Q E o q
  have marked (mk : Value) : Go w c σ (callMarked mk f (first ++ as.pos) as.kw) K := by unfold callMarked; exact go_keep h
  rcases hk' with rfl | rfl | rfl <;> dsimp only <;> first | exact tail h | (split <;> first | exact tail h | exact tail (marked _))
theorem go_callWith_of {σ : St} {pos : Pos} {f : Value} {first : List Value} {es : List Expr} {K : Kt Value} (a : At w c sc d)
    (hk : ∀ h, (Mine.hd.heap_39 w.params).In h → ∃ k, (k = Keeper.frame ∨ k = Keeper.machine ∨ k = Keeper.boundFrame) ∧ Looks (model pw w) h (keeperOf f) k)
    (h : Go w c σ (PySem.spliced (backTo pos (starEach es ev))) fun vs σ => Go w c σ (call f (first ++ vs) []) K)
    (hplain : (backTo pos (starEach es ev)).any (·.1) = false) : Go w c σ (callWith pos f first (backTo pos (starEach es ev)) []) K :=
  go_callWith_at (h.mono fun vs σ h => ⟨fun hh o => hk _ (o.in a), h⟩) hplain
theorem go_callWith {σ : St} {pos : Pos} {f : Value} {es : List Expr} {K : Kt Value} (a : At w c sc d) (hk : keepIn (Mine.hd.heap_39 w.params) f = true)
    (h : Go w c σ (PySem.spliced (backTo pos (starEach es ev))) fun vs σ => Go w c σ (call f vs []) K)
    (hplain : (backTo pos (starEach es ev)).any (·.1) = false) : Go w c σ (callWith pos f [] (backTo pos (starEach es ev)) []) K :=
  go_callWith_of a (fun h X => keeps_K hk h X) h hplain
theorem go_callWithM {σ : St} {pos : Pos} {f : Value} {x : Value} {es : List Expr} {K : Kt Value} (a : At w c sc d) (hk : keepIn (Mine.hd.heap_39 w.params) f = true)
    (h : Go w c σ (PySem.spliced (backTo pos (starEach es ev))) fun vs σ => Go w c σ (call f (x :: vs) []) K)
    (hplain : (backTo pos (starEach es ev)).any (·.1) = false) : Go w c σ (callWith pos f [x] (backTo pos (starEach es ev)) []) K :=
  go_callWith_of a (fun h X => keeps_K hk h X) h hplain
theorem go_callWith_type {σ : St} {pos : Pos} {T : String} {es : List Expr} {K : Kt Value} (a : At w c sc d) 
    (h : Go w c σ (PySem.spliced (backTo pos (starEach es ev))) fun vs σ => Go w c σ (call (.type T) vs []) K)
    (hplain : (backTo pos (starEach es ev)).any (·.1) = false) : Go w c σ (callWith pos (.type T) [] (backTo pos (starEach es ev)) []) K :=
  go_callWith_of a (fun _ _ => ⟨.machine, .inr (.inl rfl), .now⟩) h hplain
theorem go_callWith_builtin {σ : St} {pos : Pos} {T : String} {es : List Expr} {K : Kt Value} (a : At w c sc d) 
    (h : Go w c σ (PySem.spliced (backTo pos (starEach es ev))) fun vs σ => Go w c σ (call (.builtin T) vs []) K)
    (hplain : (backTo pos (starEach es ev)).any (·.1) = false) : Go w c σ (callWith pos (.builtin T) [] (backTo pos (starEach es ev)) []) K :=
  go_callWith_of a (fun _ _ => ⟨.machine, .inr (.inl rfl), .now⟩) h hplain
theorem go_callWith_builtinM {σ : St} {pos : Pos} {T : String} {x : Value} {es : List Expr} {K : Kt Value} (a : At w c sc d) 
    (h : Go w c σ (PySem.spliced (backTo pos (starEach es ev))) fun vs σ => Go w c σ (call (.builtin T) (x :: vs) []) K)
    (hplain : (backTo pos (starEach es ev)).any (·.1) = false) : Go w c σ (callWith pos (.builtin T) [x] (backTo pos (starEach es ev)) []) K :=
  go_callWith_of a (fun _ _ => ⟨.machine, .inr (.inl rfl), .now⟩) h hplain
theorem go_call {σ : St} {func : Expr} {es : List Expr} {pos : Pos} {K : Kt Value} (h : Go w c σ (eval func ev) fun f σ => Go w c σ (callWith pos f [] (backTo pos (starEach es ev)) []) K)
    (he : eval (.Call func es [] pos) ev = (do callWith pos (← eval func ev) [] (backTo pos (starEach es ev)) (backToKw pos (keywordEach [] ev)))) : Go w c σ (eval (.Call func es [] pos) ev) K := by
  rw [he]
  exact go_bind h
theorem go_method {o : Expr} {name : Str} {apos pos : Pos} {es : List Expr} {pl : Sem Bool} {K : Kt Value}
    (h : Go w c ⟨τ, m, n⟩ (eval o ev) fun ov σ => Go w c σ (getMethod ov name pl) fun fx σ => Go w c σ (callWith pos fx.1 fx.2 (backTo pos (starEach es ev)) []) K)
    (he : eval (.Call (.Attribute o name apos) es [] pos) ev = (do
      let ov ← eval o ev
      standAt apos.atName
      let (f, first) ← holding [ov] (getMethod ov name pl)
      callWith pos f first (backTo pos (starEach es ev)) [])) : Go w c ⟨τ, m, n⟩ (eval (.Call (.Attribute o name apos) es [] pos) ev) K := by
  rw [he]
  exact go_bind (h.mono fun ov σ h => go_stand (go_bind (go_holding h)))
noncomputable def retOf (f : Flow) : Value := match f with | .ret v => v | _ => .none
inductive Picks : List Res → List Res → List Res → Prop
  | nil {n : List Res} : Picks [] n n
  | cons {r : Res} {rs n n1 n2 : List Res} : Pick r n n1 → Picks rs n1 n2 → Picks (r :: rs) n n2
theorem holds_split : ∀ {rs n : List Res} {l : Led}, Holds (rs ++ n) l → ∃ a b, l = a ++ b ∧ Holds rs a ∧ Holds n b
  | [], _, l, h => ⟨[], l, rfl, rfl, h⟩
  | r :: rs, n, _, ⟨a, b, e, ha, hb⟩ => by
    obtain ⟨a', b', e', h1, h2⟩ := holds_split hb
    exact ⟨a ++ a', b', by rw [e, e', List.append_assoc], ⟨a, a', rfl, ha, h1⟩, h2⟩
theorem holds_picks {rs n n1 : List Res} (p : Picks rs n n1) : ∀ {l : Led}, Holds n l → ∃ l', Holds (rs ++ n1) l' ∧ l'.Perm l := by
  induction p with
  | nil => exact fun h => ⟨_, h, List.Perm.refl _⟩
  | cons hp _ ih =>
    intro l h
    obtain ⟨l1, ⟨a, b, rfl, ha, hb⟩, h2⟩ := holds_pick hp h
    obtain ⟨l2, h3, h4⟩ := ih hb
    exact ⟨a ++ l2, ⟨a, l2, rfl, ha, h3⟩, (List.Perm.append_left a h4).trans h2⟩
/-- a part of a ledger, in any order -/
noncomputable def Sub (l' l : Led) : Prop := ∃ l2, l2.Perm l ∧ l'.Sublist l2
theorem Sub.subset {l' l : Led} (s : Sub l' l) {p : Addr × Obj} (h : p ∈ l') : p ∈ l := let ⟨_, h1, h2⟩ := s; h1.mem_iff.mp (h2.subset h)
theorem Sub.nodup {l' l : Led} (s : Sub l' l) (h : (l.map (·.1)).Nodup) : (l'.map (·.1)).Nodup := let ⟨_, h1, h2⟩ := s; (h2.map _).nodup ((h1.map _).nodup_iff.mpr h)
theorem Sub.refl {l : Led} : Sub l l := ⟨l, .refl _, .refl _⟩
theorem Sub.left {l' l : Led} (a : Led) (s : Sub l' l) : Sub (a ++ l') (a ++ l) := let ⟨l2, h1, h2⟩ := s; ⟨a ++ l2, List.Perm.append_left a h1, List.Sublist.append_left h2 a⟩
theorem Sub.trans {l'' l' l : Led} (s : Sub l'' l') (t : Sub l' l) : Sub l'' l := by
  obtain ⟨l2, h1, h2⟩ := s
  obtain ⟨l3, h3, h4⟩ := t
  obtain ⟨l4, h5⟩ := List.Sublist.exists_perm_append h4
  exact ⟨l2 ++ l4, ((List.Perm.append_right l4 h1).trans h5.symm).trans h3, h2.trans (List.sublist_append_left _ _)⟩
/-- n gives n' : some resources dropped, some seen otherwise, some folded into one -/
inductive Less : List Res → List Res → Prop
  | refl {x : List Res} : Less x x
  | skip {r : Res} {x y : List Res} : Less y x → Less y (r :: x)
  | keep {r r' : Res} {x y : List Res} : (∀ l, r l → r' l) → Less y x → Less (r' :: y) (r :: x)
  | fold {r : Res} {rs x y z : List Res} : Picks rs x y → (∀ l, Holds rs l → r l) → Less z (r :: y) → Less z x
theorem holds_less {n n' : List Res} (s : Less n' n) : ∀ {l : Led}, Holds n l → ∃ l', Holds n' l' ∧ Sub l' l := by
  induction s with
  | refl => exact fun h => ⟨_, h, .refl⟩
  | skip s ih =>
    rintro l ⟨a, b, rfl, _, hb⟩
    obtain ⟨l', h1, h2⟩ := ih hb
    exact ⟨l', h1, h2.trans ⟨_, .refl _, List.sublist_append_right a b⟩⟩
  | keep hr s ih =>
    rintro l ⟨a, b, rfl, ha, hb⟩
    obtain ⟨l', h1, h2⟩ := ih hb
    exact ⟨a ++ l', ⟨a, l', rfl, hr a ha, h1⟩, h2.left a⟩
  | fold p hr s ih =>
    intro l hl
    obtain ⟨l1, h1, h2⟩ := holds_picks p hl
    obtain ⟨a, b, rfl, ha, hb⟩ := holds_split h1
    obtain ⟨l', h3, h4⟩ := ih ⟨a, b, rfl, hr a ha, hb⟩
    exact ⟨l', h3, h4.trans ⟨_, h2, .refl _⟩⟩
theorem own_less {h : Heap} (s : Less n' n) (o : Own c m n h) : Own c m n' h := by
  obtain ⟨mm, S, F, l, hl, N, hd⟩ := o
  obtain ⟨l', hl', hs⟩ := holds_less s hl
  exact ⟨mm, S, F, l', hl', fun p hp => N p (hs.subset hp), hs.nodup hd⟩
theorem go_less {t : Sem α} {K : Kt α} (s : Less n' n) (h : Go w c ⟨τ, m, n'⟩ t K) : Go w c ⟨τ, m, n⟩ t K := fun h' g dr os Q E o k => h h' g dr os Q E (own_less s o) k
/-- what a call hands back: some of what it made is dropped -/
noncomputable def Out (K : Kt Value) (m : Map) (f : Flow) (σ : St) : Prop := ∃ n', Less n' σ.n ∧ K (retOf f) ⟨σ.τ, m, n'⟩
theorem then_ret {v : Value} {rest : List Stmt} {K : Kt Flow} (k : K (.ret v) ⟨τ, m, n⟩) : Then w c rest K (.ret v) ⟨τ, m, n⟩ := k
theorem then_next {rest : List Stmt} {K : Kt Flow} (k : Go w c ⟨τ, m, n⟩ (execs rest c.env) K) : Then w c rest K .next ⟨τ, m, n⟩ := k
theorem out_ret {m' : Map} {v : Value} {K : Kt Value} (s : Less n' n) (k : K v ⟨τ, m, n'⟩) : Out K m (.ret v) ⟨τ, m', n⟩ := ⟨n', s, k⟩
theorem out_next {m' : Map} {K : Kt Value} (s : Less n' n) (k : K .none ⟨τ, m, n'⟩) : Out K m .next ⟨τ, m', n⟩ := ⟨n', s, k⟩
/-- a def of the program called, its body walked over any stack where b says so -/
theorem go_defX (b : Bool) (hb' : b = true ∨ b = c.any) {f : Addr} {name qual : Str} {params : Arguments} {body : List Stmt} {scope : Scope} {dV kV doc pm cdv ct oc : Value} {an od : Option Addr} {osl : Array (Option Value)} {vs : List Value} {mp : Map} {K : Kt Value}
    (a : At w c sc (d + 1)) (ho : (Mine.hd.heap_39 w.params).lookup f = some ⟨oc, od, .func (fnOf name qual params body scope dV kV doc pm an cdv ct), osl⟩) (hcd : codeIn (Mine.hd.heap_39 w.params) cdv qual = true)
    (hb : bindArgs (fnOf name qual params body scope dV kV doc pm an cdv ct) ⟨vs, []⟩ = pure mp.reverse)
    (h : ∀ c' τ, At w c' scope d → c'.fix = none → c'.any = b → c'.arg = c.arg → Go w c' ⟨τ, mp, n⟩ (execs body c'.env) fun fl σ => Out K m fl σ)
    (hloc : (mp.all fun y => scope.names.lookup y.1 == some .local) = true) (hco : scope.isCoroutine = false) (hgen : scope.isGenerator = false) (hk : scope.kind = .function)
    (hcell : (scope.names.all fun x => x.2 != .cell) = true) : Go w c ⟨τ, m, n⟩ (call (.ref f) vs) K := by
  rintro hh gg dr os Q E ⟨mm, S, F, l, hl, N, hd⟩ q
  have hroom : c.A.depth < recursionLimit := by have := a.hd; show c.dp < recursionLimit; omega
  have hloc' : ∀ y ∈ mp.reverse, scope.names.lookup y.1 = some .local := fun y hy => beq_iff_eq.mp (List.all_eq_true.mp hloc y (List.mem_reverse.mp hy))
  have hcell' : ∀ x ∈ scope.names, x.2 ≠ .cell := fun x hx => bne_iff_ne.mp (List.all_eq_true.mp hcell x hx)
  have key : ∀ (E' : Value → Shared → Prop) g L' h₁, Fr c.h₀ c.L g mm → Fr g L' h₁ (fun y => mp.reverse.reverse.lookup y) → News g L' h₁ l → (Mine.hd.heap_39 w.params).In g → Top vw lv c.mean c.mg c.mb g →
      wpX b (model pw w) (c.A.deeper (envOf qual scope L' f cdv)) (execs body (envOf qual scope L' f cdv))
        (fun fl s' => LeaveK c.h₀ c.L mm g (fun r s' => Rest l l c.h₀ c.L s'.heap → (match r with | .ok (.ret v) => Q v s' | .ok _ => False | .error e => E e s')) (match fl with | .ret v => v | _ => .none) s') E' ⟨h₁, gg, dr, τ + mp.reverse.length, os⟩ := by
    intro E' g L' h₁ FG F' N' X' T'
    have a' : At w { c with any := b, fix := none, dp := c.dp + 1, un := c.un + 3, cn := qual, cs := scope, L := L', a := f, ccd := cdv, cl := [], outer := c.env :: c.outer, h₀ := g } scope d :=
      ⟨X', T', hk, by have := a.hd; show c.dp + 1 + d < _; omega, by have := a.hu; show c.un + 3 + (8 * d + 200) < _; omega, rfl, a.arOn FG.keep⟩
    refine h _ _ a' rfl rfl rfl _ _ _ _ _ _ ⟨_, ⟨fun x v e => by show List.lookup x mp.reverse.reverse = _; rw [List.reverse_reverse]; exact e, fun _ e => by cases e⟩, F', l, hl, N', hd⟩ fun fl σ' h' k o' => ?_
    obtain ⟨mm₂, S₂, F₂, l₂, hl₂, N₂, hd₂⟩ := o'
    refine leaveK_ F₂ N₂ fun F₃ N₃ _ => ?_
    obtain ⟨n'', hs, k⟩ := k
    exact q (retOf fl) ⟨σ'.τ, m, n''⟩ h' k (own_less hs ⟨mm, S, F₃, l₂, hl₂, N₃, hd₂⟩)
  cases b with
  | false =>
    rcases hb' with e | e
    · cases e
    · rw [← e]
      exact wpC_call (C_enterF (small := l) F a.X N (fun _ hp => hp) a.T ho hcd hroom (BindsTo.of_eq hb) hloc' (fun g L' h₁ FG F' N' X' T' _ _ => key _ g L' h₁ FG F' N' X' T') hco hgen hk hcell')
  | true => exact wpX_of (wpAny_call (enter_subF (small := l) F a.X N (fun _ hp => hp) a.T ho hcd hroom (BindsTo.of_eq hb) hloc' (fun g L' h₁ FG F' N' X' T' _ _ => key _ g L' h₁ FG F' N' X' T') hco hgen hk hcell'))
-- ints
theorem go_add {x y : Int} {t u : Tok} {K : Kt Value} (k : K (.int (x + y) τ) ⟨.succ τ, m, n⟩) : Go w c ⟨τ, m, n⟩ (binaryOp .Add (.int x t) (.int y u)) K := go_val (fun _ _ _ _ _ _ _ q => PySem.P.add_int q) k
theorem go_sub {x y : Int} {t u : Tok} {K : Kt Value} (k : K (.int (x - y) τ) ⟨.succ τ, m, n⟩) : Go w c ⟨τ, m, n⟩ (binaryOp .Sub (.int x t) (.int y u)) K := go_val (fun _ _ _ _ _ _ _ q => PySem.P.sub_int q) k
end
end Mine

end

-- G4
section
open PySem PySem.W PySem.Calls PyProof.Rows
open Sem (wp)
namespace Mine
/-- a part of a sequence -/
noncomputable def sl (ks : List Int) (lo hi : Option Int) : List Int := (ks.drop (lo.elim 0 (clipAt ks.length))).take (hi.elim ks.length (clipAt ks.length) - lo.elim 0 (clipAt ks.length))
theorem sl_to {ks : List Int} {b : Int} (h0 : 0 ≤ b) (h1 : b ≤ (ks.length : Int)) : sl ks none (some b) = ks.take b.toNat := by
  show (ks.drop 0).take (clipAt ks.length b - 0) = _
  rw [List.drop_zero, Nat.sub_zero, clip_in h0 h1]
theorem sl_from {ks : List Int} {b : Int} (h0 : 0 ≤ b) (h1 : b ≤ (ks.length : Int)) : sl ks (some b) none = ks.drop b.toNat := by
  show (ks.drop (clipAt ks.length b)).take (ks.length - clipAt ks.length b) = _
  rw [clip_in h0 h1]
  exact List.take_of_length_le (by rw [List.length_drop]; exact Nat.le_refl _)
theorem sl_mid {ks : List Int} {a b : Int} (h0 : 0 ≤ a) (h1 : a ≤ b) (h2 : b ≤ (ks.length : Int)) : sl ks (some a) (some b) = (ks.drop a.toNat).take (b - a).toNat := by
  obtain ⟨k, rfl⟩ := Int.eq_ofNat_of_zero_le h0
  obtain ⟨j, rfl⟩ := Int.eq_ofNat_of_zero_le (Int.le_trans h0 h1)
  have g1 := Int.ofNat_le.mp h1
  have g2 := Int.ofNat_le.mp h2
  show (ks.drop (clipAt ks.length (k : Int))).take (clipAt ks.length (j : Int) - clipAt ks.length (k : Int)) = _
  rw [clip_nat (Nat.le_trans g1 g2), clip_nat g2, Int.toNat_sub]
  rfl
theorem sl_len {ks : List Int} {lo hi : Option Int} : (sl ks lo hi).length ≤ ks.length := by
  unfold sl
  rw [List.length_take, List.length_drop]
  exact Nat.le_trans (Nat.min_le_right ..) (Nat.sub_le ..)
/-- what is asked of a sequence, its value at hand -/
noncomputable def Cut (o l u : Value) (K : Kt Value) (σ : St) : Prop := ∃ ks lo hi, IsB o ks ∧ IsPart l lo ∧ IsPart u hi ∧ ks.length ≤ 16777216 ∧ ∀ v τ, IsB v (sl ks lo hi) → K v ⟨τ, σ.m, σ.n⟩
theorem let_bytes {value : Expr} {b : Array UInt8} {t : Tok} (r : Value) : letTemporaryGo value (.bytes b t) r = pure () := by cases value <;> rfl
section
variable {α β : Type} {w : World} {c : Cx} {ev : Env} {τ : Nat} {m : Map} {n n' : List Res} {sc : Scope} {d : Nat}
theorem go_optN {σ : St} {K : Kt Value} (k : K .none σ) : Go w c σ (valueOrNone (evalOpt none ev)) K := go_pure k
theorem go_optS {σ : St} {e : Expr} {K : Kt Value} (h : Go w c σ (eval e ev) K) : Go w c σ (valueOrNone (evalOpt (some e) ev)) K := h
theorem go_addB {u v : Value} {ks ls : List Int} {K : Kt Value} (h1 : IsB u ks) (h2 : IsB v ls) (hz : ks.length + ls.length ≤ 16777216) (k : ∀ v τ, IsB v (ks ++ ls) → K v ⟨τ, m, n⟩) : Go w c ⟨τ, m, n⟩ (binaryOp .Add u v) K := by
  obtain ⟨b, t, rfl, hb⟩ := h1
  obtain ⟨b', t', rfl, hb'⟩ := h2
  exact go_any fun h' _ _ _ Q E o q => KBa.add_K hb hb' hz fun t' k' e => q _ k' m n h' (k _ _ ⟨_, _, rfl, e⟩) o
theorem go_lenB {v : Value} {ks : List Int} {K : Kt Value} (h1 : IsB v ks) (hz : ks.length ≤ 16777216) (k : K (.int (ks.length : Nat) (.succ τ)) ⟨.succ (.succ τ), m, n⟩) : Go w c ⟨τ, m, n⟩ (call (.builtin "len") [v] []) K := by
  obtain ⟨b, t, rfl, hb⟩ := h1
  exact go_any fun h' _ _ _ Q E o q => KBw.len_K hb (by omega) (q _ _ m n h' k o)
/-- bytes(list of ints) -/
theorem go_bytesL {D : Addr} {vs : List Value} {ks : List Int} {nn : Nat} {K : Kt Value} (hm : ob D (listOf vs.toArray nn) ∈ n) (hi : IntsAre vs ks) (hr : KBa.In ks) (hz : ks.length ≤ 16777216) (k : ∀ v τ, IsB v ks → K v ⟨τ, m, n⟩) :
    Go w c ⟨τ, m, n⟩ (call (.type "bytes") [.ref D] []) K :=
  go_any fun _ _ _ _ Q E o q => by
    have ho := own_ob o hm
    obtain ⟨mm, S, F, l, hl, N, hd⟩ := o
    exact KBa.make_K F N rfl ⟨_, ho, rfl, nn, rfl⟩ hi hr hz fun h' t' k' F' N' _ => q _ k' m n h' (k _ _ ⟨_, _, rfl, KBa.ints_make hr⟩) ⟨mm, S, F', l, hl, N', hd⟩
end
end Mine

end

-- G5
section
open PySem PySem.W PySem.Calls PyProof.Rows
open Sem (wp)
namespace Mine
/-- a list of ints, a tuple of ints, a range: their tokens hidden -/
noncomputable def lstI (D : Addr) (ks : List Int) : Res := fun l => ∃ vs k, IntsAre vs ks ∧ l = [(D, listOf vs.toArray k)]
noncomputable def tupI (D : Addr) (ks : List Int) : Res := fun l => ∃ vs, IntsAre vs ks ∧ l = [(D, tupO vs)]
noncomputable def rng (D : Addr) (a b c : Int) : Res := fun l => ∃ t u v, l = [(D, { cls := .type "range", data := .fields #[.int a t, .int b u, .int c v] })]
theorem own_has {c : Cx} {m : Map} {n : List Res} {h : Heap} {r : Res} (w : Own c m n h) (hm : r ∈ n) : ∃ a, r a ∧ News c.h₀ c.L h a := by
  obtain ⟨_, _, _, l, hl, N, _⟩ := w
  obtain ⟨a, h1, h2⟩ := holds_mem hl hm
  exact ⟨a, h1, fun p hp => N p (h2 p hp)⟩
section
variable {α β : Type} {w : World} {c : Cx} {ev : Env} {τ : Nat} {m : Map} {n n' : List Res} {sc : Scope} {d : Nat}
/-- the first resource opened -/
theorem go_head {r : Res} {t : Sem α} {K : Kt α} (f : ∀ (h : Heap) (g : Array GenState) (dr : Drawn) (os : OsState) (Q : α → Shared → Prop) (E : Value → Shared → Prop) (mm : Str → Option Value) (a b : Led), MSub c.fix m mm → Fr c.h₀ c.L h mm → r a → Holds n b → News c.h₀ c.L h (a ++ b) →
    ((a ++ b).map (·.1)).Nodup → (∀ v τ' m' n' h', K v ⟨τ', m', n'⟩ → Own c m' n' h' → Q v ⟨h', g, dr, τ', os⟩) → wpAny (model pw w) c.A t Q E ⟨h, g, dr, τ, os⟩) : Go w c ⟨τ, m, r :: n⟩ t K :=
  go_any fun h g dr os Q E o q => by
    obtain ⟨mm, S, F, l, ⟨a, b, rfl, ha, hb⟩, N, hd⟩ := o
    exact f h g dr os Q E mm a b S F ha hb N hd q
/-- a resource seen otherwise -/
theorem go_see {r r' : Res} {t : Sem α} {K : Kt α} (hr : ∀ l, r l → r' l) (h : Go w c ⟨τ, m, r' :: n⟩ t K) : Go w c ⟨τ, m, r :: n⟩ t K := fun h' g dr os Q E ⟨mm, S, F, l, ⟨a, b, e, ha, hb⟩, N, hd⟩ k =>
  h h' g dr os Q E ⟨mm, S, F, l, ⟨a, b, e, hr a ha, hb⟩, N, hd⟩ k
theorem go_newListI {vs : List Value} {ks : List Int} {K : Kt Value} (hi : IntsAre vs ks) (k : ∀ D, K (.ref D) ⟨τ, m, lstI D ks :: n⟩) (hz : Nat.ble vs.length 1000 = true) : Go w c ⟨τ, m, n⟩ (newList vs) K :=
  go_any fun _ _ _ _ Q E ⟨mm, S, F, l, hl, N, d⟩ q => newList_N F N (fun h' F' N' => q _ _ m _ h' (k _) ⟨mm, S, F', _, ⟨_, l, rfl, ⟨vs, 0, hi, rfl⟩, hl⟩, N', List.nodup_cons.mpr ⟨fun hm => by
    obtain ⟨p, hp, e⟩ := List.mem_map.mp hm
    exact Nat.lt_irrefl _ (e ▸ Heap.lt_size (N p hp).1), d⟩⟩) (Nat.le_trans (Nat.le_of_ble_eq_true hz) (by rw [sizeLine_eq]; decide))
-- ints
theorem go_mul {x y : Int} {t u : Tok} {K : Kt Value} (hm : IntMulOk x y) (k : K (.int (x * y) τ) ⟨.succ τ, m, n⟩) : Go w c ⟨τ, m, n⟩ (binaryOp .Mult (.int x t) (.int y u)) K := go_val (fun _ _ _ _ _ _ _ q => PySem.P.mul_int q hm) k
theorem go_mod {x y : Int} {t u : Tok} {K : Kt Value} (hy : y ≠ 0) (k : K (.int (x.fmod y) τ) ⟨.succ τ, m, n⟩) : Go w c ⟨τ, m, n⟩ (binaryOp .Mod (.int x t) (.int y u)) K := go_val (fun _ _ _ _ _ _ _ q => mod_int' hy q) k
theorem go_div {x y : Int} {t u : Tok} {K : Kt Value} (hy : y ≠ 0) (hp : Builtin.divisionGoesByPylong x y = false) (k : K (.int (x.fdiv y) τ) ⟨.succ τ, m, n⟩) : Go w c ⟨τ, m, n⟩ (binaryOp .FloorDiv (.int x t) (.int y u)) K :=
  go_val (fun _ _ _ _ _ _ _ q => floordiv_int hy q (.inl hp)) k
theorem go_neg {x : Int} {t : Tok} {K : Kt Value} (k : K (.int (-x) τ) ⟨.succ τ, m, n⟩) : Go w c ⟨τ, m, n⟩ (unaryOp .USub (.int x t)) K := go_val (fun _ _ _ _ _ _ _ q => PySem.P.neg_int q) k
theorem go_intI {σ : St} {x : Int} {t : Tok} {K : Kt Value} (k : K (.int x t) σ) : Go w c σ (call (.type "int") [.int x t] []) K := go_val (fun _ _ _ _ _ _ _ q => call_int_int q) k
/-- a test -/
theorem go_cmp {σ : St} {l r : Expr} {op : CmpOp} {pos : Pos} {whole : Sem Value} {K : Kt Bool} (hb : behindInMarks op r = false)
    (h : Go w c σ (eval l ev) fun a σ => Go w c σ (eval r ev) fun b σ => Go w c σ (compareOp op a b) fun v σ => Go w c σ (truthy v) K) : Go w c σ (isTrue (.Compare l [op] [r] pos) ev whole) K := by
  rw [isTrue_Compare1, markedBehindIn_of_false hb]
  exact go_bind (h.mono fun a σ h => go_bind (go_holding (h.mono fun b σ h => go_stand (go_bind (go_operate (h.mono fun v σ h => go_holding h))))))
theorem go_cmpV {σ : St} {l r : Expr} {op : CmpOp} {pos : Pos} {K : Kt Value} (hb : behindInMarks op r = false)
    (h : Go w c σ (eval l ev) fun a σ => Go w c σ (eval r ev) fun b σ => Go w c σ (compareOp op a b) K) : Go w c σ (eval (.Compare l [op] [r] pos) ev) K := by
  rw [eval_Compare1, markedBehindIn_of_false hb]
  exact go_bind (h.mono fun a σ h => go_bind (go_holding (h.mono fun b σ h => go_stand (go_operate h))))
theorem go_truthB {σ : St} {b : Bool} {K : Kt Bool} (k : K b σ) : Go w c σ (truthy (.bool b)) K := go_val (fun _ _ _ _ _ _ _ q => wpAny_truthy_bool q) k
theorem go_eq {σ : St} {x y : Int} {t u : Tok} {K : Kt Value} (k : K (.bool (x == y)) σ) : Go w c σ (compareOp .Eq (.int x t) (.int y u)) K := go_val (fun _ _ _ _ _ _ _ q => PySem.P.eq_int q) k
theorem go_ne {σ : St} {x y : Int} {t u : Tok} {K : Kt Value} (k : K (.bool (x != y)) σ) : Go w c σ (compareOp .NotEq (.int x t) (.int y u)) K := go_val (fun _ _ _ _ _ _ _ q => PySem.P.ne_int q) k
theorem go_lt {σ : St} {x y : Int} {t u : Tok} {K : Kt Value} (k : K (.bool (decide (x < y))) σ) : Go w c σ (compareOp .Lt (.int x t) (.int y u)) K := go_val (fun _ _ _ _ _ _ _ q => PySem.P.lt_int q) k
theorem go_gt {σ : St} {x y : Int} {t u : Tok} {K : Kt Value} (k : K (.bool (decide (x > y))) σ) : Go w c σ (compareOp .Gt (.int x t) (.int y u)) K := go_val (fun _ _ _ _ _ _ _ q => PySem.P.gt_int q) k
theorem go_ge {σ : St} {x y : Int} {t u : Tok} {K : Kt Value} (k : K (.bool (decide (x ≥ y))) σ) : Go w c σ (compareOp .GtE (.int x t) (.int y u)) K := go_val (fun _ _ _ _ _ _ _ q => PySem.P.ge_int q) k
theorem go_split {P : Prop} [Decidable P] {A B : Prop} (h1 : P → A) (h2 : ¬ P → B) : if decide P = true then A else B := by
  by_cases h : P
  · rw [decide_eq_true h]; exact h1 h
  · rw [decide_eq_false h]; exact h2 h
theorem go_splitEq {x y : Int} {A B : Prop} (h1 : x = y → A) (h2 : x ≠ y → B) : if (x == y) = true then A else B := by
  by_cases h : x = y
  · rw [beq_iff_eq.mpr h]; exact h1 h
  · rw [beq_eq_false_iff_ne.mpr h]; exact h2 h
theorem go_splitNe {x y : Int} {A B : Prop} (h1 : x ≠ y → A) (h2 : x = y → B) : if (x != y) = true then A else B := by
  by_cases h : x = y
  · rw [bne_eq_false_iff_eq.mpr h]; exact h2 h
  · rw [bne_iff_ne.mpr h]; exact h1 h
theorem go_lenL {D : Addr} {ks : List Int} {K : Kt Value} (hm : lstI D ks ∈ n) (hz : ks.length ≤ 1000) (k : K (.int (ks.length : Nat) (.succ τ)) ⟨.succ (.succ τ), m, n⟩) : Go w c ⟨τ, m, n⟩ (call (.builtin "len") [.ref D] []) K :=
  go_any fun h' _ _ _ Q E o q => by
    obtain ⟨a, ⟨vs, kn, hi, rfl⟩, N⟩ := own_has o hm
    exact len_ints_fit ⟨_, (N _ (.head _)).1, rfl, kn, rfl⟩ hi (by omega) (q _ _ m n h' k o)
-- items
theorem go_sub' {σ : St} {value slice : Expr} {pos : Pos} {K : Kt Value} (h : Go w c σ (eval value ev) fun o σ => Go w c σ (eval slice ev) fun i σ => Go w c σ (subscriptTail value slice o i) K) :
    Go w c σ (eval (.Subscript value slice pos) ev) K := by
  show Go w c σ (do let o ← eval value ev; let i ← holding [o] (eval slice ev); standAt pos; subscriptTail value slice o i) K
  exact go_bind (h.mono fun o σ h => go_bind (go_holding (h.mono fun i σ h => go_stand h)))
theorem getD_of {ks : List Int} {k : Int} {v : Int} (h : ks[k.toNat]? = some v) : ks.getD k.toNat 0 = v ∧ k.toNat < ks.length := by
  obtain ⟨h1, h2⟩ := List.getElem?_eq_some_iff.mp h
  exact ⟨by rw [List.getD_eq_getElem?_getD, h]; rfl, h1⟩
theorem go_item {value slice : Expr} {D : Addr} {ks : List Int} {k v : Int} {u : Tok} {K : Kt Value} (hm : lstI D ks ∈ n) (h0 : 0 ≤ k) (hz : ks.length ≤ 1000) (hx : ks[k.toNat]? = some v) (kk : ∀ t, K (.int v t) ⟨τ, m, n⟩)
    (hs : subscripted slice false (.ref D) (.int k u) = operate [.ref D, .int k u] (getItem (.ref D) (.int k u))) :
    Go w c ⟨τ, m, n⟩ (subscriptTail value slice (.ref D) (.int k u)) K := go_any fun h' _ _ _ Q E o q => by
  obtain ⟨a, ⟨vs, kn, hi, rfl⟩, N⟩ := own_has o hm
  obtain ⟨e1, e2⟩ := getD_of hx
  have hl : h'.IsList D vs.toArray := ⟨_, (N _ (.head _)).1, rfl, kn, rfl⟩
  obtain ⟨t, hx⟩ := hi.get k.toNat _ hx
  exact tail_any hl.typeIs slot_list_getitem.lookup (wpAny_getItem_list hl h0 (by omega) (by simpa using hx) (q _ _ m n h' (kk t) o)) hs
theorem go_itemO {value slice : Expr} {D : Addr} {vs : List Value} {k : Int} {v : Value} {u : Tok} {K : Kt Value} (hm : ob D (tupO vs) ∈ n) (h0 : 0 ≤ k) (h1 : k < 1000) (hx : vs[k.toNat]? = some v) (kk : K v ⟨τ, m, n⟩)
    (hs : subscripted slice false (.ref D) (.int k u) = operate [.ref D, .int k u] (getItem (.ref D) (.int k u))) :
    Go w c ⟨τ, m, n⟩ (subscriptTail value slice (.ref D) (.int k u)) K := go_val (fun h' _ _ _ Q E o q => by
  have ho := own_ob o hm
  have ht : IsTup h' D vs.toArray := ⟨_, ho, rfl, 0, rfl⟩
  have hlt : k.toNat < vs.length := (List.getElem?_eq_some_iff.mp hx).1
  exact tail_any ht.typeIs slot_tuple_getitem.lookup (PyProof.Rows.getItem_tuple (j := k.toNat) ht (by omega) (by omega) (seqIndex_of h0 (by simpa using (show k < (vs.length : Int) by omega))) (by simpa using hx) q) hs) kk
theorem go_itemT {value slice : Expr} {D : Addr} {ks : List Int} {k v : Int} {u : Tok} {K : Kt Value} (hm : tupI D ks ∈ n) (h0 : 0 ≤ k) (hz : ks.length ≤ 1000) (hx : ks[k.toNat]? = some v) (kk : ∀ t, K (.int v t) ⟨τ, m, n⟩)
    (hs : subscripted slice false (.ref D) (.int k u) = operate [.ref D, .int k u] (getItem (.ref D) (.int k u))) :
    Go w c ⟨τ, m, n⟩ (subscriptTail value slice (.ref D) (.int k u)) K := go_any fun h' _ _ _ Q E o q => by
  obtain ⟨a, ⟨vs, hi, rfl⟩, N⟩ := own_has o hm
  obtain ⟨e1, e2⟩ := getD_of hx
  have ht : IsTup h' D vs.toArray := ⟨_, (N _ (.head _)).1, rfl, 0, rfl⟩
  obtain ⟨t, hx⟩ := hi.get k.toNat _ hx
  exact tail_any ht.typeIs slot_tuple_getitem.lookup (PyProof.Rows.getItem_tuple (j := k.toNat) ht (by omega) (by omega) (seqIndex_of h0 (by simpa [hi.length] using (show k < (ks.length : Int) by omega))) (by simpa using hx) (q _ _ m n h' (kk t) o)) hs
theorem get_getD {ks : List Int} {k : Int} (h0 : 0 ≤ k) (h1 : k < (ks.length : Int)) : ks[k.toNat]? = some (ks.getD k.toNat 0) := by
  rw [List.getD_eq_getElem?_getD, List.getElem?_eq_getElem (by omega)]; rfl
theorem go_itemB {value slice : Expr} {v : Value} {ks : List Int} {k : Int} {u : Tok} {K : Kt Value} (hv : IsB v ks) (hz : ks.length ≤ 16777216) (h0 : 0 ≤ k) (h1 : k < (ks.length : Int)) (kk : ∀ t τ, 0 ≤ ks.getD k.toNat 0 → ks.getD k.toNat 0 < 256 → K (.int (ks.getD k.toNat 0) t) ⟨τ, m, n⟩)
    (hs : ∀ o : Value, subscripted slice false o (.int k u) = operate [o, .int k u] (getItem o (.int k u))) :
    Go w c ⟨τ, m, n⟩ (subscriptTail value slice v (.int k u)) K := by
  obtain ⟨b, t, rfl, hb⟩ := hv
  exact go_any fun h' _ _ _ Q E o q => KBw.item_K hb (by omega) h0 h1 (fun t' k' g0 g1 => q _ k' m n h' (kk t' k' g0 g1) o) (hs _) (fun r => let_bytes r)
/-- x[i] = v on a list of ints -/
theorem go_setItem {D : Addr} {ks : List Int} {k v : Int} {t u : Tok} {K : Kt Unit} (h0 : 0 ≤ k) (h1 : k < (ks.length : Int)) (hz : ks.length ≤ 64) (kk : K () ⟨τ, m, lstI D (ks.set k.toNat v) :: n⟩) :
    Go w c ⟨τ, m, lstI D ks :: n⟩ (setItem (.ref D) (.int k t) (.int v u)) K := go_head fun _ _ _ _ Q E mm a b S F ha hb N hd q => by
  obtain ⟨vs, kn, hi, rfl⟩ := ha
  have U : ∀ o', Upd D (listOf vs.toArray kn) o' ([(D, listOf vs.toArray kn)] ++ b) ([(D, o')] ++ b) := fun o' => .head fun p hp e => (List.nodup_cons.mp hd).1 (by show D ∈ _; rw [← e]; exact List.mem_map_of_mem (f := (·.1)) hp)
  exact store_K F N (U _) rfl hi h0 h1 hz fun h' F' N' hi' => q () _ m _ h' kk ⟨mm, S, F', _, ⟨_, b, rfl, ⟨_, kn, hi', by simp⟩, hb⟩, N', hd⟩
theorem go_assignSub {σ : St} {o i : Expr} {p : Pos} {value : Expr} {pos : Pos} {rest : List Stmt} {K : Kt Flow} (a : At w c sc d)
    (h : Go w c σ (eval value c.env) fun v σ => Go w c σ (eval o c.env) fun ov σ => Go w c σ (eval i c.env) fun iv σ => Go w c σ (setItem ov iv v) fun _ σ => Go w c σ (execs rest c.env) K)
    (hs : swapsWith value (some (.Subscript o i p)) pos.line (c.at sc) = pure false) : Go w c σ (execs (.Assign [.Subscript o i p] value pos :: rest) c.env) K := by
  refine go_seq ?_
  rw [exec_Assign_Subscript o i p value pos (by rw [a.env]; exact hs)]
  refine go_stand (go_bind (h.mono fun v σ h => go_bind ?_))
  rw [assign_Subscript]
  exact go_bind (go_holding (h.mono fun ov σ h => go_bind (go_holding (h.mono fun iv σ h => go_stand (go_bind (go_holding (h.mono fun _ σ h => go_release (go_pure h))))))))
end
end Mine

end

-- G6
section
open PySem PySem.W PySem.Calls PyProof.Rows
open Sem (wp)
namespace Mine
/-- some names forgotten -/
noncomputable def MapLess (m' m : Map) : Prop := ∀ x v, m'.lookup x = some v → m.lookup x = some v
theorem ml_refl {m : Map} : MapLess m m := fun _ _ h => h
theorem ml_nil {m : Map} : MapLess [] m := fun _ _ h => by cases h
theorem ml_cons {m' m : Map} {x : Str} {v : Value} (h : m.lookup x = some v) (s : MapLess m' m) : MapLess ((x, v) :: m') m := by
  intro y u e
  rw [List.lookup_cons] at e
  by_cases hy : y = x
  · subst hy
    simp only [beq_self_eq_true] at e
    rw [← e]
    exact h
  · have : (y == x) = false := beq_eq_false_iff_ne.mpr hy
    rw [this] at e
    exact s _ _ e
/-- how a turn of a loop ends: the iterator's resource r handed back -/
noncomputable def Turn (J : Map → List Res → Prop) (K : Kt Flow) (r : Res) (f : Flow) (σ : St) : Prop := match f with
  | .ret v => ∃ n1, Pick r σ.n n1 ∧ K (.ret v) ⟨σ.τ, σ.m, n1⟩
  | .brk => False
  | _ => ∃ m2 n1 n2, MapLess m2 σ.m ∧ Pick r σ.n n1 ∧ Less n2 n1 ∧ J m2 n2
/-- a loop over the value v, then the rest -/
noncomputable def Iter (w : World) (c : Cx) (target : Expr) (body rest : List Stmt) (K : Kt Flow) (v : Value) (σ : St) : Prop :=
  Go w c σ (pyIter v >>= fun it => runOwn (.forLoop target it body [] c.env) c.env) (Then w c rest K)
section
variable {α β : Type} {w : World} {c : Cx} {τ : Nat} {m : Map} {n n' : List Res} {sc : Scope} {d : Nat}
theorem turn_next {J : Map → List Res → Prop} {K : Kt Flow} {r : Res} {m2 : Map} {n1 n2 : List Res} (hm : MapLess m2 m) (hp : Pick r n n1) (hl : Less n2 n1) (hj : J m2 n2) : Turn J K r .next ⟨τ, m, n⟩ := ⟨m2, n1, n2, hm, hp, hl, hj⟩
theorem go_for {σ : St} {target iter : Expr} {body rest : List Stmt} {pos : Pos} {K : Kt Flow} (h : Go w c σ (eval iter c.env) (Iter w c target body rest K))
    (hs : ∀ x, foldedSetIterable iter c.env x = pure x) : Go w c σ (execs (.For target iter body [] pos :: rest) c.env) K := by
  refine go_seq ?_
  rw [exec_For]
  refine go_stand (go_bind (h.mono fun v σ h => ?_))
  rw [hs]
  refine go_bind (go_pure (go_stand ?_))
  intro h' g dr os Q E o q
  have := h h' g dr os Q E o q
  revert this
  cases c.any with
  | true =>
    intro this Γ p hΓ
    have := this Γ p hΓ
    rw [Sem.wp_bind'] at this ⊢
    rw [Sem.wp_holding]
    exact this
  | false =>
    intro this Γ p hΓ h1 h2
    have := this Γ p hΓ h1 h2
    rw [Sem.wp_bind'] at this ⊢
    rw [Sem.wp_holding]
    exact this
theorem assign_name {x : Str} {p : Pos} {v : Value} {h : Heap} {g : Array GenState} {dr : Drawn} {os : OsState} {Q : Unit → Shared → Prop} {E : Value → Shared → Prop} {A : Around} {M : Model} (a : At w c sc d) (hx : c.fix = none) (o : Own c m n h)
    (q : ∀ h', Own c ((x, v) :: m) n h' → Q () ⟨h', g, dr, .succ τ, os⟩) (hl : isLoc sc x = true) : wpAny M A (assign (.Name x p) c.env v) Q E ⟨h, g, dr, τ, os⟩ := by
  obtain ⟨mm, S, F, l, hl', N, hd⟩ := o
  rw [PySem.assign_Name]
  unfold bindName
  exact wpAny_bind (wpAny_standAt (wpAny_bind (wpAny_holding (wpAny_point (wpAny_bind (storeX_L F N (fun h' F' N' => wpAny_point (q h' ⟨_, msub_cons hx S, F', l, hl', N', hd⟩)) a.k (a.scope (isLoc_of hl).1)))))))
theorem own_cons {D : Addr} {o : Obj} {h : Heap} {mm : Str → Option Value} {l : Led} (S : MSub c.fix m mm) (F : Fr c.h₀ c.L h mm) (hl : Holds n l) (N : News c.h₀ c.L h ((D, o) :: l)) (hd : (l.map (·.1)).Nodup) (off : ∀ p ∈ l, p.1 ≠ D) : Own c m (ob D o :: n) h :=
  ⟨mm, S, F, _, ⟨[(D, o)], l, rfl, rfl, hl⟩, N, List.nodup_cons.mpr ⟨fun hm => by
    obtain ⟨p, hp, e⟩ := List.mem_map.mp hm
    exact off p hp e, hd⟩⟩
theorem own_uncons {D : Addr} {o : Obj} {h : Heap} (w : Own c m (ob D o :: n) h) : ∃ mm l, MSub c.fix m mm ∧ Fr c.h₀ c.L h mm ∧ Holds n l ∧ News c.h₀ c.L h ((D, o) :: l) ∧ (l.map (·.1)).Nodup ∧ ∀ p ∈ l, p.1 ≠ D := by
  obtain ⟨mm, S, F, l, ⟨a, b, e, rfl, hb⟩, N, hd⟩ := w
  subst e
  have := List.nodup_cons.mp hd
  exact ⟨mm, b, S, F, hb, N, this.2, fun p hp e => this.1 (e ▸ List.mem_map_of_mem (f := (·.1)) hp)⟩
/-- what C_forW asks of a turn, out of what Go says of it -/
theorem turn_end {J : Map → List Res → Prop} {K : Kt Flow} {I : Addr} {oI : Obj} {f : Flow} {σ : St} {h' h : Heap} {g : Array GenState} {dr : Drawn} {os : OsState} {tk : Nat} {Q : Flow → Shared → Prop} {rest : List Stmt}
    (q : ∀ v σ h', Then w c rest K v σ → Own c σ.m σ.n h' → Q v ⟨h', g, dr, σ.τ, os⟩) (t : Turn J K (ob I oI) f σ) (o : Own c σ.m σ.n h') :
    TurnEnd c.h₀ c.env.locals I oI ⟨h, g, dr, tk, os⟩ (fun mm l => ∃ m n, MSub c.fix m mm ∧ Holds n l ∧ (l.map (·.1)).Nodup ∧ J m n) (fun v s₃ => Q (.ret v) s₃) f ⟨h', g, dr, σ.τ, os⟩ := by
  cases f with
  | ret v =>
    obtain ⟨n1, hp, k⟩ := t
    obtain ⟨mm, l, S, F, hl, N, hd, _⟩ := own_uncons (own_pick o hp)
    exact q (.ret v) ⟨σ.τ, σ.m, n1⟩ h' k ⟨mm, S, F, l, hl, fun p hp => N p (.tail _ hp), hd⟩
  | brk => exact t.elim
  | next =>
    obtain ⟨m2, n1, n2, hm, hp, hl, hj⟩ := t
    obtain ⟨mm, l, S, F, hl', N, hd, off⟩ := own_uncons (own_pick o hp)
    obtain ⟨l', hl'', hs⟩ := holds_less hl hl'
    exact ⟨h', σ.τ, mm, l', rfl, F, fun p hp => N p ((hs.left [(I, oI)]).subset hp), fun p hp => off p (hs.subset hp), m2, n2, ⟨fun x v e => S.1 x v (hm x v e), S.2⟩, hl'', hs.nodup hd, hj⟩
  | cont =>
    obtain ⟨m2, n1, n2, hm, hp, hl, hj⟩ := t
    obtain ⟨mm, l, S, F, hl', N, hd, off⟩ := own_uncons (own_pick o hp)
    obtain ⟨l', hl'', hs⟩ := holds_less hl hl'
    exact ⟨h', σ.τ, mm, l', rfl, F, fun p hp => N p ((hs.left [(I, oI)]).subset hp), fun p hp => off p (hs.subset hp), m2, n2, ⟨fun x v e => S.1 x v (hm x v e), S.2⟩, hl'', hs.nodup hd, hj⟩
theorem go_range1 {b : Int} {t : Tok} {K : Kt Value} (k : ∀ D τ, K (.ref D) ⟨τ, m, rng D 0 b 1 :: n⟩) : Go w c ⟨τ, m, n⟩ (call (.type "range") [.int b t] []) K := go_any fun hh g dr os Q E ⟨mm, S, F, l, hl, N, hd⟩ q =>
  range1_rows F N fun h' tk t₁ u₁ v₁ R F' N' hk => q _ tk m _ h' (k _ _) ⟨mm, S, F', _, ⟨_, l, rfl, ⟨_, _, _, rfl⟩, hl⟩, fun p hp => by
    rcases List.mem_cons.mp hp with rfl | hp
    · exact ⟨R, Nat.ne_of_gt F.ns.lt, next_is_new F⟩
    · exact N' p hp, List.nodup_cons.mpr ⟨fun hm => by
    obtain ⟨p, hp, e⟩ := List.mem_map.mp hm
    exact Nat.lt_irrefl _ (e ▸ Heap.lt_size (N p hp).1), hd⟩⟩
theorem go_range2 {a b : Int} {t u : Tok} {K : Kt Value} (k : ∀ D τ, K (.ref D) ⟨τ, m, rng D a b 1 :: n⟩) : Go w c ⟨τ, m, n⟩ (call (.type "range") [.int a t, .int b u] []) K := go_any fun hh g dr os Q E ⟨mm, S, F, l, hl, N, hd⟩ q =>
  range2_rows F N fun h' tk t₁ u₁ v₁ R F' N' hk => q _ tk m _ h' (k _ _) ⟨mm, S, F', _, ⟨_, l, rfl, ⟨_, _, _, rfl⟩, hl⟩, fun p hp => by
    rcases List.mem_cons.mp hp with rfl | hp
    · exact ⟨R, Nat.ne_of_gt F.ns.lt, next_is_new F⟩
    · exact N' p hp, List.nodup_cons.mpr ⟨fun hm => by
    obtain ⟨p, hp, e⟩ := List.mem_map.mp hm
    exact Nat.lt_irrefl _ (e ▸ Heap.lt_size (N p hp).1), hd⟩⟩
theorem go_range3 {a b st : Int} {t u v : Tok} {K : Kt Value} (h0 : st ≠ 0) (hp : Builtin.divisionGoesByPylong (b - a) st = false) (k : ∀ D τ, K (.ref D) ⟨τ, m, rng D a b st :: n⟩) : Go w c ⟨τ, m, n⟩ (call (.type "range") [.int a t, .int b u, .int st v] []) K := go_any fun hh g dr os Q E ⟨mm, S, F, l, hl, N, hd⟩ q =>
  range3_rows F N h0 (fun h' tk t₁ u₁ v₁ R F' N' hk => q _ tk m _ h' (k _ _) ⟨mm, S, F', _, ⟨_, l, rfl, ⟨_, _, _, rfl⟩, hl⟩, fun p hp => by
    rcases List.mem_cons.mp hp with rfl | hp
    · exact ⟨R, Nat.ne_of_gt F.ns.lt, next_is_new F⟩
    · exact N' p hp, List.nodup_cons.mpr ⟨fun hm => by
    obtain ⟨p, hp, e⟩ := List.mem_map.mp hm
    exact Nat.lt_irrefl _ (e ▸ Heap.lt_size (N p hp).1), hd⟩⟩) (.inl hp)
theorem own_forget {m' : Map} {h : Heap} (hs : MapLess m' m) (o : Own c m n h) : Own c m' n h := by
  obtain ⟨mm, S, r⟩ := o
  exact ⟨mm, ⟨fun x v e => S.1 x v (hs x v e), S.2⟩, r⟩
/-- for x in range(..) -/
theorem iter_range {x : Str} {p : Pos} {body rest : List Stmt} {K : Kt Flow} {r : Addr} {a b st : Int} {N : Nat} (J : Nat → Map → List Res → Prop) (A : At w c sc d) (hx : c.fix = none) (hf : c.any = false) (hr : rng r a b st ∈ n) (hsmall : Builtin.Range.small a b st = true) (hN : Builtin.Range.rangeSize a b st = (N : Int)) {m0 : Map} {n0 : List Res} (hm : MapLess m0 m) (hn : Less n0 n) (h0 : J 0 m0 n0)
    (turn : ∀ (i : Nat) t τ m n r, i < N → J i m n → Go w c ⟨τ, (x, .int (a + (i : Int) * st) t) :: m, r :: n⟩ (execs body c.env) (Turn (J (i + 1)) K r))
    (done : ∀ τ m n, J N m n → Go w c ⟨τ, m, n⟩ (execs rest c.env) K) (hl : isLoc sc x = true) : Iter w c (.Name x p) body rest K (.ref r) ⟨τ, m, n⟩ := by
  intro h g dr os Q E o q
  obtain ⟨ar, ⟨t₀, u₀, v₀, rfl⟩, NR⟩ := own_has o hr
  have hR : IsRange h r a b st t₀ u₀ v₀ := (NR _ (.head _)).1
  obtain ⟨mm, S, F, l, hl', NN, hd⟩ := own_forget hm (own_less hn o)
  rw [hf]
  refine wpC_lead (wpAny_pyIter_range hR hsmall ?_)
  rw [hN]
  refine C_runOwn ?_
  have W : Walks pw w c.A h.objs.size [h.objs.size] [h.objs.size] N (fun i v => ∃ t, v = .int (a + (i : Nat) * st) t) (fun i h' => IsRangeIter h' h.objs.size (a + (i : Nat) * st) ((N : Int) - (i : Nat)) st) := Walks.range rfl _ a st N
  have stp : ∀ (i : Nat) (h₁ h' : Heap) (o : Obj), IsRangeIter h₁ h.objs.size (a + (i : Nat) * st) ((N : Int) - (i : Nat)) st → h₁.get? h.objs.size = some o → h'.get? h.objs.size = some o → IsRangeIter h' h.objs.size (a + (i : Nat) * st) ((N : Int) - (i : Nat)) st :=
    fun i h₁ h' o q e e' => e'.trans (e.symm.trans q)
  refine C_forW (s := ⟨h.push { cls := .type "range_iterator", data := .fields #[rawInt a, rawInt (N : Int), rawInt st] }, g, dr, τ, os⟩) (R := fun r s' => match r with | .ok f => Q f s' | .error _ => False)
    (fun i mm l => ∃ m n, MSub c.fix m mm ∧ Holds n l ∧ (l.map (·.1)).Nodup ∧ J i m n) W (fun i h' q => ⟨_, q⟩) (fun i h₁ h' o _ _ q e e' _ _ => stp i h₁ h' o q e e') (Nat.ne_of_gt F.ns.lt) (next_is_new F) (by show IsRangeIter _ _ _ _ _; simpa using Heap.get?_push_size _ rfl)
    (F.push _) (fun p hp => ⟨Heap.get?_push_of_some _ (NN p hp).1, (NN p hp).2⟩) (fun p hp => Nat.ne_of_lt (Heap.lt_size (NN p hp).1)) ⟨m0, n0, S, hl', hd, h0⟩ ?_ (fun i h₁ h' o q e e' _ _ _ _ _ => stp (i + 1) h₁ h' o q e e') ?_
  · rintro i v m₁ news₁ h₁ tk oI hi ⟨t, rfl⟩ ⟨m', n', S', hl₁, hd₁, hJ⟩ off F₁ N₁
    show wpAny _ _ (pure ()) _ _ _
    refine wpAny_pure (assign_name A hx (own_cons S' F₁ hl₁ N₁ hd₁ off) (fun h₂ o₂ => ?_) hl)
    exact wpX_off hf (turn i t _ _ _ _ hi hJ h₂ g dr os _ _ o₂ fun f σ h₃ tu o₃ => turn_end q tu o₃)
  · rintro m₁ news₁ h₁ tk ⟨m', n', S', hl₁, hd₁, hJ⟩ F₁ N₁
    exact q .next ⟨tk, m', n'⟩ h₁ (done tk m' n' hJ) ⟨m₁, S', F₁, news₁, hl₁, N₁, hd₁⟩
end
end Mine

end

-- G7
section
open PySem PySem.W PySem.Calls PyProof.Rows
open Sem (wp)
namespace Mine
/-- a list of any values, as a comprehension leaves it -/
noncomputable def lstV (D : Addr) (vs : List Value) : Res := fun l => ∃ k, l = [(D, listOf vs.toArray k)]
/-- the name x is v in the namespace C that lies in r -/
noncomputable def Reads (r : Res) (C : Addr) (x : Str) (v : Value) : Prop := ∀ l, r l → ∃ oC m₂, (C, oC) ∈ l ∧ LCg.NsObj oC m₂ ∧ m₂ x = some v
/-- how an element of a comprehension ends -/
noncomputable def Elt (J : List Value → Prop) (ys : List Value) (n : List Res) (r : Res) (y : Value) (σ : St) : Prop := J (ys ++ [y]) ∧ ∃ n1, Pick r σ.n n1 ∧ Less n n1
noncomputable def inC (sc : Scope) (env : Env) (x : Str) (k : NameKind) : Bool := (relabel sc env).names.lookup x == some k && !(x == ("__debug__" : Str))
section
variable {α β : Type} {w : World} {c : Cx} {τ : Nat} {m : Map} {n n' : List Res} {sc : Scope} {d : Nat}
theorem inC_of {sc : Scope} {env : Env} {x : Str} {k : NameKind} (h : inC sc env x k = true) : (relabel sc env).names.lookup x = some k ∧ (x == ("__debug__" : Str)) = false := by
  unfold inC at h
  simp only [Bool.and_eq_true, beq_iff_eq, Bool.not_eq_true'] at h
  exact h
theorem go_nameR {r : Res} {C : Addr} {x : Str} {v : Value} {pos : Pos} {scope : Scope} {cl : List (Str × Addr)} {K : Kt Value} (a : At w c sc d) (hr : Reads r C x v) (hm : r ∈ n) (k : K v ⟨τ, m, n⟩) (hk : scope.kind = .function) (hl : inC scope (c.at sc) x .local = true) :
    Go w c ⟨τ, m, n⟩ (eval (.Name x pos) (compEnvC scope cl C c.env)) K := go_val (fun _ _ _ _ _ _ o q => by
  obtain ⟨l, h1, N⟩ := own_has o hm
  obtain ⟨oC, m₂, h2, h3, h4⟩ := hr l h1
  rw [a.env]
  exact LCgL.ld_own N h2 h3 h4 q hk (inC_of hl).1 (inC_of hl).2) k
theorem go_globalR {x : Str} {v : Value} {pos : Pos} {scope : Scope} {cl : List (Str × Addr)} {C : Addr} {K : Kt Value} (a : At w c sc d) (e : nsIn (Mine.hd.heap_39 w.params) mainGlobals x = some (some v)) (k : K v ⟨τ, m, n⟩) (hk : scope.kind = .function) (hl : inC scope (c.at sc) x .globalImplicit = true) :
    Go w c ⟨τ, m, n⟩ (eval (.Name x pos) (compEnvC scope cl C c.env)) K := go_val (fun _ _ _ _ _ _ o q => by
  rw [a.env]
  exact LCgL.ld_global o.choose_spec.2.1 a.X a.T e q rfl hk (inC_of hl).1 (inC_of hl).2) k
theorem ints_snoc {vs : List Value} {ks : List Int} {v : Int} {t : Tok} (h : IntsAre vs ks) : IntsAre (vs ++ [.int v t]) (ks ++ [v]) := by
  induction h with
  | nil => exact .cons _ _ .nil
  | cons n t _ ih => exact .cons n t ih
theorem go_append {D : Addr} {ks : List Int} {v : Int} {t : Tok} {K : Kt Value} (hz : ks.length ≤ 1000) (k : K .none ⟨τ, m, lstI D (ks ++ [v]) :: n⟩) : Go w c ⟨τ, m, lstI D ks :: n⟩ (call (.builtin "list.append") [.ref D, .int v t] []) K := go_head fun hh g dr os Q E mm a b S F ha hb N hd q => by
  obtain ⟨vs, kn, hi, rfl⟩ := ha
  have U : ∀ o', Upd D (listOf vs.toArray kn) o' ([(D, listOf vs.toArray kn)] ++ b) ([(D, o')] ++ b) := fun o' => .head fun p hp e => (List.nodup_cons.mp hd).1 (by show D ∈ _; rw [← e]; exact List.mem_map_of_mem (f := (·.1)) hp)
  refine append_K F N (U _) (fun h' F' N' => q _ _ m _ h' k ⟨mm, S, F', _, ⟨_, b, rfl, ⟨vs ++ [.int v t], kn + 1, ?_, by rw [List.push_toArray]⟩, hb⟩, N', hd⟩) ?_
  · exact ints_snoc hi
  · rw [List.size_toArray, sizeLine_eq, hi.length]; omega
theorem go_methAppend {D : Addr} {ks : List Int} {pl : Sem Bool} {K : Kt (Value × List Value)} (hm : lstI D ks ∈ n) (k : K (.builtin "list.append", [.ref D]) ⟨τ, m, n⟩) : Go w c ⟨τ, m, n⟩ (getMethod (.ref D) (Str.ofString "append") pl) K :=
  go_val (fun _ _ _ _ _ _ o q => by
    obtain ⟨a, ⟨vs, kn, hi, rfl⟩, N⟩ := own_has o hm
    exact listMethod_K N (.head _) PySem.F.slot_list_append PySem.F.type_list_append q) k
theorem go_bytesN {x : Int} {t : Tok} {K : Kt Value} (h0 : 0 ≤ x) (h1 : x ≤ 16777216) (k : ∀ v τ, IsB v (List.replicate x.toNat 0) → K v ⟨τ, m, n⟩) : Go w c ⟨τ, m, n⟩ (call (.type "bytes") [.int x t] []) K :=
  go_any fun h' _ _ _ Q E o q => bytes_int h0 h1 fun b t k' e => q _ k' m n h' (k _ _ ⟨_, _, rfl, e⟩) o
theorem own_off3 {I C D : Addr} {oI oC oD : Obj} {b : Led} (hd : (((I, oI) :: (C, oC) :: (D, oD) :: b).map (·.1)).Nodup) : LCg.Off3 I C D b := by
  simp only [List.map_cons, List.nodup_cons, List.mem_cons, not_or] at hd
  obtain ⟨⟨_, _, h1⟩, ⟨_, h2⟩, h3, _⟩ := hd
  refine LCg.Off3.of fun p hp => ⟨fun e => h1 (e ▸ List.mem_map_of_mem (f := (·.1)) hp), fun e => h2 (e ▸ List.mem_map_of_mem (f := (·.1)) hp), fun e => h3 (e ▸ List.mem_map_of_mem (f := (·.1)) hp)⟩
/-- what the kit asks of the turns, out of what Go says of each -/
theorem comp_rest {mm : Str → Option Value} {elt : Expr} {x : Str} {scope : Scope} {cl : List (Str × Addr)} {S : Led → Prop} {P : Nat → Value → Prop} {N : Nat} {J : List Value → Prop} {g : Array GenState} {dr : Drawn} {os : OsState} {Fin : List Value → Led → Prop} {sh : Shared}
    (hsh : sh.gens = g ∧ sh.drawn = dr ∧ sh.os = os) (hany : c.any = true) (hfix : c.fix = some mm) (hS : MSub c.fix m mm) (src : ∀ l, Holds n l → S l)
    (turn : ∀ (i : Nat) τ v r C ys, i < N → P i v → J ys → ys.length = i → Reads r C x v → Go w c ⟨τ, m, r :: n⟩ (eval elt (compEnvC scope cl C c.env)) (Elt J ys n r))
    (fin : ∀ ys l, J ys → ys.length = N → Holds n l → (l.map (·.1)).Nodup → Fin ys l) :
    ∀ (k i : Nat) (ys : List Value) (l : Led), i + k = N → ys.length = i → J ys → Holds n l → (l.map (·.1)).Nodup → LCg.CompRest pw w c.A c.h₀ c.L mm c.env elt x scope cl sh S P Fin k i ys l := by
  intro k
  induction k with
  | zero => exact fun i ys l hi hl hJ hh hd => LCg.CompRest.zero (fin ys l hJ (by omega) hh hd)
  | succ k ih =>
    intro i ys l hi hl hJ hh hd
    refine LCg.CompRest.succ ?_
    intro v I oI C oC D m₂ h tk E' hP hC hv F N' off hne
    have hd3 : (((I, oI) :: (C, oC) :: (D, LCg.lst ys) :: l).map (·.1)).Nodup := by
      have o1 : ∀ p ∈ l, p.1 ≠ I ∧ p.1 ≠ C ∧ p.1 ≠ D := fun p hp => off.mem p hp
      have nm : ∀ {a : Addr}, (∀ p ∈ l, p.1 ≠ a) → a ∉ l.map (·.1) := fun h hm => by
        obtain ⟨p, hp, e⟩ := List.mem_map.mp hm
        exact h p hp e
      show (I :: C :: D :: l.map (·.1)).Nodup
      simp only [List.nodup_cons, List.mem_cons, not_or]
      exact ⟨⟨hne.1, hne.2.1, nm fun p hp => (o1 p hp).1⟩, ⟨hne.2.2, nm fun p hp => (o1 p hp).2.1⟩, nm fun p hp => (o1 p hp).2.2, hd⟩
    have T := turn i tk v (fun l => l = [(I, oI), (C, oC), (D, LCg.lst ys)]) C ys (by omega) hP hJ hl (by rintro l rfl; exact ⟨oC, m₂, .tail _ (.head _), hC, hv⟩) h sh.gens sh.drawn sh.os
    rw [hany] at T
    refine T _ E' ⟨mm, hS, F, _, ⟨_, l, rfl, rfl, hh⟩, N', hd3⟩ ?_
    rintro y σ h' ⟨hJ', n1, hp, hless⟩ o
    obtain ⟨mm', S', F', l₁, ⟨_, b, rfl, rfl, hb⟩, N₁, hd₁⟩ := own_pick o hp
    obtain rfl := S'.2 mm hfix
    obtain ⟨l', hl', hs⟩ := holds_less hless hb
    have hd₂ := (hs.left [(I, oI), (C, oC), (D, LCg.lst ys)]).nodup hd₁
    exact ⟨h', σ.τ, l', rfl, F', fun p hp => N₁ p ((hs.left _).subset hp), own_off3 hd₂, src l' hl', ih (i + 1) _ l' (by omega) (by simp [hl]) hJ' hl' ((List.nodup_append.mp (by rw [← List.map_append]; exact hd₂)).2.1)⟩
/-- what a comprehension asks of the value from which it draws -/
noncomputable def Comp (w : World) (c : Cx) (elt : Expr) (x : Str) (scope : Scope) (cl : List (Str × Addr)) (K : Kt Value) (n : List Res) (m : Map) (P : Nat → Value → Prop) (N : Nat) : Prop :=
  ∃ J : List Value → Prop, J [] ∧ (∀ (i : Nat) τ v r C ys, i < N → P i v → J ys → ys.length = i → Reads r C x v → Go w c ⟨τ, m, r :: n⟩ (eval elt (compEnvC scope cl C c.env)) (Elt J ys n r)) ∧
    ∀ D τ ys, J ys → ys.length = N → K (.ref D) ⟨τ, m, lstV D ys :: n⟩
theorem off1_mem {D : Addr} : ∀ {l : Led}, LCg.Off1 D l → ∀ p ∈ l, p.1 ≠ D
  | [], _, p, hp => by cases hp
  | q :: l, h, p, hp => by
    rcases List.mem_cons.mp hp with rfl | hp
    · exact h.1
    · exact off1_mem h.2 p hp
theorem comp_fin {J : List Value → Prop} {mm : Str → Option Value} {N : Nat} {K : Kt Value} {Q : Value → Shared → Prop} {s : Shared} (hS : MSub c.fix m mm) (fin : ∀ D τ ys, J ys → ys.length = N → K (.ref D) ⟨τ, m, lstV D ys :: n⟩)
    (q : ∀ v σ' h', K v σ' → Own c σ'.m σ'.n h' → Q v ⟨h', s.gens, s.drawn, σ'.τ, s.os⟩) : ∀ ys l, J ys → ys.length = N → Holds n l → (l.map (·.1)).Nodup → LCg.FinE c.h₀ c.L mm s Q ys l := by
  intro ys l hJ hN hh hd D h tk F N' off
  refine q _ ⟨tk, m, lstV D ys :: n⟩ h (fin D tk ys hJ hN) ⟨mm, hS, F, _, ⟨_, l, rfl, ⟨_, rfl⟩, hh⟩, N', List.nodup_cons.mpr ⟨fun hm => ?_, hd⟩⟩
  obtain ⟨p, hp, e⟩ := List.mem_map.mp hm
  exact off1_mem off p hp e
theorem size_le {α : Type} {vs : List α} (h : vs.length ≤ 1000) : vs.toArray.size ≤ sizeLine := by
  rw [List.size_toArray, sizeLine_eq]; omega
/-- a comprehension over a tuple -/
theorem go_compT {σ : St} {elt iter : Expr} {x : Str} {px : Pos} {scope : Scope} {cl : List (Str × Addr)} {pos : Pos} {K : Kt Value} (a : At w c sc d)
    (h : ∀ c', At w c' sc d → Go w c' σ (eval iter c'.env) fun v σ => ∃ D vs, v = .ref D ∧ ob D (tupO vs) ∈ σ.n ∧ vs.length ≤ 1000 ∧ Comp w c' elt x scope cl K σ.n σ.m (fun i v => vs.toArray[i]? = some v) vs.length)
    (hclos : closureFor scope (c.at sc) = pure cl) (hcell : ∀ y ∈ scope.names, y.2 ≠ .cell) (hkind : scope.kind = .function)
    (hnames : ∀ y ∈ scope.names, y.2 = .local → scope.names.lookup y.1 = some .local) (hx : scope.names.lookup x = some .local)
    (hs : ∀ x, foldedSetIterable iter c.env x = pure x) : Go w c σ (eval (.ListComp elt [⟨.Name x px, iter, [], 0⟩] scope pos) c.env) K := by
  rintro hh g dr os Q E ⟨mm, S, F, l, hl, N, hd⟩ q
  have a' : At w { c with any := true, fix := some mm } sc d := ⟨a.X, a.T, a.k, a.hd, a.hu, a.cs, a.ar⟩
  have S' : MSub (some mm) σ.m mm := ⟨S.1, fun f e => by cases e; rfl⟩
  refine wpX_of (Mine.ListComp_T F (by rw [a.env]; exact hclos) hcell hkind hnames hx ?_ hs)
  change wpX true (model pw w) c.A _ _ _ _
  refine h _ a' hh g dr os _ E ⟨mm, S', F, l, hl, N, hd⟩ ?_
  rintro v σ' h' ⟨D, vs, rfl, hm, hz, J, hJ, turn, fin⟩ ⟨mm', S₂, F', l', hl', N', hd'⟩
  obtain rfl := S₂.2 mm rfl
  obtain ⟨l₁, rfl, hsub⟩ := holds_mem hl' hm
  refine MSrc.ledger (its := vs.toArray) (k := 0) rfl F' N' (hsub _ (.head _)) (size_le hz) fun g' => ?_
  rw [List.size_toArray]
  refine comp_rest (c := { c with any := true, fix := some mm }) (J := J) ⟨rfl, rfl, rfl⟩ rfl rfl S₂ (fun l hl => ?_) turn (comp_fin S₂ fin fun v σ' h' k o => ?_) _ 0 [] l' (Nat.zero_add _) rfl hJ hl' hd'
  · obtain ⟨_, rfl, hsub⟩ := holds_mem hl hm
    exact .inr ⟨_, hsub _ (.head _), rfl, _, rfl⟩
  · obtain ⟨mm₂, S₃, r⟩ := o
    exact q v σ' h' k ⟨mm₂, ⟨S₃.1, fun f e => (S.2 f e).trans (S₃.2 _ rfl)⟩, r⟩
/-- a comprehension over a list -/
theorem go_compL {σ : St} {elt iter : Expr} {x : Str} {px : Pos} {scope : Scope} {cl : List (Str × Addr)} {pos : Pos} {K : Kt Value} (a : At w c sc d)
    (h : ∀ c', At w c' sc d → Go w c' σ (eval iter c'.env) fun v σ => ∃ D, ∃ (vs : List Value), ∃ k, v = .ref D ∧ ob D (listOf vs.toArray k) ∈ σ.n ∧ vs.length ≤ 1000 ∧ Comp w c' elt x scope cl K σ.n σ.m (fun i v => vs.toArray[i]? = some v) vs.length)
    (hclos : closureFor scope (c.at sc) = pure cl) (hcell : ∀ y ∈ scope.names, y.2 ≠ .cell) (hkind : scope.kind = .function)
    (hnames : ∀ y ∈ scope.names, y.2 = .local → scope.names.lookup y.1 = some .local) (hx : scope.names.lookup x = some .local)
    (hs : ∀ x, foldedSetIterable iter c.env x = pure x) : Go w c σ (eval (.ListComp elt [⟨.Name x px, iter, [], 0⟩] scope pos) c.env) K := by
  rintro hh g dr os Q E ⟨mm, S, F, l, hl, N, hd⟩ q
  have a' : At w { c with any := true, fix := some mm } sc d := ⟨a.X, a.T, a.k, a.hd, a.hu, a.cs, a.ar⟩
  have S' : MSub (some mm) σ.m mm := ⟨S.1, fun f e => by cases e; rfl⟩
  refine wpX_of (LCg.ListComp_U F (by rw [a.env]; exact hclos) hcell hkind hnames hx ?_ hs)
  change wpX true (model pw w) c.A _ _ _ _
  refine h _ a' hh g dr os _ E ⟨mm, S', F, l, hl, N, hd⟩ ?_
  rintro v σ' h' ⟨D, vs, k, rfl, hm, hz, J, hJ, turn, fin⟩ ⟨mm', S₂, F', l', hl', N', hd'⟩
  obtain rfl := S₂.2 mm rfl
  obtain ⟨l₁, rfl, hsub⟩ := holds_mem hl' hm
  refine LCg.CompSrc.ledger (its := vs.toArray) (k := k) rfl F' N' (hsub _ (.head _)) (size_le hz) fun g' => ?_
  rw [List.size_toArray]
  refine comp_rest (c := { c with any := true, fix := some mm }) (J := J) ⟨rfl, rfl, rfl⟩ rfl rfl S₂ (fun l hl => ?_) turn (comp_fin S₂ fin fun v σ' h' k o => ?_) _ 0 [] l' (Nat.zero_add _) rfl hJ hl' hd'
  · obtain ⟨_, rfl, hsub⟩ := holds_mem hl hm
    exact .inr ⟨_, hsub _ (.head _), rfl, _, rfl⟩
  · obtain ⟨mm₂, S₃, r⟩ := o
    exact q v σ' h' k ⟨mm₂, ⟨S₃.1, fun f e => (S.2 f e).trans (S₃.2 _ rfl)⟩, r⟩
/-- a comprehension over a range, its element over cells of the frame -/
theorem go_compR {σ : St} {elt iter : Expr} {x : Str} {px : Pos} {scope : Scope} {cl0 cl : List (Str × Addr)} {pos : Pos} {K : Kt Value} (A : At w c sc d) (hcl : c.cl = cl0)
    (h : ∀ c', At w c' sc d → c'.cl = cl0 → Go w c' σ (eval iter c'.env) fun v σ => ∃ D a b N, v = .ref D ∧ rng D a b 1 ∈ σ.n ∧ Builtin.Range.small a b 1 = true ∧ Builtin.Range.rangeSize a b 1 = ((N : Nat) : Int) ∧ N ≤ 1000 ∧ Comp w c' elt x scope cl K σ.n σ.m (fun i v => ∃ t, v = .int (a + (i : Nat)) t) N)
    (hclos : closureFor scope (envX c.cn sc c.L c.a c.ccd cl0) = pure cl) (hcell : ∀ y ∈ scope.names, y.2 ≠ .cell) (hkind : scope.kind = .function)
    (hnames : ∀ y ∈ scope.names, y.2 = .local → scope.names.lookup y.1 = some .local) (hx : scope.names.lookup x = some .local)
    (hs : ∀ x, foldedSetIterable iter c.env x = pure x) : Go w c σ (eval (.ListComp elt [⟨.Name x px, iter, [], 0⟩] scope pos) c.env) K := by
  rintro hh g dr os Q E ⟨mm, S, F, l, hl, N, hd⟩ q
  have a' : At w { c with any := true, fix := some mm } sc d := ⟨A.X, A.T, A.k, A.hd, A.hu, A.cs, A.ar⟩
  have S' : MSub (some mm) σ.m mm := ⟨S.1, fun f e => by cases e; rfl⟩
  refine wpX_of (LCg.ListComp_U F (by rw [A.env]; subst hcl; exact hclos) hcell hkind hnames hx ?_ hs)
  change wpX true (model pw w) c.A _ _ _ _
  refine h _ a' hcl hh g dr os _ E ⟨mm, S', F, l, hl, N, hd⟩ ?_
  rintro v σ' h' ⟨D, a, b, n₁, rfl, hm, hsm, hN, hz, J, hJ, turn, fin⟩ ⟨mm', S₂, F', l', hl', N', hd'⟩
  obtain rfl := S₂.2 mm rfl
  obtain ⟨l₁, ⟨t, u, v, rfl⟩, hsub⟩ := holds_mem hl' hm
  refine LCg.CompSrc.range rfl F' N' (N' _ (hsub _ (.head _))).1 hsm hN (by rw [sizeLine_eq]; omega) fun g' => ?_
  refine comp_rest (c := { c with any := true, fix := some mm }) (J := J) ⟨rfl, rfl, rfl⟩ rfl rfl S₂ (fun l hl => trivial) turn (comp_fin S₂ fin fun v σ' h' k o => ?_) _ 0 [] l' (Nat.zero_add _) rfl hJ hl' hd'
  obtain ⟨mm₂, S₃, r⟩ := o
  exact q v σ' h' k ⟨mm₂, ⟨S₃.1, fun f e => (S.2 f e).trans (S₃.2 _ rfl)⟩, r⟩
/-- a cell of a frame -/
noncomputable def cellR (D : Addr) (v : Option Value) : Res := fun l => ∃ o, l = [(D, o)] ∧ o.data = .cell v
theorem go_freeR {D C : Addr} {x : Str} {v : Value} {pos : Pos} {scope : Scope} {cl0 cl : List (Str × Addr)} {K : Kt Value} (a : At w c sc d) (hcl : c.cl = cl0) (hm : cellR D (some v) ∈ n) (hc : cl.lookup x = some D) (k : K v ⟨τ, m, n⟩) (hk : scope.kind = .function) (hl : inC scope (envX c.cn sc c.L c.a c.ccd cl0) x .cell = true) : Go w c ⟨τ, m, n⟩ (eval (.Name x pos) (compEnvC scope cl C c.env)) K := go_val (fun _ _ _ _ _ _ o q => by
  obtain ⟨l, ⟨ob, rfl, e⟩, N⟩ := own_has o hm
  rw [a.env]
  subst hcl
  exact lcf_cell N hc (.head _) e q hk (inC_of hl).1 (inC_of hl).2) k
theorem go_builtinR {σ : St} {C : Addr} {x : Str} {v : Value} {pos : Pos} {scope : Scope} {cl : List (Str × Addr)} {K : Kt Value} (a : At w c sc d) (e : nsIn (Mine.hd.heap_39 w.params) mainGlobals x = some none) (hv : bootBuiltins x = some v) (hn : x ≠ "__name__") (k : K v σ) (hk : scope.kind = .function) (hl : inC scope (c.at sc) x .globalImplicit = true) :
    Go w c σ (eval (.Name x pos) (compEnvC scope cl C c.env)) K := go_val (fun _ _ _ _ _ _ o q => by
  rw [a.env]
  exact LCgL.ld_built o.choose_spec.2.1 a.X a.T e hv hn q rfl rfl hk (inC_of hl).1 (inC_of hl).2) k
theorem holds_cells {cm : Str → Option Value} {cs : List (Str × Addr)} {cells : Led} (Y : CellsAre cm cs cells) : Holds (cs.map fun y => cellR y.2 (cm y.1)) cells := by
  induction Y with
  | nil => rfl
  | cons h _ ih => exact ⟨[_], _, rfl, ⟨_, rfl, h⟩, ih⟩
theorem holds_append : ∀ {n n' : List Res} {l l' : Led}, Holds n l → Holds n' l' → Holds (n ++ n') (l ++ l')
  | [], _, l, l', h, h' => by cases h; exact h'
  | r :: n, _, _, l', ⟨a, b, e, ha, hb⟩, h' => ⟨a, b ++ l', by rw [e, List.append_assoc], ha, holds_append hb h'⟩
theorem cells_addr {cm : Str → Option Value} {cs : List (Str × Addr)} {cells : Led} (Y : CellsAre cm cs cells) : cells.map (·.1) = cs.map (·.2) := by
  induction Y with
  | nil => rfl
  | cons h _ ih => exact congrArg _ ih
end
end Mine

end

-- G8
section
open PySem PySem.W PySem.Calls PyProof.Rows
open Sem (wp)
namespace Mine
section
variable {α β : Type} {w : World} {c : Cx} {τ : Nat} {m : Map} {n n' : List Res} {sc : Scope} {d : Nat}
theorem lookup_map {f : Str → Option Value} : ∀ {mp : Map}, mp.map (fun y => f y.1) = mp.map (fun y => some y.2) → ∀ x v, mp.lookup x = some v → f x = some v
  | [], _, x, v, e => by cases e
  | (y, u) :: mp, h, x, v, e => by
    rw [List.lookup_cons] at e
    have h1 : f y = some u := by have := congrArg List.head? h; simpa using this
    have h2 : mp.map (fun y => f y.1) = mp.map (fun y => some y.2) := by have := congrArg List.tail h; simpa using this
    by_cases hy : x = y
    · subst hy
      simp only [beq_self_eq_true] at e
      rw [h1]; exact e
    · have : (x == y) = false := beq_eq_false_iff_ne.mpr hy
      rw [this] at e
      exact lookup_map h2 x v e
/-- a def of the program with cells called -/
theorem go_defC {f : Addr} {name qual : Str} {params : Arguments} {body : List Stmt} {scope : Scope} {dV kV doc pm cdv ct oc : Value} {an od : Option Addr} {osl : Array (Option Value)} {vs : List Value} {mp binds : Map} {cs : Addr → List (Str × Addr)} {rs : Addr → List Res} {K : Kt Value}
    (a : At w c sc (d + 1)) (ho : (Mine.hd.heap_39 w.params).lookup f = some ⟨oc, od, .func (fnOf name qual params body scope dV kV doc pm an cdv ct), osl⟩) (hcd : codeIn (Mine.hd.heap_39 w.params) cdv qual = true)
    (hb : bindArgs (fnOf name qual params body scope dV kV doc pm an cdv ct) ⟨vs, []⟩ = pure binds)
    (h : ∀ c' τ L', At w c' scope d → c'.fix = none → c'.any = true → c'.cl = cs L' → c'.arg = c.arg → Go w c' ⟨τ, mp, rs L' ++ n⟩ (execs body c'.env) fun fl σ => Out K m fl σ)
    (hcs : ∀ L', cellsFrom (L' + 1) scope.names [] = cs L') (hrs : ∀ L', (cs L').map (fun y => cellR y.2 (bindC (envOfC qual scope L' f cdv).kindOf binds (fun _ => none) y.1)) = rs L')
    (hmp : ∀ L', mp.map (fun y => bindL (envOfC qual scope L' f cdv).kindOf binds (fun _ => none) y.1) = mp.map (fun y => some y.2)) (hcn : ∀ L', ((cs L').map (·.2)).Nodup ∧ ∀ a ∈ (cs L').map (·.2), L' < a)
    (hkind : (binds.all fun y => scope.names.lookup y.1 == some .local || scope.names.lookup y.1 == some .cell) = true) (hnd : ((cellsFrom 0 scope.names []).map (·.1)).Nodup)
    (hco : scope.isCoroutine = false) (hgen : scope.isGenerator = false) (hk : scope.kind = .function) : Go w c ⟨τ, m, n⟩ (call (.ref f) vs) K := by
  rintro hh gg dr os Q E ⟨mm, S, F, l, hl, N, hd⟩ q
  have hroom : c.A.depth < recursionLimit := by have := a.hd; show c.dp < recursionLimit; omega
  refine wpX_of (wpAny_call (enter_subCF (small := l) F a.X N (fun _ hp => hp) a.T ho hcd hroom (BindsTo.of_eq hb) hkind hnd (fun g L' h₁ tk cells FG F' N' Y X' T' _ hlt => ?_) hco hgen hk))
  have a' : At w { c with any := true, fix := none, dp := c.dp + 1, un := c.un + 3, cn := qual, cs := scope, L := L', a := f, ccd := cdv, cl := cellsFrom (L' + 1) scope.names [], outer := c.env :: c.outer, h₀ := g } scope d :=
    ⟨X', T', hk, by have := a.hd; show c.dp + 1 + d < _; omega, by have := a.hu; show c.un + 3 + (8 * d + 200) < _; omega, rfl, a.arOn FG.keep⟩
  have hd' : ((cells ++ l).map (·.1)).Nodup := by
    rw [List.map_append, cells_addr Y, hcs]
    refine List.nodup_append.mpr ⟨(hcn L').1, hd, fun x hx y hy e => ?_⟩
    subst e
    obtain ⟨p, hp, e⟩ := List.mem_map.mp hy
    exact Nat.lt_asymm ((hcn L').2 _ hx) (e ▸ hlt p hp)
  refine h _ tk L' a' rfl rfl (hcs L') rfl h₁ gg dr os _ _ ⟨_, ⟨lookup_map (hmp L'), fun _ e => by cases e⟩, F', _, holds_append (by rw [← hrs L', ← hcs L']; exact holds_cells Y) hl, N', hd'⟩ fun fl σ' h' k o' => ?_
  obtain ⟨mm₂, S₂, F₂, l₂, hl₂, N₂, hd₂⟩ := o'
  refine leaveK_ F₂ N₂ fun F₃ N₃ _ => ?_
  obtain ⟨n'', hs, k⟩ := k
  exact q (retOf fl) ⟨σ'.τ, m, n''⟩ h' k (own_less hs ⟨mm, S, F₃, l₂, hl₂, N₃, hd₂⟩)
theorem go_pow {x y : Int} {t u : Tok} {K : Kt Value} (hn : 0 ≤ y) (hn2 : y ≤ 1000000) (ha : x.natAbs < 2 ^ 64) (k : K (.int (x ^ y.toNat) τ) ⟨.succ τ, m, n⟩) : Go w c ⟨τ, m, n⟩ (binaryOp .Pow (.int x t) (.int y u)) K := go_val (fun _ _ _ _ _ _ _ q => pow_int_small hn hn2 ha q) k
-- octets
theorem go_methBytes {v : Value} {ks : List Int} {σ : St} {pl : Sem Bool} {K : Kt (Value × List Value)} (hv : IsB v ks) (k : K (.builtin "bytes.join", [v]) σ) : Go w c σ (getMethod v (Str.ofString "join") pl) K :=
  go_val (fun _ _ _ _ _ _ _ q => by
    obtain ⟨b, t, rfl, _⟩ := hv
    exact join_method q) k
inductive BsAre : List Value → List (List Int) → Prop
  | nil : BsAre [] []
  | cons {v : Value} {k : List Int} {vs : List Value} {ks : List (List Int)} : IsB v k → BsAre vs ks → BsAre (v :: vs) (k :: ks)
theorem BsAre.parts {vs : List Value} {ks : List (List Int)} (h : BsAre vs ks) : ∃ bs : List (Array UInt8 × Tok), vs = bs.map (fun p => Value.bytes p.1 p.2) ∧ bs.flatMap (fun p => KBw.bInts p.1) = ks.flatten ∧ bs.length = vs.length := by
  induction h with
  | nil => exact ⟨[], rfl, rfl, rfl⟩
  | cons hv _ ih =>
    obtain ⟨b, t, rfl, rfl⟩ := hv
    obtain ⟨bs, rfl, e, hl⟩ := ih
    exact ⟨(b, t) :: bs, rfl, by rw [List.flatMap_cons, e, List.flatten_cons], by simp⟩
theorem BsAre.snoc {vs : List Value} {ks : List (List Int)} {v : Value} {k : List Int} (h : BsAre vs ks) (hv : IsB v k) : BsAre (vs ++ [v]) (ks ++ [k]) := by
  induction h with
  | nil => exact .cons hv .nil
  | cons h1 _ ih => exact .cons h1 ih
theorem go_join {D : Addr} {v : Value} {ys : List Value} {ks : List (List Int)} {K : Kt Value} (hv : IsB v []) (hm : lstV D ys ∈ n) (hy : BsAre ys ks) (h1 : ys.length ≠ 1) (hz : ks.flatten.length ≤ 16777216) (k : ∀ v τ, IsB v ks.flatten → K v ⟨τ, m, n⟩) :
    Go w c ⟨τ, m, n⟩ (call (.builtin "bytes.join") [v, .ref D] []) K := go_any fun h' _ _ _ Q E o q => by
  obtain ⟨b, t, rfl, hb⟩ := hv
  obtain rfl : b = #[] := by
    have : b.size = 0 := by rw [← KBw.ints_length, hb]; rfl
    exact Array.eq_empty_of_size_eq_zero this
  obtain ⟨bs, rfl, e, hl⟩ := hy.parts
  obtain ⟨a, ⟨kk, rfl⟩, N⟩ := own_has o hm
  exact join_K N (.head _) (by rw [hl]; exact h1) e hz fun b t k' hb => q _ k' m n h' (k _ _ ⟨_, _, rfl, hb⟩) o
theorem go_bytesV {D : Addr} {ys : List Value} {ks : List Int} {K : Kt Value} (hm : lstV D ys ∈ n) (hi : IntsAre ys ks) (hr : KBa.In ks) (hz : ks.length ≤ 16777216) (k : ∀ v τ, IsB v ks → K v ⟨τ, m, n⟩) :
    Go w c ⟨τ, m, n⟩ (call (.type "bytes") [.ref D] []) K :=
  go_any fun _ _ _ _ Q E o q => by
    obtain ⟨a, ⟨kk, rfl⟩, N'⟩ := own_has o hm
    obtain ⟨mm, S, F, l, hl, N, hd⟩ := o
    exact KBa.make_K F N rfl ⟨_, (N' _ (.head _)).1, rfl, kk, rfl⟩ hi hr hz fun h' t' k' F' N' _ => q _ k' m n h' (k _ _ ⟨_, _, rfl, KBa.ints_make hr⟩) ⟨mm, S, F', l, hl, N', hd⟩
-- octets and numbers
theorem little_four {x : Int} : (KTBy.little 4 x).reverse = four x := by
  first | rfl | (unfold four; simp [KTBy.little])
theorem go_methTo {x : Int} {t : Tok} {σ : St} {pl : Sem Bool} {K : Kt (Value × List Value)} (k : K (.builtin "int.to_bytes", [.int x t]) σ) : Go w c σ (getMethod (.int x t) (Str.ofString "to_bytes") pl) K :=
  go_val (fun _ _ _ _ _ _ _ q => KTBy.method q) k
theorem go_toBytes {x : Int} {t u v : Tok} {K : Kt Value} (h0 : 0 ≤ x) (h1 : x < 4294967296) (k : ∀ v τ, IsB v (four x) → K v ⟨τ, m, n⟩) : Go w c ⟨τ, m, n⟩ (call (.builtin "int.to_bytes") [.int x t, .int 4 u, .str (Str.ofString "big") v] []) K :=
  go_any fun h' _ _ _ Q E o q => KTBy.to_big (k := 4) (B := 4294967296) (by decide) (by decide) h0 h1 fun b t' k' e _ => q _ k' m n h' (k _ _ ⟨_, _, rfl, e.trans little_four⟩) o
theorem go_methFrom {pl : Sem Bool} {K : Kt (Value × List Value)} (a : At w c sc d) (k : ∀ D, K (.ref D, []) ⟨.succ τ, m, ob D KFB.bound :: n⟩)
    (e : findCls (Mine.hd.heap_39 w.params) (.type "int") (.type "type") (Str.ofString "from_bytes") = some (.get (.builtin "classmethod_descriptor.__get__") (.builtin "int.from_bytes") .none (.type "int"))) : Go w c ⟨τ, m, n⟩ (getMethod (.type "int") (Str.ofString "from_bytes") pl) K :=
  go_any fun hh _ _ _ Q E ⟨mm, S, F, l, hl, N, hd⟩ q => KFB.getm F N a.X e fun x h' F' N' hlt => q _ _ m _ h' (k x) ⟨mm, S, F', _, ⟨_, l, rfl, rfl, hl⟩, N', List.nodup_cons.mpr ⟨fun hm => by
    obtain ⟨p, hp, e⟩ := List.mem_map.mp hm
    exact Nat.lt_irrefl _ (e ▸ hlt p hp), hd⟩⟩
theorem go_callWithF {σ : St} {pos : Pos} {D : Addr} {first : List Value} {es : List Expr} {K : Kt Value} (h : Go w c σ (PySem.spliced (backTo pos (starEach es ev))) fun vs σ => ob D KFB.bound ∈ σ.n ∧ Go w c σ (call (.ref D) (first ++ vs) []) K)
    (hplain : (backTo pos (starEach es ev)).any (·.1) = false) : Go w c σ (callWith pos (.ref D) first (backTo pos (starEach es ev)) []) K :=
  go_callWith_at (h.mono fun vs σ h => ⟨fun hh o => ⟨.machine, .inr (.inl rfl), by
    unfold keeperOf
    refine (Looks.ld (own_ob o h.1)).andThen ?_
    simp only [KFB.bound, show (Value.type "builtin_function_or_method" != Value.type "method") = true by decide, show (Value.type "builtin_function_or_method" == Value.type "builtin_function_or_method" || Value.type "builtin_function_or_method" == Value.type "method-wrapper") = true by decide, if_true]
    exact .now⟩, h.2⟩) hplain
theorem go_fromBig {D : Addr} {v : Value} {u : Tok} {ks : List Int} {K : Kt Value} (hm : ob D KFB.bound ∈ n) (hv : IsB v ks) (hl : ks.length ≤ 8) (k : ∀ t τ, K (.int (KFB.value ks) t) ⟨τ, m, n⟩) : Go w c ⟨τ, m, n⟩ (call (.ref D) [v, .str (Str.ofString "big") u] []) K :=
  go_any fun h' _ _ _ Q E o q => by
    obtain ⟨b, t, rfl, hb⟩ := hv
    obtain ⟨a, e, N⟩ := own_has o hm
    subst e
    exact KFB.call_big N (.head _) hb hl fun t' k' => q _ k' m n h' (k _ _) o
-- what a comprehension draws from
theorem comp_R {elt : Expr} {x : Str} {scope : Scope} {cl : List (Str × Addr)} {K : Kt Value} {D : Addr} {a b : Int} (N : Nat) (J : List Value → Prop) (hm : rng D a b 1 ∈ n) (hs : Builtin.Range.small a b 1 = true) (hN : Builtin.Range.rangeSize a b 1 = (N : Int)) (hz : N ≤ 1000) (h0 : J [])
    (turn : ∀ (i : Nat) τ t r C ys, i < N → J ys → ys.length = i → Reads r C x (.int (a + (i : Int)) t) → Go w c ⟨τ, m, r :: n⟩ (eval elt (compEnvC scope cl C c.env)) (Elt J ys n r)) (fin : ∀ D τ ys, J ys → ys.length = N → K (.ref D) ⟨τ, m, lstV D ys :: n⟩) :
    ∃ D' a b N, Value.ref D = .ref D' ∧ rng D' a b 1 ∈ (St.mk τ m n).n ∧ Builtin.Range.small a b 1 = true ∧ Builtin.Range.rangeSize a b 1 = ((N : Nat) : Int) ∧ N ≤ 1000 ∧ Comp w c elt x scope cl K (St.mk τ m n).n (St.mk τ m n).m (fun i v => ∃ t, v = .int (a + (i : Nat)) t) N :=
  ⟨D, a, b, N, rfl, hm, hs, hN, hz, J, h0, fun i τ v r C ys hi ⟨t, e⟩ hJ hl hr => turn i τ t r C ys hi hJ hl (e ▸ hr), fin⟩
theorem comp_L {elt : Expr} {x : Str} {scope : Scope} {cl : List (Str × Addr)} {K : Kt Value} {D : Addr} {vs : List Value} {kk : Nat} (J : List Value → Prop) (hm : ob D (listOf vs.toArray kk) ∈ n) (hz : vs.length ≤ 1000) (h0 : J [])
    (turn : ∀ (i : Nat) τ v r C ys, i < vs.length → vs[i]? = some v → J ys → ys.length = i → Reads r C x v → Go w c ⟨τ, m, r :: n⟩ (eval elt (compEnvC scope cl C c.env)) (Elt J ys n r)) (fin : ∀ D τ ys, J ys → ys.length = vs.length → K (.ref D) ⟨τ, m, lstV D ys :: n⟩) :
    ∃ D', ∃ (vs : List Value), ∃ k, Value.ref D = .ref D' ∧ ob D' (listOf vs.toArray k) ∈ (St.mk τ m n).n ∧ vs.length ≤ 1000 ∧ Comp w c elt x scope cl K (St.mk τ m n).n (St.mk τ m n).m (fun i v => vs.toArray[i]? = some v) vs.length :=
  ⟨D, vs, kk, rfl, hm, hz, J, h0, fun i τ v r C ys hi e hJ hl hr => turn i τ v r C ys hi (by simpa using e) hJ hl hr, fin⟩
theorem comp_T {elt : Expr} {x : Str} {scope : Scope} {cl : List (Str × Addr)} {K : Kt Value} {D : Addr} {vs : List Value} (J : List Value → Prop) (hm : ob D (tupO vs) ∈ n) (hz : vs.length ≤ 1000) (h0 : J [])
    (turn : ∀ (i : Nat) τ v r C ys, i < vs.length → vs[i]? = some v → J ys → ys.length = i → Reads r C x v → Go w c ⟨τ, m, r :: n⟩ (eval elt (compEnvC scope cl C c.env)) (Elt J ys n r)) (fin : ∀ D τ ys, J ys → ys.length = vs.length → K (.ref D) ⟨τ, m, lstV D ys :: n⟩) :
    ∃ D', ∃ (vs : List Value), Value.ref D = .ref D' ∧ ob D' (tupO vs) ∈ (St.mk τ m n).n ∧ vs.length ≤ 1000 ∧ Comp w c elt x scope cl K (St.mk τ m n).n (St.mk τ m n).m (fun i v => vs.toArray[i]? = some v) vs.length :=
  ⟨D, vs, rfl, hm, hz, J, h0, fun i τ v r C ys hi e hJ hl hr => turn i τ v r C ys hi (by simpa using e) hJ hl hr, fin⟩
theorem elt_of {J : List Value → Prop} {ys : List Value} {r : Res} {y : Value} {n1 n2 : List Res} (hJ : J (ys ++ [y])) (hp : Pick r n2 n1) (hl : Less n n1) : Elt J ys n r y ⟨τ, m, n2⟩ := ⟨hJ, n1, hp, hl⟩
theorem ints_take {ys : List Value} {ks : List Int} {v : Int} {t : Tok} (h : IntsAre ys (ks.take ys.length)) (e : ks[ys.length]? = some v) : IntsAre (ys ++ [.int v t]) (ks.take (ys ++ [Value.int v t]).length) := by
  rw [List.length_append, List.length_singleton, List.take_add_one, e]
  exact ints_snoc h
theorem bs_take {ys : List Value} {ks : List (List Int)} {v : Value} {k : List Int} (h : BsAre ys (ks.take ys.length)) (hv : IsB v k) (e : ks[ys.length]? = some k) : BsAre (ys ++ [v]) (ks.take (ys ++ [v]).length) := by
  rw [List.length_append, List.length_singleton, List.take_add_one, e]
  exact h.snoc hv
theorem ints_get {vs : List Value} {ks : List Int} (h : IntsAre vs ks) : ∀ {i : Nat} {v : Value}, vs[i]? = some v → ∃ x t, v = .int x t ∧ ks[i]? = some x := by
  induction h with
  | nil => intro i v e; simp at e
  | cons x t _ ih =>
    intro i v e
    match i with
    | 0 => simp at e; exact ⟨x, t, e.symm, rfl⟩
    | i + 1 => exact ih (by simpa using e)
theorem go_openT {α : Type} {D : Addr} {ks : List Int} {t : Sem α} {K : Kt α} (h : ∀ vs, IntsAre vs ks → Go w c ⟨τ, m, ob D (tupO vs) :: n⟩ t K) : Go w c ⟨τ, m, tupI D ks :: n⟩ t K := by
  intro h' g dr os Q E o q
  obtain ⟨mm, S, F, l, ⟨a, b, e, ⟨vs, hi, ha⟩, hb⟩, N, hd⟩ := o
  exact h vs hi h' g dr os Q E ⟨mm, S, F, l, ⟨a, b, e, ha, hb⟩, N, hd⟩ q
theorem from_ok {D : Addr} {vs : List Value} {K : Kt Value} (hm : ob D KFB.bound ∈ n) (h : Go w c ⟨τ, m, n⟩ (call (.ref D) vs []) K) : ob D KFB.bound ∈ (St.mk τ m n).n ∧ Go w c ⟨τ, m, n⟩ (call (.ref D) ([] ++ vs) []) K := ⟨hm, h⟩
/-- how a turn of a while ends -/
noncomputable def WTurn (J : Nat → Map → List Res → Prop) (k : Nat) (f : Flow) (σ : St) : Prop := f = .next ∧ ∃ k' m' n', k' < k ∧ MapLess m' σ.m ∧ Less n' σ.n ∧ J k' m' n'
theorem wturn {J : Nat → Map → List Res → Prop} {k : Nat} {m' : Map} {n' : List Res} (k' : Nat) (hk : k' < k) (hm : MapLess m' m) (hn : Less n' n) (hJ : J k' m' n') : WTurn J k .next ⟨τ, m, n⟩ := ⟨rfl, k', m', n', hk, hm, hn, hJ⟩
theorem go_while {test : Expr} {body rest : List Stmt} {pos : Pos} {K : Kt Flow} (hf : c.any = true) (J : Nat → Map → List Res → Prop) (k₀ : Nat) (h0 : J k₀ m n)
    (turn : ∀ k τ m n, J k m n → Go w c ⟨τ, m, n⟩ (isTrue test c.env (eval test c.env)) fun b σ => if b = true then Go w c σ (execs body c.env) (WTurn J k) else Go w c σ (execs rest c.env) K) :
    Go w c ⟨τ, m, n⟩ (execs (.While test body [] pos :: rest) c.env) K := by
  refine go_seq fun h g dr os Q E o q => ?_
  refine wpX_of (wpAny_mono (E := fun _ _ => False) (Q := Q) (wpAny_While (codeAny_whileLoop (fun k s' => ∃ h₁ τ m n, s' = ⟨h₁, g, dr, τ, os⟩ ∧ Own c m n h₁ ∧ J k m n) ?_ k₀ ⟨h, τ, m, n, rfl, o, h0⟩)) (fun _ _ x => x) fun _ _ x => x.elim)
  rintro k s' ⟨h₁, τ₁, m₁, n₁, rfl, o₁, J₁⟩
  have T := turn k τ₁ m₁ n₁ J₁ h₁ g dr os (fun b s₂ => if b = true then wpAny (model pw w) c.A (execs body c.env) (fun f s₃ => f = .next ∧ ∃ k', k' < k ∧ ∃ h₁ τ m n, s₃ = ⟨h₁, g, dr, τ, os⟩ ∧ Own c m n h₁ ∧ J k' m n) (fun _ _ => False) s₂ else Q .next s₂) (fun _ _ => False) o₁ ?_
  · rw [hf] at T
    refine wpAny_mono T (fun b s₂ h₂ => ?_) fun _ _ x => x.elim
    cases b with
    | false =>
      simp only [Bool.false_eq_true, if_false] at h₂ ⊢
      exact wpAny_execs_nil h₂
    | true =>
      simp only [if_true] at h₂ ⊢
      refine wpAny_mono h₂ (fun f s₃ h₃ => ?_) fun _ _ x => x.elim
      obtain ⟨rfl, k', hk, r⟩ := h₃
      exact ⟨k', hk, r⟩
  · rintro b σ h₂ k₂ o₂
    cases b with
    | false =>
      simp only [Bool.false_eq_true, if_false] at k₂ ⊢
      exact q .next σ h₂ k₂ o₂
    | true =>
      simp only [if_true] at k₂ ⊢
      have := k₂ h₂ g dr os (fun f s₃ => f = .next ∧ ∃ k', k' < k ∧ ∃ h₁ τ m n, s₃ = ⟨h₁, g, dr, τ, os⟩ ∧ Own c m n h₁ ∧ J k' m n) (fun _ _ => False) o₂ ?_
      · rw [hf] at this
        exact this
      · rintro f σ' h₃ ⟨rfl, k', m', n', hk, hm, hn, hJ⟩ o₃
        exact ⟨rfl, k', hk, h₃, _, m', n', rfl, own_forget hm (own_less hn o₃), hJ⟩
-- several names at once
noncomputable def Asg2 (w : World) (c : Cx) (x y : Str) (rest : List Stmt) (K : Kt Flow) (v : Value) (σ : St) : Prop := ∃ D a b, v = .ref D ∧ ob D (tupO [a, b]) ∈ σ.n ∧ Go w c ⟨.succ (.succ σ.τ), (y, b) :: (x, a) :: σ.m, σ.n⟩ (execs rest c.env) K
noncomputable def Asg3 (w : World) (c : Cx) (x y z : Str) (rest : List Stmt) (K : Kt Flow) (v : Value) (σ : St) : Prop := ∃ D a b e, v = .ref D ∧ ob D (tupO [a, b, e]) ∈ σ.n ∧ Go w c ⟨.succ (.succ (.succ σ.τ)), (z, e) :: (y, b) :: (x, a) :: σ.m, σ.n⟩ (execs rest c.env) K
theorem asg2 {x y : Str} {rest : List Stmt} {K : Kt Flow} {D : Addr} {a b : Value} (hm : ob D (tupO [a, b]) ∈ n) (k : Go w c ⟨.succ (.succ τ), (y, b) :: (x, a) :: m, n⟩ (execs rest c.env) K) : Asg2 w c x y rest K (.ref D) ⟨τ, m, n⟩ := ⟨D, a, b, rfl, hm, k⟩
theorem asg3 {x y z : Str} {rest : List Stmt} {K : Kt Flow} {D : Addr} {a b e : Value} (hm : ob D (tupO [a, b, e]) ∈ n) (k : Go w c ⟨.succ (.succ (.succ τ)), (z, e) :: (y, b) :: (x, a) :: m, n⟩ (execs rest c.env) K) : Asg3 w c x y z rest K (.ref D) ⟨τ, m, n⟩ := ⟨D, a, b, e, rfl, hm, k⟩
theorem go_unpackN {D : Addr} {vs : List Value} {N : Nat} {K : Kt (List Value)} (hm : ob D (tupO vs) ∈ n) (hN : N = vs.length) (k : K vs ⟨τ, m, n⟩) : Go w c ⟨τ, m, n⟩ (unpackItems (.ref D) N none) K :=
  go_any fun h _ _ _ Q E o q => by
    have hb := own_ob o hm
    obtain ⟨mm, S, F, l, hl, N', hd⟩ := o
    exact unpackItemsN_ F N' ⟨_, hb, rfl, _, rfl⟩ rfl (by rw [hN]; simp) fun h' F' N'' => q _ _ m n h' k ⟨mm, S, F', l, hl, N'', hd⟩
theorem go_unpack {elts : List Expr} {kk : Nat} {pos : Pos} {D : Addr} {vs : List Value} {K : Kt Unit} (hm : ob D (tupO vs) ∈ n) (hn : (assignEach elts c.env).length = vs.length) (hstar : (assignEach elts c.env).findIdx? (·.1) = none)
    (k : Go w c ⟨τ, m, n⟩ (assignInOrder ((assignEach elts c.env).map (·.2)) vs) K) : Go w c ⟨τ, m, n⟩ (assign (.Tuple elts kk pos) c.env (.ref D)) K := by
  rw [PyProof.Rows.assign_Tuple]
  refine go_stand ?_
  unfold unpack
  rw [hn, hstar]
  exact go_bind (go_holding (go_unpackN hm rfl k))
theorem go_inOrder {f : Value → Sem Unit} {fs : List (Value → Sem Unit)} {v : Value} {vs : List Value} {K : Kt Unit} {σ : St} (h : Go w c σ (f v) fun _ σ => Go w c σ (assignInOrder fs vs) K) : Go w c σ (assignInOrder (f :: fs) (v :: vs)) K :=
  go_bind (go_holding h)
theorem go_asgName {x : Str} {p : Pos} {v : Value} {K : Kt Unit} (a : At w c sc d) (hx : c.fix = none) (k : K () ⟨.succ τ, (x, v) :: m, n⟩) (hl : isLoc sc x = true) : Go w c ⟨τ, m, n⟩ (assign (.Name x p) c.env v) K := by
  rw [PySem.assign_Name]
  exact go_stand (go_bindName a hx k hl)
theorem map_swap {x y : Str} {a b : Value} (h : x ≠ y) : ∀ z v, List.lookup z ((y, b) :: (x, a) :: m) = some v → List.lookup z ((x, a) :: (y, b) :: m) = some v := by
  intro z v e
  simp only [List.lookup_cons] at e ⊢
  by_cases h1 : z = y
  · subst h1
    have hz : (z == x) = false := beq_eq_false_iff_ne.mpr (Ne.symm h)
    simp only [hz, beq_self_eq_true] at e ⊢
    exact e
  · have hz : (z == y) = false := beq_eq_false_iff_ne.mpr h1
    simp only [hz] at e ⊢
    exact e
theorem go_assign2 {σ : St} {x y : Str} {px py tp : Pos} {kk : Nat} {value : Expr} {pos : Pos} {rest : List Stmt} {K : Kt Flow} (a : At w c sc d) (hx : c.fix = none) (h : Go w c σ (eval value c.env) (Asg2 w c x y rest K)) (hl : (isLoc sc x && isLoc sc y) = true)
    (hs : swapsWithSole [.Tuple [.Name x px, .Name y py] kk tp] value pos.line (c.at sc) = pure false) (hw : swappedStores [.Tuple [.Name x px, .Name y py] kk tp] value (c.at sc) = pure none) : Go w c σ (execs (.Assign [.Tuple [.Name x px, .Name y py] kk tp] value pos :: rest) c.env) K := by
  rw [Bool.and_eq_true] at hl
  refine go_seq ?_
  rw [exec_Assign, a.env, hs, hw, ← a.env]
  refine go_stand (go_bind (go_pure ?_))
  rw [if_neg (by decide)]
  refine go_bind (h.mono fun v σ h => go_bind (go_pure ?_))
  obtain ⟨D, u, v, rfl, hm, k⟩ := h
  show Go w c σ (do assignAll (.ref D) [assign (.Tuple [.Name x px, .Name y py] kk tp) c.env]; pure Flow.next) _
  refine go_bind ?_
  show Go w c σ (assign (.Tuple [.Name x px, .Name y py] kk tp) c.env (.ref D)) _
  exact go_unpack hm rfl rfl (go_inOrder (go_asgName a hx (go_inOrder (go_asgName a hx (go_pure (go_pure k)) hl.2)) hl.1))
theorem go_swap2 {σ : St} {x y : Str} {px py tp : Pos} {kk : Nat} {value : Expr} {pos : Pos} {rest : List Stmt} {K : Kt Flow} (a : At w c sc d) (hx : c.fix = none) (h : Go w c σ (eval value c.env) (Asg2 w c x y rest K)) (hl : (isLoc sc x && isLoc sc y && x != y) = true)
    (hs : swapsWithSole [.Tuple [.Name x px, .Name y py] kk tp] value pos.line (c.at sc) = pure false) (hw : swappedStores [.Tuple [.Name x px, .Name y py] kk tp] value (c.at sc) = pure (some [x, y])) : Go w c σ (execs (.Assign [.Tuple [.Name x px, .Name y py] kk tp] value pos :: rest) c.env) K := by
  simp only [Bool.and_eq_true, bne_iff_ne] at hl
  refine go_seq ?_
  rw [exec_Assign, a.env, hs, hw, ← a.env]
  refine go_stand (go_bind (go_pure ?_))
  rw [if_neg (by decide)]
  refine go_bind (h.mono fun v σ h => go_bind (go_pure ?_))
  obtain ⟨D, u, v, rfl, hm, k⟩ := h
  show Go w c σ (do rule "assign.swapped-stores"; let items ← unpackItems (.ref D) 2 none; assignInOrder [bindName c.env y, bindName c.env x] items.reverse; pure Flow.next) _
  refine go_bind (go_unit (fun _ _ _ _ _ h => wpAny_rule h) (go_bind (go_unpackN hm rfl ?_)))
  refine go_bind (go_inOrder (go_bindName a hx (go_inOrder (go_bindName a hx (go_pure (go_pure ?_)) hl.1.1)) hl.1.2))
  exact go_forget (map_swap hl.2) k
theorem go_zeros {v : Value} {x : Int} {t : Tok} {K : Kt Value} (hv : IsB v [0]) (k : ∀ v τ, IsB v (List.replicate (8 - x.fmod 8).toNat 0) → 1 ≤ 8 - x.fmod 8 → 8 - x.fmod 8 ≤ 8 → K v ⟨τ, m, n⟩) : Go w c ⟨τ, m, n⟩ (binaryOp .Mult v (.int (8 - x.fmod 8) t)) K := go_any fun h' _ _ _ Q E o q => by
  obtain ⟨b, t, rfl, hb⟩ := hv
  obtain rfl : b = #[0] := by
    have hb' : b.toList.map (fun c : UInt8 => ((c.toNat : Nat) : Int)) = [0] := hb
    obtain ⟨x, hl⟩ : ∃ x, b.toList = [x] := List.length_eq_one_iff.mp (by have := congrArg List.length hb'; simpa using this)
    rw [hl] at hb'
    have hx : x.toNat = 0 := by simpa using hb'
    have : x = 0 := UInt8.toNat_inj.mp hx
    rw [← Array.toArray_toList (xs := b), hl, this]
  exact zeros_mul8 fun b t' k' e h1 h2 => q _ k' m n h' (k _ _ ⟨_, _, rfl, e⟩ h1 h2) o
theorem ints2 {vs : List Value} {x y : Int} (h : IntsAre vs [x, y]) : ∃ t u, vs = [.int x t, .int y u] := by
  cases h with
  | cons _ t h => cases h with
    | cons _ u h => cases h with
      | nil => exact ⟨t, u, rfl⟩
/-- both ways of an if come to J, then the rest -/
noncomputable def Join (J : Map → List Res → Prop) (f : Flow) (σ : St) : Prop := f = .next ∧ ∃ m' n', MapLess m' σ.m ∧ Less n' σ.n ∧ J m' n'
theorem join_of {J : Map → List Res → Prop} {m' : Map} {n' : List Res} (hm : MapLess m' m) (hn : Less n' n) (hJ : J m' n') : Join J .next ⟨τ, m, n⟩ := ⟨rfl, m', n', hm, hn, hJ⟩
theorem go_ifJ {σ : St} {test : Expr} {body orelse rest : List Stmt} {pos : Pos} {K : Kt Flow} (J : Map → List Res → Prop)
    (h : Go w c σ (isTrue test c.env (eval test c.env)) fun b σ => if b = true then Go w c σ (execs body c.env) (Join J) else Go w c σ (execs orelse c.env) (Join J))
    (r : ∀ τ m n, J m n → Go w c ⟨τ, m, n⟩ (execs rest c.env) K) : Go w c σ (execs (.If test body orelse pos :: rest) c.env) K := by
  refine go_if (h.mono fun b σ h => ?_)
  have key : ∀ f σ, Join J f σ → Then w c rest K f σ := by
    rintro f σ ⟨rfl, m', n', hm, hn, hJ⟩
    exact go_forget hm (go_less hn (r _ _ _ hJ))
  cases b with
  | true => exact Go.mono h key
  | false => exact Go.mono h key
theorem expr_ok {σ : St} {v : Value} {rest : List Stmt} {K : Kt Flow} (hv : ∀ a, v ≠ .ref a) (h : Go w c σ (execs rest c.env) K) : (∀ a, v ≠ .ref a) ∧ Go w c σ (execs rest c.env) K := ⟨hv, h⟩
theorem go_listT {D : Addr} {ks : List Int} {K : Kt Value} (hm : tupI D ks ∈ n) (hz : ks.length ≤ 1000) (k : ∀ D', K (.ref D') ⟨τ, m, lstI D' ks :: n⟩) : Go w c ⟨τ, m, n⟩ (call (.type "list") [.ref D] []) K := go_any fun hh g dr os Q E ⟨mm, S, F, l, hl, N, hd⟩ q => by
  obtain ⟨a, ⟨vs, hi, rfl⟩, hsub⟩ := holds_mem hl hm
  exact kup_listOfT (zs := vs) F N (hsub _ (.head _)) (by simp) (fun D' kk h' F' N' hlt => q _ _ m _ h' (k D') ⟨mm, S, F', _, ⟨[(D', W.listOf vs.toArray kk)], l, rfl, ⟨vs, kk, hi, rfl⟩, hl⟩, N', List.nodup_cons.mpr ⟨fun hm => by
    obtain ⟨p, hp, e⟩ := List.mem_map.mp hm
    exact Nat.lt_irrefl _ (e ▸ hlt p hp), hd⟩⟩) (by rw [sizeLine_eq]; show vs.length ≤ _; rw [hi.length]; omega)
theorem iter_pick {r : Res} {n1 : List Res} {target : Expr} {body rest : List Stmt} {K : Kt Flow} {v : Value} (hp : Pick r n n1) (h : Iter w c target body rest K v ⟨τ, m, r :: n1⟩) : Iter w c target body rest K v ⟨τ, m, n⟩ := by
  unfold Iter at h ⊢
  exact go_pick hp h
-- a tuple of ints brought to the front for a call
theorem go_pick1o {f D : Addr} {vs : List Value} {ks : List Int} {n1 : List Res} {K : Kt Value} (hp : Pick (ob D (tupO vs)) n n1) (hi : IntsAre vs ks) (h : Go w c ⟨τ, m, tupI D ks :: n1⟩ (call (.ref f) [.ref D] []) K) : Go w c ⟨τ, m, n⟩ (call (.ref f) [.ref D] []) K :=
  go_pick hp (go_see (fun _ e => ⟨vs, hi, e⟩) h)
end
end Mine

end

-- G9
section
open PySem PySem.W PySem.Calls PyProof.Rows
open Sem (wp)
namespace Mine
noncomputable abbrev Fs := List (Str × Value)
/-- an object's dict by names alone -/
inductive Ents (w : World) : Fs → List DictEntry → Prop
  | nil : Ents w [] []
  | cons {x : Str} {v : Value} {t : Tok} {fs : Fs} {es : List DictEntry} : Ents w fs es → Ents w ((x, v) :: fs) (⟨PyData.keyHash w.params x, .str x t, v⟩ :: es)
theorem Ents.len {w : World} {fs : Fs} {es : List DictEntry} (h : Ents w fs es) : es.length = fs.length := by
  induction h with
  | nil => rfl
  | cons _ ih => rw [List.length_cons, List.length_cons, ih]
theorem Ents.find {w : World} {fs : Fs} {es : List DictEntry} (h : Ents w fs es) (x : Str) : (es.find? (·.key.isStr x)).map (·.val) = fs.lookup x := by
  induction h with
  | nil => rfl
  | @cons y v t fs es _ ih =>
    rw [List.find?_cons, List.lookup_cons]
    show Option.map _ (match (y == x) with | true => _ | false => _) = _
    by_cases e : y = x
    · subst e; simp
    · have e1 : (y == x) = false := beq_eq_false_iff_ne.mpr e
      have e2 : (x == y) = false := beq_eq_false_iff_ne.mpr (Ne.symm e)
      rw [e1, e2]; exact ih
theorem Ents.plain {w : World} {fs : Fs} {es : List DictEntry} (h : Ents w fs es) : es.any (·.refKey) = false := by
  induction h with
  | nil => rfl
  | cons _ ih => rw [List.any_cons, ih]; rfl
theorem Ents.get {w : World} {fs : Fs} {es : List DictEntry} (h : Ents w fs es) {x : Str} {o : Option Value} (hx : fs.lookup x = o) : getL x es = some o := by
  have := h.find x
  rw [hx] at this
  unfold getL
  cases e : es.find? (·.key.isStr x) with
  | none => rw [e] at this; dsimp only; rw [h.plain, ← this]; rfl
  | some d => rw [e] at this; dsimp only; rw [← this]; rfl
/-- the name x made v: where it stands, or behind all others -/
inductive PutAt (x : Str) (v : Value) : Fs → Fs → Prop
  | new : PutAt x v [] [(x, v)]
  | head {u : Value} {fs : Fs} : PutAt x v ((x, u) :: fs) ((x, v) :: fs)
  | tail {y : Str} {u : Value} {fs fs' : Fs} (h : (y == x) = false) : PutAt x v fs fs' → PutAt x v ((y, u) :: fs) ((y, u) :: fs')
theorem PutAt.ents {w : World} {x : Str} {v : Value} {t : Tok} {fs fs' : Fs} (p : PutAt x v fs fs') : ∀ {es : List DictEntry}, Ents w fs es → Ents w fs' (putL x (PyData.keyHash w.params x) (.str x t) v es) := by
  induction p with
  | new => intro es h; cases h; exact .cons .nil
  | head =>
    intro es h
    cases h with
    | cons h =>
      unfold putL
      rw [if_pos (by show (x == x) = true; exact beq_self_eq_true x)]
      exact .cons h
  | tail hy _ ih =>
    intro es h
    cases h with
    | cons h =>
      unfold putL
      rw [if_neg (by rw [Bool.not_eq_true]; exact hy)]
      exact .cons (ih h)
theorem PutAt.le {x : Str} {v : Value} {fs fs' : Fs} (p : PutAt x v fs fs') : fs'.length ≤ fs.length + 1 := by
  induction p with
  | new => exact Nat.le_refl _
  | head => exact Nat.le_succ _
  | tail _ _ ih => exact Nat.succ_le_succ ih
/-- an object of the class C -/
noncomputable def inst (w : World) (a C : Addr) (fs : Fs) : Res := fun l => ∃ d es k, Ents w fs es ∧ fs.length ≤ 20 ∧ l = [(a, instObj C d), (d, dictOf es k)]
/-- attributes of C's instances stand in their dicts alone -/
noncomputable def clsOk (K : Frag) (C : Addr) (xs : List Str) : Bool := plainGet K C "" && hasDictIn K C && (findIn K (.ref C) "__setattr__" == some (some (.builtin "object.__setattr__"))) && plainOver K C && xs.all fun x => findIn K (.ref C) x == some none
structure ClsOk (K : Frag) (C : Addr) (xs : List Str) : Prop where
  g : ∀ x, plainGet K C x = true
  h : hasDictIn K C = true
  s : findIn K (.ref C) "__setattr__" = some (some (.builtin "object.__setattr__"))
  p : plainOver K C = true
  n : ∀ x ∈ xs, findIn K (.ref C) x = some none
theorem clsOk_of {K : Frag} {C : Addr} {xs : List Str} (h : clsOk K C xs = true) : ClsOk K C xs := by
  unfold clsOk at h
  simp only [Bool.and_eq_true] at h
  obtain ⟨⟨⟨⟨h1, h2⟩, h3⟩, h4⟩, h5⟩ := h
  exact ⟨fun _ => h1, h2, beq_iff_eq.mp h3, h4, fun x hx => beq_iff_eq.mp (List.all_eq_true.mp h5 x hx)⟩
/-- octets that can be changed; a dict -/
noncomputable def baR (D : Addr) (ks : List Int) : Res := fun l => ∃ b, KBw.bInts b = ks ∧ l = [(D, baObj b)]
noncomputable def dct0 (w : World) (D : Addr) : Res := fun l => ∃ o, Obj.IsDictOf (PySem.strKind pw w) o [] ∧ Obj.IsDictOf (PySem.intKind pw w) o [] ∧ (D == sysModules) = false ∧ l = [(D, o)]
noncomputable def dctS (w : World) (D : Addr) (kvs : List (Str × Value)) : Res := fun l => ∃ o, Obj.IsDictOf (PySem.strKind pw w) o kvs ∧ (D == sysModules) = false ∧ l = [(D, o)]
noncomputable def dctI (w : World) (D : Addr) (kvs : List (Int × Value)) : Res := fun l => ∃ o, Obj.IsDictOf (PySem.intKind pw w) o kvs ∧ (D == sysModules) = false ∧ l = [(D, o)]
theorem dct_S {w : World} {D : Addr} {l : Led} (h : dct0 w D l) : dctS w D [] l := let ⟨o, h1, _, h3, h4⟩ := h; ⟨o, h1, h3, h4⟩
theorem dct_I {w : World} {D : Addr} {l : Led} (h : dct0 w D l) : dctI w D [] l := let ⟨o, _, h2, h3, h4⟩ := h; ⟨o, h2, h3, h4⟩
section
variable {α β : Type} {w : World} {c : Cx} {ev : Env} {τ : Nat} {m : Map} {n n' n1 : List Res} {sc : Scope} {d : Nat}
theorem own_new {h' : Heap} {mm : Str → Option Value} {l : Led} {D : Addr} {o : Obj} {r : Res} (S : MSub c.fix m mm) (F' : Fr c.h₀ c.L h' mm) (hl : Holds n l) (N' : News c.h₀ c.L h' ((D, o) :: l)) (hd : (l.map (·.1)).Nodup) (hlt : ∀ p ∈ l, p.1 < D) (hr : r [(D, o)]) : Own c m (r :: n) h' :=
  ⟨mm, S, F', _, ⟨[(D, o)], l, rfl, hr, hl⟩, N', List.nodup_cons.mpr ⟨fun hm => by
    obtain ⟨p, hp, e⟩ := List.mem_map.mp hm
    exact Nat.lt_irrefl _ (e ▸ hlt p hp), hd⟩⟩
/-- one object of a resource turned, at the front -/
theorem own_turn {h' : Heap} {mm : Str → Option Value} {b : Led} {D : Addr} {o o' : Obj} {r : Res} (S : MSub c.fix m mm) (F' : Fr c.h₀ c.L h' mm) (hb : Holds n b) (N' : News c.h₀ c.L h' ([(D, o')] ++ b)) (hd : (([(D, o)] ++ b).map (·.1)).Nodup) (hr : r [(D, o')]) : Own c m (r :: n) h' :=
  ⟨mm, S, F', _, ⟨_, b, rfl, hr, hb⟩, N', hd⟩
theorem upd_front {D : Addr} {o o' : Obj} {b : Led} (hd : (([(D, o)] ++ b).map (·.1)).Nodup) : Upd D o o' ([(D, o)] ++ b) ([(D, o')] ++ b) :=
  .head fun p hp e => (List.nodup_cons.mp hd).1 (by show D ∈ _; rw [← e]; exact List.mem_map_of_mem (f := (·.1)) hp)
theorem updF_front {D : Addr} {o : Obj} {b : Led} (hd : (([(D, o)] ++ b).map (·.1)).Nodup) : UpdF D o ([(D, o)] ++ b) (fun o' => [(D, o')] ++ b) :=
  .head fun p hp e => (List.nodup_cons.mp hd).1 (by show D ∈ _; rw [← e]; exact List.mem_map_of_mem (f := (·.1)) hp)
-- attributes
theorem go_attr {σ : St} {o : Expr} {x : Str} {pos : Pos} {K : Kt Value} (h : Go w c σ (eval o ev) fun ov σ => Go w c σ (getAttr ov x true) K)
    (he : attributeBase o x ev (eval o ev) = eval o ev) : Go w c σ (eval (.Attribute o x pos) ev) K := by
  show Go w c σ (do let ov ← attributeBase o x ev (eval o ev); standAt pos.atName; let r ← holding [ov] (getAttr ov x true); letTemporaryGo o ov r; pure r) K
  rw [he]
  exact go_bind (h.mono fun ov σ h => go_stand (go_bind (go_holding (h.mono fun r σ k => go_bind (go_let (go_pure k))))))
theorem go_getInst {a C : Addr} {fs : Fs} {x : Str} {v : Value} {expr : Bool} {xs : List Str} {K : Kt Value} (A : At w c sc d) (hm : inst w a C fs ∈ n) (hC : clsOk (Mine.hd.heap_39 w.params) C xs = true) (hv : fs.lookup x = some v) (k : K v ⟨.succ τ, m, n⟩) (hx : xs.elem x = true) (hh : handedIn v = true) :
    Go w c ⟨τ, m, n⟩ (getAttr (.ref a) x expr) K := go_val (fun _ _ _ _ _ _ o q => by
  obtain ⟨l, ⟨d, es, k, E, _, rfl⟩, N⟩ := own_has o hm
  have C' := clsOk_of hC
  exact get_own o.choose_spec.2.1 A.X (InstAt.of_news N (.head _) (.tail _ (.head _))) (C'.g x) C'.h (C'.n x (List.elem_iff.mp hx)) rfl (E.get hv) hh q) k
theorem go_methInst {a C f : Addr} {fs : Fs} {x : Str} {pl : Sem Bool} {xs : List Str} {K : Kt (Value × List Value)} (A : At w c sc d) (hm : inst w a C fs ∈ n) (hC : clsOk (Mine.hd.heap_39 w.params) C xs = true) (hf : findIn (Mine.hd.heap_39 w.params) (.ref C) x = some (some (.ref f))) (ht : isFn (Mine.hd.heap_39 w.params) (.ref f) = true) (k : K (.ref f, [.ref a]) ⟨τ, m, n⟩) (hv : fs.lookup x = none) :
    Go w c ⟨τ, m, n⟩ (getMethod (.ref a) x pl) K := go_val (fun _ _ _ _ _ _ o q => by
  obtain ⟨l, ⟨d, es, k, E, _, rfl⟩, N⟩ := own_has o hm
  have C' := clsOk_of hC
  exact method_inst o.choose_spec.2.1 A.X (InstAt.of_news N (.head _) (.tail _ (.head _))) (C'.g x) hf ht (E.get hv) q) k
theorem go_setInst {a C : Addr} {fs fs' : Fs} {x : Str} {v : Value} {xs : List Str} {K : Kt Unit} (A : At w c sc d) (hp : Pick (inst w a C fs) n n1) (hC : clsOk (Mine.hd.heap_39 w.params) C xs = true) (P : PutAt x v fs fs') (k : K () ⟨.succ (.succ τ), m, inst w a C fs' :: n1⟩) (hx : xs.elem x = true) (hz : Nat.ble fs'.length 20 = true) :
    Go w c ⟨τ, m, n⟩ (setAttr (.ref a) x v) K := go_pick hp (go_head fun hh g dr os Q E mm l1 b S F ha hb N hd q => by
  obtain ⟨d, es, kk, He, hz0, rfl⟩ := ha
  have C' := clsOk_of hC
  have hf := C'.n x (List.elem_iff.mp hx)
  have ht : takerIn (Mine.hd.heap_39 w.params) C x = some none := by unfold takerIn; rw [hf]; rfl
  have hd1 : a ≠ d ∧ ∀ p ∈ b, p.1 ≠ d := by
    have := List.nodup_cons.mp hd
    have h2 := List.nodup_cons.mp this.2
    exact ⟨fun e => this.1 (by rw [e]; exact .head _), fun p hp e => h2.1 (by rw [← e]; exact List.mem_map_of_mem (f := (·.1)) hp)⟩
  have U : ∀ o', Upd d (dictOf es kk) o' ([(a, instObj C d), (d, dictOf es kk)] ++ b) ([(a, instObj C d), (d, o')] ++ b) := fun o' => .tail hd1.1 (.head hd1.2)
  have E' := P.ents (t := τ + 1) He
  have hle := Nat.le_of_ble_eq_true hz
  refine set_dict (s := ⟨hh, g, dr, τ, os⟩) F A.X N (InstAt.of_news N (.head _) (.tail _ (.head _))) rfl C'.s C'.p ht C'.h (by rw [He.get rfl]; rfl) rfl (U _) (by rw [E'.len]; omega) fun h' F' N' => ?_
  exact q () _ m _ h' k ⟨mm, S, F', _, ⟨_, b, rfl, ⟨d, _, _, E', hle, rfl⟩, hb⟩, N', hd⟩)
theorem go_assignAttr {σ : St} {o : Expr} {x : Str} {p : Pos} {value : Expr} {pos : Pos} {rest : List Stmt} {K : Kt Flow} (a : At w c sc d)
    (h : Go w c σ (eval value c.env) fun v σ => Go w c σ (eval o c.env) fun ov σ => Go w c σ (setAttr ov x v) fun _ σ => Go w c σ (execs rest c.env) K)
    (hs : swapsWith value (some (.Attribute o x p)) pos.line (c.at sc) = pure false) : Go w c σ (execs (.Assign [.Attribute o x p] value pos :: rest) c.env) K := by
  refine go_seq ?_
  rw [plainObj_exec_Assign_Attribute o x p value pos (by rw [a.env]; exact hs)]
  refine go_stand (go_bind (h.mono fun v σ h => go_bind ?_))
  rw [assign_Attribute]
  exact go_bind (go_holding (h.mono fun ov σ h => go_stand (go_bind (go_holding (h.mono fun _ σ h => go_release (go_pure h))))))
theorem go_augAttr {σ : St} {o : Expr} {x : Str} {p : Pos} {op : Operator} {value : Expr} {pos : Pos} {rest : List Stmt} {K : Kt Flow}
    (h : Go w c σ (eval o c.env) fun ov σ => Go w c σ (getAttr ov x true) fun old σ => Go w c σ (eval value c.env) fun v σ => Go w c σ (inplaceOp op old v) fun new σ => Go w c σ (setAttr ov x new) fun _ σ => Go w c σ (execs rest c.env) K) :
    Go w c σ (execs (.AugAssign (.Attribute o x p) op value pos :: rest) c.env) K := by
  refine go_seq ?_
  show Go w c σ (do
      standAt pos
      let ov ← eval o c.env
      let new ← holding [ov] do
        standAt p.atName
        let old ← getAttr ov x true
        let v ← holding [old] (eval value c.env)
        standAt pos
        operate [old, v] (inplaceOp op old v)
      standAt p.atName
      holding [new, ov] (setAttr ov x new)
      release [new, ov] []
      pure Flow.next) _
  refine go_stand (go_bind (h.mono fun ov σ h => go_bind (go_holding (go_stand (go_bind (h.mono fun old σ h => go_bind (go_holding (h.mono fun v σ h => go_stand (go_operate (h.mono fun new σ h => ?_))))))))))
  exact go_stand (go_bind (go_holding (h.mono fun _ σ h => go_bind (go_release (go_pure h)))))
theorem go_iadd {x y : Int} {t u : Tok} {K : Kt Value} (k : K (.int (x + y) τ) ⟨.succ τ, m, n⟩) : Go w c ⟨τ, m, n⟩ (inplaceOp .Add (.int x t) (.int y u)) K := go_val (fun _ _ _ _ _ _ _ q => iadd_int q) k
-- tests
theorem go_not {σ : St} {x : Expr} {pos : Pos} {whole : Sem Value} {K : Kt Bool} (h : Go w c σ (isTrue x ev (eval x ev)) fun b σ => K (!b) σ) : Go w c σ (isTrue (.UnaryOp .Not x pos) ev whole) K := by
  show Go w c σ (do return !(← isTrue x ev (eval x ev))) K
  exact go_bind (h.mono fun b σ k => go_pure k)
theorem go_and {σ : St} {x y : Expr} {rest : List Expr} {pos : Pos} {whole : Sem Value} {K : Kt Bool} (h : Go w c σ (isTrue x ev (eval x ev)) fun b σ => if b = true then Go w c σ (isTrue (.BoolOp .And (y :: rest) pos) ev whole) K else K false σ) : Go w c σ (isTrue (.BoolOp .And (x :: y :: rest) pos) ev whole) K := by
  show Go w c σ (do
    match BoolOp.And, ← isTrue x ev (eval x ev) with
    | .And, false => pure false
    | .Or, true => pure true
    | _, _ => allTrue .And (y :: rest) ev) K
  exact go_bind (h.mono fun b σ k => by cases b <;> first | exact go_pure k | exact k)
theorem go_and1 {σ : St} {x : Expr} {pos : Pos} {whole : Sem Value} {K : Kt Bool} (h : Go w c σ (isTrue x ev (eval x ev)) K) : Go w c σ (isTrue (.BoolOp .And [x] pos) ev whole) K := by
  show Go w c σ (do
    match BoolOp.And, ← isTrue x ev (eval x ev) with
    | .And, false => pure false
    | .Or, true => pure true
    | _, _ => allTrue .And [] ev) K
  exact go_bind (h.mono fun b σ k => by cases b <;> exact go_pure k)
theorem go_or {σ : St} {x y : Expr} {rest : List Expr} {pos : Pos} {whole : Sem Value} {K : Kt Bool} (h : Go w c σ (isTrue x ev (eval x ev)) fun b σ => if b = true then K true σ else Go w c σ (isTrue (.BoolOp .Or (y :: rest) pos) ev whole) K) : Go w c σ (isTrue (.BoolOp .Or (x :: y :: rest) pos) ev whole) K := by
  show Go w c σ (do
    match BoolOp.Or, ← isTrue x ev (eval x ev) with
    | .And, false => pure false
    | .Or, true => pure true
    | _, _ => allTrue .Or (y :: rest) ev) K
  exact go_bind (h.mono fun b σ k => by cases b <;> first | exact go_pure k | exact k)
theorem go_or1 {σ : St} {x : Expr} {pos : Pos} {whole : Sem Value} {K : Kt Bool} (h : Go w c σ (isTrue x ev (eval x ev)) K) : Go w c σ (isTrue (.BoolOp .Or [x] pos) ev whole) K := by
  show Go w c σ (do
    match BoolOp.Or, ← isTrue x ev (eval x ev) with
    | .And, false => pure false
    | .Or, true => pure true
    | _, _ => allTrue .Or [] ev) K
  exact go_bind (h.mono fun b σ k => by cases b <;> exact go_pure k)
theorem go_and2 {σ : St} {x y : Expr} {pos : Pos} {K : Kt Value} (h : Go w c σ (eval x ev) fun v σ => Go w c σ (truthy v) fun b σ => if b = true then Go w c σ (eval y ev) K else K v σ) : Go w c σ (eval (.BoolOp .And [x, y] pos) ev) K := by
  show Go w c σ (do
    let v ← eval x ev
    standAt pos
    let t ← holding [v] (truthy v)
    match BoolOp.And, t with
    | .And, false | .Or, true => pure v
    | _, _ => boolOp pos .And [eval y ev]) K
  exact go_bind (h.mono fun v σ h => go_stand (go_bind (go_holding (h.mono fun b σ k => by cases b <;> first | exact go_pure k | exact k))))
theorem go_or2 {σ : St} {x y : Expr} {pos : Pos} {K : Kt Value} (h : Go w c σ (eval x ev) fun v σ => Go w c σ (truthy v) fun b σ => if b = true then K v σ else Go w c σ (eval y ev) K) : Go w c σ (eval (.BoolOp .Or [x, y] pos) ev) K := by
  show Go w c σ (do
    let v ← eval x ev
    standAt pos
    let t ← holding [v] (truthy v)
    match BoolOp.Or, t with
    | .And, false | .Or, true => pure v
    | _, _ => boolOp pos .Or [eval y ev]) K
  exact go_bind (h.mono fun v σ h => go_stand (go_bind (go_holding (h.mono fun b σ k => by cases b <;> first | exact go_pure k | exact k))))
theorem go_truth {σ : St} {e : Expr} {whole : Sem Value} {K : Kt Bool} (h : Go w c σ whole fun v σ => Go w c σ (truthy v) K)
    (he : isTrue e ev whole = (do let v ← whole; standAt e.pos; holding [v] (truthy v))) : Go w c σ (isTrue e ev whole) K := by
  rw [he]
  exact go_bind (h.mono fun v σ h => go_stand (go_holding h))
theorem go_ifexp {σ : St} {t b o : Expr} {pos : Pos} {K : Kt Value} (h : Go w c σ (isTrue t ev (eval t ev)) fun r σ => if r = true then Go w c σ (eval b ev) K else Go w c σ (eval o ev) K) : Go w c σ (eval (.IfExp t b o pos) ev) K := by
  show Go w c σ (do if ← isTrue t ev (eval t ev) then eval b ev else eval o ev) K
  exact go_bind (h.mono fun r σ k => by cases r <;> exact k)
theorem ite_yes {A B : Prop} (h : A) : if true = true then A else B := by rw [if_pos rfl]; exact h
theorem ite_no {A B : Prop} (h : B) : if false = true then A else B := by rw [if_neg Bool.false_ne_true]; exact h
theorem go_splitB {b : Bool} {A B : Prop} (h1 : b = true → A) (h2 : b = false → B) : if b = true then A else B := by
  cases b with
  | true => exact ite_yes (h1 rfl)
  | false => exact ite_no (h2 rfl)
theorem go_isNone {σ : St} {K : Kt Value} (k : K (.bool true) σ) : Go w c σ (compareOp .Is .none .none) K := go_val (fun _ _ _ _ _ _ _ q => wpAny_is_self rfl q) k
theorem go_isntNone {σ : St} {K : Kt Value} (k : K (.bool false) σ) : Go w c σ (compareOp .IsNot .none .none) K := go_val (fun _ _ _ _ _ _ _ q => wpAny_isNot_self rfl q) k
-- folding and unfolding of resources
theorem own_perm {h : Heap} (o : Own c m n h) (f : ∀ l, Holds n l → ∃ l', Holds n' l' ∧ l'.Perm l) : Own c m n' h := by
  obtain ⟨mm, S, F, l, hl, N, hd⟩ := o
  obtain ⟨l', hl', hp⟩ := f l hl
  exact ⟨mm, S, F, l', hl', fun q hq => N q (hp.mem_iff.mp hq), (hp.map _).nodup_iff.mpr hd⟩
theorem go_picks {rs : List Res} {t : Sem α} {K : Kt α} (p : Picks rs n n1) (h : Go w c ⟨τ, m, rs ++ n1⟩ t K) : Go w c ⟨τ, m, n⟩ t K := fun h' g dr os Q E o k => h h' g dr os Q E (own_perm o fun _ hl => holds_picks p hl) k
theorem go_fold {r : Res} {rs : List Res} {t : Sem α} {K : Kt α} (p : Picks rs n n1) (hr : ∀ l, Holds rs l → r l) (h : Go w c ⟨τ, m, r :: n1⟩ t K) : Go w c ⟨τ, m, n⟩ t K :=
  fun h' g dr os Q E o k => h h' g dr os Q E (own_perm o fun l hl => by
    obtain ⟨l', h1, h2⟩ := holds_picks p hl
    obtain ⟨a, b, rfl, ha, hb⟩ := holds_split h1
    exact ⟨_, ⟨a, b, rfl, hr a ha, hb⟩, h2⟩) k
theorem go_ret0 {σ : St} {pos : Pos} {rest : List Stmt} {K : Kt Flow} (k : K (.ret .none) σ) : Go w c σ (execs (.Return none pos :: rest) c.env) K := by
  refine go_seq ?_
  show Go w c σ (do standAt pos; return Flow.ret .none) _
  exact go_stand (go_pure k)
end
end Mine

end

-- GA
section
open PySem PySem.W PySem.Calls PyProof.Rows
open Sem (wp)
namespace Mine
section
variable {α β : Type} {w : World} {c : Cx} {ev : Env} {τ : Nat} {m : Map} {n n' n1 : List Res} {sc : Scope} {d : Nat}
-- octets that can be changed
theorem go_newBA {K : Kt Value} (hf : c.any = false) (k : ∀ D, K (.ref D) ⟨τ, m, baR D [] :: n⟩) : Go w c ⟨τ, m, n⟩ (call (.type "bytearray") [] []) K := fun hh g dr os Q E ⟨mm, S, F, l, hl, N, hd⟩ q => by
  rw [hf]
  exact C_bytearray0 F N fun x h' F' N' hlt => q _ _ h' (k x) (own_new S F' hl N' hd hlt ⟨#[], rfl, rfl⟩)
theorem go_lenBA {D : Addr} {ks : List Int} {K : Kt Value} (hm : baR D ks ∈ n) (hz : ks.length ≤ 16777216) (k : K (.int (ks.length : Nat) (.succ τ)) ⟨.succ (.succ τ), m, n⟩) : Go w c ⟨τ, m, n⟩ (call (.builtin "len") [.ref D] []) K :=
  go_val (fun _ _ _ _ _ _ o q => by
    obtain ⟨l, ⟨b, hb, rfl⟩, N⟩ := own_has o hm
    exact ba_len_K N (.head _) hb hz q) k
theorem go_bytesBA {D : Addr} {ks : List Int} {K : Kt Value} (hm : baR D ks ∈ n) (hz : ks.length ≤ 16777216) (k : ∀ v τ, IsB v ks → K v ⟨τ, m, n⟩) : Go w c ⟨τ, m, n⟩ (call (.type "bytes") [.ref D] []) K :=
  go_any fun _ _ _ _ Q E o q => by
    obtain ⟨l, ⟨b, hb, rfl⟩, N⟩ := own_has o hm
    exact ba_bytes_K N (.head _) hb hz fun t k' => q _ k' m n _ (k _ _ ⟨_, _, rfl, hb⟩) o
theorem go_bytesB {v : Value} {ks : List Int} {σ : St} {K : Kt Value} (hv : IsB v ks) (k : K v σ) : Go w c σ (call (.type "bytes") [v] []) K :=
  go_val (fun _ _ _ _ _ _ o q => by
    obtain ⟨b, t, rfl, hb⟩ := hv
    exact bytes_bytes q) k
/-- what is asked of a sequence that lies at an address -/
noncomputable def CutA (o l u : Value) (K : Kt Value) (σ : St) : Prop := ∃ D ks lo hi, o = .ref D ∧ baR D ks ∈ σ.n ∧ IsPart l lo ∧ IsPart u hi ∧ ks.length ≤ 16777216 ∧ ∀ D', K (.ref D') ⟨σ.τ, σ.m, baR D' (sl ks lo hi) :: σ.n⟩
/-- a sequence cut: octets, or octets at an address, or a list of ints -/
noncomputable def CutX (o l u : Value) (K : Kt Value) (σ : St) : Prop := Cut o l u K σ ∨ CutA o l u K σ
theorem cutX_B {o l u : Value} {ks : List Int} {lo hi : Option Int} {K : Kt Value} (hv : IsB o ks) (hl : IsPart l lo) (hu : IsPart u hi) (hz : ks.length ≤ 16777216) (k : ∀ v τ, IsB v (sl ks lo hi) → K v ⟨τ, m, n⟩) : CutX o l u K ⟨τ, m, n⟩ := .inl ⟨ks, lo, hi, hv, hl, hu, hz, k⟩
theorem cutX_A {D : Addr} {l u : Value} {ks : List Int} {lo hi : Option Int} {K : Kt Value} (hm : baR D ks ∈ n) (hl : IsPart l lo) (hu : IsPart u hi) (hz : ks.length ≤ 16777216) (k : ∀ D', K (.ref D') ⟨τ, m, baR D' (sl ks lo hi) :: n⟩) : CutX (.ref D) l u K ⟨τ, m, n⟩ := .inr ⟨D, ks, lo, hi, rfl, hm, hl, hu, hz, k⟩
theorem go_sliceX {value : Expr} {lower upper : Option Expr} {sp pos : Pos} {K : Kt Value}
    (h : Go w c ⟨τ, m, n⟩ (eval value ev) fun o σ => Go w c σ (valueOrNone (evalOpt lower ev)) fun l σ => Go w c σ (valueOrNone (evalOpt upper ev)) fun u σ => CutX o l u K σ) :
    Go w c ⟨τ, m, n⟩ (eval (.Subscript value (.Slice lower upper none sp) pos) ev) K := by
  show Go w c ⟨τ, m, n⟩ (do
    let o ← eval value ev
    let i ← holding [o] (do
      let l ← valueOrNone (evalOpt lower ev)
      let u ← holding [l] (valueOrNone (evalOpt upper ev))
      let s ← holding [l, u] (valueOrNone none)
      newFields "slice" [l, u, s])
    standAt pos
    subscriptTail value (.Slice lower upper none sp) o i) K
  refine go_bind (h.mono fun o σ h => ?_)
  refine fun hp g dr os Q E o' q => wpX_bind (wpX_holding (wpX_bind (h hp g dr os _ E o' fun l σ h' h o' => wpX_bind (wpX_holding (h h' g dr os _ E o' fun u σ h' h o' => wpX_lead (wpAny_holding (wpAny_pure (wpX_of ?_))))))))
  rcases h with h | h
  · obtain ⟨ks, lo, hi, ⟨b, t, rfl, hb⟩, hl, hu, hz, h⟩ := h
    obtain ⟨mm, S, F, led, hled, N, hd⟩ := o'
    refine wpAny_newObj_type ?_ (by show (3 : Nat) ≤ sizeLine + 2; rw [sizeLine_eq]; decide)
    refine wpX_lead (wpAny_standAt (wpX_of ?_))
    exact KBc.slice_K (s := ⟨_, _, _, _, _⟩) F N hb hl hu hz (fun h' t' k F' N' e => q _ ⟨k, σ.m, σ.n⟩ h' (h _ k ⟨_, t', rfl, e⟩) ⟨mm, S, F', led, hled, N', hd⟩) (ht := let_bytes)
  · obtain ⟨D, ks, lo, hi, rfl, hm, hl, hu, hz, h⟩ := h
    obtain ⟨mm, S, F, led, hled, N, hd⟩ := o'
    obtain ⟨a, ⟨b, hb, rfl⟩, hsub⟩ := holds_mem hled hm
    refine wpAny_newObj_type ?_ (by show (3 : Nat) ≤ sizeLine + 2; rw [sizeLine_eq]; decide)
    refine wpX_lead (wpAny_standAt (wpX_of ?_))
    exact ba_slice_K (s := ⟨_, _, _, _, _⟩) F N (hsub _ (.head _)) hb hl hu hz fun D' h' F' N' hlt e => q _ ⟨σ.τ, σ.m, _⟩ h' (h D') (own_new S F' hled N' hd hlt ⟨_, e, rfl⟩)
theorem sl_part {ks : List Int} {lo hi : Option Int} : sl ks lo hi = (ks.drop (lo.elim 0 (clipAt ks.length))).take (hi.elim ks.length (clipAt ks.length) - lo.elim 0 (clipAt ks.length)) := rfl
/-- x[a:b] = octets, on octets that can be changed -/
noncomputable def PutA (w : World) (c : Cx) (v o l u : Value) (rest : List Stmt) (K : Kt Flow) (σ : St) : Prop := ∃ D ks cs at' x y n1, o = .ref D ∧ Pick (baR D ks) σ.n n1 ∧ IsB v cs ∧ l = .int at' x ∧ u = .int (at' + (cs.length : Int)) y ∧ 0 ≤ at' ∧ at' ≤ (ks.length : Int) ∧ ks.length + cs.length ≤ 16777216 ∧ ∀ τ, Go w c ⟨τ, σ.m, baR D (ks.take at'.toNat ++ cs ++ ks.drop (at'.toNat + cs.length)) :: n1⟩ (execs rest c.env) K
theorem putA_of {v : Value} {D : Addr} {ks cs : List Int} {a b : Int} {x y : Tok} {rest : List Stmt} {K : Kt Flow} (hp : Pick (baR D ks) n n1) (hv : IsB v cs) (e : b = a + (cs.length : Int)) (h0 : 0 ≤ a) (h1 : a ≤ (ks.length : Int)) (hz : ks.length + cs.length ≤ 16777216)
    (k : ∀ τ, Go w c ⟨τ, m, baR D (ks.take a.toNat ++ cs ++ ks.drop (a.toNat + cs.length)) :: n1⟩ (execs rest c.env) K) : PutA w c v (.ref D) (.int a x) (.int b y) rest K ⟨τ, m, n⟩ := ⟨D, ks, cs, a, x, y, n1, rfl, hp, hv, rfl, by rw [e], h0, h1, hz, k⟩
theorem go_assignSl {o : Expr} {lower upper : Expr} {sp p : Pos} {value : Expr} {pos : Pos} {rest : List Stmt} {K : Kt Flow} (A : At w c sc d) (hf : c.any = false)
    (h : Go w c ⟨τ, m, n⟩ (eval value c.env) fun v σ => Go w c σ (eval o c.env) fun ov σ => Go w c σ (eval lower c.env) fun l σ => Go w c σ (eval upper c.env) fun u σ => PutA w c v ov l u rest K σ)
    (hs : swapsWith value (some (.Subscript o (.Slice (some lower) (some upper) none sp) p)) pos.line (c.at sc) = pure false) : Go w c ⟨τ, m, n⟩ (execs (.Assign [.Subscript o (.Slice (some lower) (some upper) none sp) p] value pos :: rest) c.env) K := by
  refine go_seq ?_
  rw [exec_Assign_Subscript o _ p value pos (by rw [A.env]; exact hs)]
  refine go_stand (go_bind (h.mono fun v σ h => go_bind ?_))
  rw [assign_Subscript]
  refine go_bind (go_holding (h.mono fun ov σ h => ?_))
  show Go w c σ (do
    let iv ← holding [v, ov] (do
      let l ← valueOrNone (some (eval lower c.env))
      let u ← holding [l] (valueOrNone (some (eval upper c.env)))
      let s ← holding [l, u] (valueOrNone none)
      newFields "slice" [l, u, s])
    standAt p
    holding [v, ov, iv] (setItem ov iv v)
    release [iv, v, ov] []) _
  refine fun hp g dr os Q E o' q => wpX_bind (wpX_holding (wpX_bind (h hp g dr os _ E o' fun l σ h' h o' => wpX_bind (wpX_holding (h h' g dr os _ E o' fun u σ h' h o' => wpX_lead (wpAny_holding (wpAny_pure (wpX_of ?_))))))))
  obtain ⟨D, ks, cs, a, x, y, n1, rfl, hpk, ⟨b, t, rfl, hb⟩, rfl, rfl, h0, h1, hz, h⟩ := h
  obtain ⟨mm, S, F, led, ⟨l1, b', e1, ⟨b0, hb0, e2⟩, hled⟩, N, hd⟩ := own_pick o' hpk
  subst e2 e1
  refine wpAny_newObj_type ?_ (by show (3 : Nat) ≤ sizeLine + 2; rw [sizeLine_eq]; decide)
  refine wpX_lead (wpAny_standAt ?_)
  have hsp := ints_spliced hb0 hb h0 h1
  have hc : b.size ≤ 16777216 := by rw [← KBw.ints_length b, hb]; omega
  have hz2 : (spliced b0 (some a) (some (a + (cs.length : Int))) b).size ≤ 16777216 := by
    rw [← KBw.ints_length, hsp]
    simp only [List.length_append, List.length_take, List.length_drop]
    omega
  refine wpX_bind (wpX_holding ?_)
  rw [hf]
  refine C_setslice_K (s := ⟨_, _, _, _, _⟩) F N (upd_front hd) (by constructor) (by constructor) hc hz2 fun h' k F' N' => ?_
  exact wpX_of (b := false) (wpAny_release (q () ⟨k, σ.m, _⟩ h' (go_pure (h k)) (own_turn S F' hled N' hd ⟨_, hsp, rfl⟩)))
-- dicts
theorem go_dict0 {pos : Pos} {K : Kt Value} (A : At w c sc d) (k : ∀ D, K (.ref D) ⟨τ, m, dct0 w D :: n⟩) : Go w c ⟨τ, m, n⟩ (eval (.Dict [] [] pos) ev) K := go_any fun hh g dr os Q E ⟨mm, S, F, l, hl, N, hd⟩ q =>
  newDict_K (prog := pw) (w := w) F N A.T.nolimit fun D h' o F' N' hlt lo hs _ hi _ => q _ _ m _ h' (k D) (own_new S F' hl N' hd hlt ⟨o, hs, hi, lo, rfl⟩)
theorem go_notInS {D : Addr} {kvs : List (Str × Value)} {x : Str} {t : Tok} (b : Bool) {K : Kt Value} (hm : dctS w D kvs ∈ n) (hb : (!(valueAt kvs x).isSome) = b) (k : K (.bool b) ⟨.succ τ, m, n⟩) : Go w c ⟨τ, m, n⟩ (compareOp .NotIn (.str x t) (.ref D)) K := go_val (fun _ _ _ _ _ _ o q => by
  obtain ⟨l, ⟨ob, hd, lo, rfl⟩, N⟩ := own_has o hm
  exact kdg_notin (knd := PySem.strKind pw w) N (.head _) hd lo (strKind_is _ _ _ _) _ rfl (by rw [hb]; exact q)) k
theorem go_itemS {value slice : Expr} {D : Addr} {kvs : List (Str × Value)} {x : Str} {t : Tok} {v : Value} {K : Kt Value} (hm : dctS w D kvs ∈ n) (hl : valueAt kvs x = some v) (k : K v ⟨.succ τ, m, n⟩)
    (hs : subscripted slice false (.ref D) (.str x t) = operate [.ref D, .str x t] (getItem (.ref D) (.str x t))) : Go w c ⟨τ, m, n⟩ (subscriptTail value slice (.ref D) (.str x t)) K := go_val (fun _ _ _ _ _ _ o q => by
  obtain ⟨l, ⟨ob, hd, lo, rfl⟩, N⟩ := own_has o hm
  exact kdt_tail (knd := PySem.strKind pw w) N (.head _) hd (kdt_getItem (knd := PySem.strKind pw w) N (.head _) hd (strKind_is _ _ _ _) hl q) hs) k
theorem go_setS {D : Addr} {kvs : List (Str × Value)} {x : Str} {t : Tok} {v : Value} {K : Kt Unit} (hp : Pick (dctS w D kvs) n n1) (hz : kvs.length ≤ 1000) (k : K () ⟨.succ τ, m, dctS w D (stored kvs x v) :: n1⟩) : Go w c ⟨τ, m, n⟩ (setItem (.ref D) (.str x t) v) K :=
  go_pick hp (go_head fun hh g dr os Q E mm l1 b S F ha hb N hd q => by
    obtain ⟨o, hD, lo, rfl⟩ := ha
    exact kda_set (knd := PySem.strKind pw w) F N (updF_front hd) hD (strKind_is _ _ _ _) (by rw [sizeLine_eq]; omega) fun h' o' F' N' hd' => q () _ m _ h' k (own_turn S F' hb N' hd ⟨o', hd', lo, rfl⟩))
theorem go_setI {D : Addr} {kvs : List (Int × Value)} {x : Int} {t : Tok} {v : Value} {K : Kt Unit} (hp : Pick (dctI w D kvs) n n1) (hz : kvs.length ≤ 1000) (k : K () ⟨.succ τ, m, dctI w D (stored kvs x v) :: n1⟩) : Go w c ⟨τ, m, n⟩ (setItem (.ref D) (.int x t) v) K :=
  go_pick hp (go_head fun hh g dr os Q E mm l1 b S F ha hb N hd q => by
    obtain ⟨o, hD, lo, rfl⟩ := ha
    exact kda_set (knd := PySem.intKind pw w) F N (updF_front hd) hD (intKind_is _ _ _ _) (by rw [sizeLine_eq]; omega) fun h' o' F' N' hd' => q () _ m _ h' k (own_turn S F' hb N' hd ⟨o', hd', lo, rfl⟩))
-- lists of any values
theorem go_methAppV {D : Addr} {vs : List Value} {pl : Sem Bool} {K : Kt (Value × List Value)} (hm : lstV D vs ∈ n) (k : K (.builtin "list.append", [.ref D]) ⟨τ, m, n⟩) : Go w c ⟨τ, m, n⟩ (getMethod (.ref D) (Str.ofString "append") pl) K :=
  go_val (fun _ _ _ _ _ _ o q => by
    obtain ⟨a, ⟨kn, rfl⟩, N⟩ := own_has o hm
    exact listMethod_K N (.head _) PySem.F.slot_list_append PySem.F.type_list_append q) k
theorem go_appV {D : Addr} {vs : List Value} {v : Value} {K : Kt Value} (hp : Pick (lstV D vs) n n1) (hz : vs.length ≤ 1000) (k : K .none ⟨τ, m, lstV D (vs ++ [v]) :: n1⟩) : Go w c ⟨τ, m, n⟩ (call (.builtin "list.append") [.ref D, v] []) K :=
  go_pick hp (go_head fun hh g dr os Q E mm a b S F ha hb N hd q => by
    obtain ⟨kn, rfl⟩ := ha
    exact append_K F N (upd_front hd) (fun h' F' N' => q _ _ m _ h' k (own_turn S F' hb N' hd ⟨kn + 1, by rw [List.push_toArray]⟩)) (by rw [List.size_toArray, sizeLine_eq]; omega))
theorem go_lenV {D : Addr} {vs : List Value} {K : Kt Value} (hm : lstV D vs ∈ n) (hz : vs.length ≤ 1000) (k : K (.int (vs.length : Nat) (.succ τ)) ⟨.succ (.succ τ), m, n⟩) : Go w c ⟨τ, m, n⟩ (call (.builtin "len") [.ref D] []) K :=
  go_any fun h' _ _ _ Q E o q => by
    obtain ⟨a, ⟨kn, rfl⟩, N⟩ := own_has o hm
    exact call_len_list ⟨_, (N _ (.head _)).1, rfl, kn, rfl⟩ (by rw [List.size_toArray]; omega) (q _ _ m n h' k o)
theorem go_newListV {vs : List Value} {K : Kt Value} (k : ∀ D, K (.ref D) ⟨τ, m, lstV D vs :: n⟩) (hz : Nat.ble vs.length 1000 = true) : Go w c ⟨τ, m, n⟩ (newList vs) K :=
  go_any fun _ _ _ _ Q E ⟨mm, S, F, l, hl, N, d⟩ q => newList_N F N (fun h' F' N' => q _ _ m _ h' (k _) (own_new S F' hl N' d (fun p hp => Heap.lt_size (N p hp).1) ⟨0, rfl⟩)) (Nat.le_trans (Nat.le_of_ble_eq_true hz) (by rw [sizeLine_eq]; decide))
-- classes
theorem guard_make (as : Args) : (Code.builtin "type.__call__" as).isGuard = false := by show List.contains _ _ = false; decide +kernel
theorem under_make {C : Addr} {vs : List Value} : c.A.under (.builtin "type.__call__" ⟨.ref C :: vs, []⟩) = ktrTop (c.dp + 1) (c.un + 1) c.gd c.cn c.cs c.L c.a c.ccd c.cl c.outer := by
  have hw : (Code.builtin "type.__call__" ⟨.ref C :: vs, []⟩).weight = 1 := by unfold Code.weight; rw [guard_make]; rfl
  have hg : (Code.builtin "type.__call__" ⟨.ref C :: vs, []⟩).guards = [] := by unfold Code.guards; rw [guard_make]; rfl
  unfold Around.under
  rw [hw, hg]
  unfold Cx.A
  cases c.gd <;> rfl
/-- an object made, its __init__ a def of the program -/
theorem go_make (b : Bool) (hb' : b = true ∨ b = c.any) {C f : Addr} {name qual : Str} {params : Arguments} {body : List Stmt} {scope : Scope} {dV kV doc pm cdv ct oc : Value} {an od : Option Addr} {osl : Array (Option Value)} {vs : List Value} {mp : Addr → Map} {K : Kt Value}
    (a : At w c sc (d + 2)) (hmk : makesIn (Mine.hd.heap_39 w.params) C = true) (hi : findIn (Mine.hd.heap_39 w.params) (.ref C) "__init__" = some (some (.ref f))) (hf : typeIn (Mine.hd.heap_39 w.params) (.ref f) = some (.type "function"))
    (ho : (Mine.hd.heap_39 w.params).lookup f = some ⟨oc, od, .func (fnOf name qual params body scope dV kV doc pm an cdv ct), osl⟩) (hcd : codeIn (Mine.hd.heap_39 w.params) cdv qual = true)
    (hb : ∀ x s, (Mine.hd.heap_39 w.params).In s.heap → BindsTo s (fnOf name qual params body scope dV kV doc pm an cdv ct) ⟨.ref x :: vs, []⟩ (mp x).reverse)
    (h : ∀ c' τ x, At w c' scope d → c'.fix = none → c'.any = b → c'.arg = c.arg → Go w c' ⟨τ, mp x, inst w x C [] :: n⟩ (execs body c'.env) fun fl σ => retOf fl = .none ∧ Out (fun _ σ => K (.ref x) σ) m fl σ)
    (hloc : ∀ x, ((mp x).all fun y => scope.names.lookup y.1 == some .local) = true) (hco : scope.isCoroutine = false) (hgen : scope.isGenerator = false) (hk : scope.kind = .function)
    (hcell : (scope.names.all fun x => x.2 != .cell) = true) : Go w c ⟨τ, m, n⟩ (call (.ref C) vs) K := by
  rintro hh gg dr os Q E ⟨mm, S, F, l, hl, N, hd⟩ q
  have hroom : c.dp + 1 < recursionLimit := by have := a.hd; omega
  have hloc' : ∀ x, ∀ y ∈ (mp x).reverse, scope.names.lookup y.1 = some .local := fun x y hy => beq_iff_eq.mp (List.all_eq_true.mp (hloc x) y (List.mem_reverse.mp hy))
  have hcell' : ∀ x ∈ scope.names, x.2 ≠ .cell := fun x hx => bne_iff_ne.mp (List.all_eq_true.mp hcell x hx)
  have hun : c.A.under (.builtin "type.__call__" ⟨.ref C :: vs, []⟩) = ktrTop (c.dp + 1) (c.un + 1) c.gd c.cn c.cs c.L c.a c.ccd c.cl c.outer := under_make
  have key : ∀ (E' : Value → Shared → Prop) x dx g L' h₁, (∀ p ∈ l, p.1 < dx) → dx < x → Fr c.h₀ c.L g mm → Fr g L' h₁ (fun y => (mp x).reverse.reverse.lookup y) → News g L' h₁ ((x, instObj C dx) :: (dx, dictOf [] 0) :: l) → (Mine.hd.heap_39 w.params).In g → Top vw lv c.mean c.mg c.mb g →
      wpX b (model pw w) ((ktrTop (c.dp + 1) (c.un + 1) c.gd c.cn c.cs c.L c.a c.ccd c.cl c.outer).deeper (envOf qual scope L' f cdv)) (execs body (envOf qual scope L' f cdv))
        (fun fl s' => LeaveK c.h₀ c.L mm g (fun r s' => Rest ((x, instObj C dx) :: (dx, dictOf [] 0) :: l) ((x, instObj C dx) :: (dx, dictOf [] 0) :: l) c.h₀ c.L s'.heap → InitBack x (fun r s' => match r with | .ok (.ret v) => Q v s' | .ok _ => False | .error e => E e s') r s') (match fl with | .ret v => v | _ => .none) s') E' ⟨h₁, gg, dr, τ + (mp x).reverse.length, os⟩ := by
    intro E' x dx g L' h₁ hlt hlt2 FG F' N' X' T'
    have a' : At w { c with any := b, fix := none, dp := c.dp + 1 + 1, un := c.un + 1 + 3, cn := qual, cs := scope, L := L', a := f, ccd := cdv, cl := [], outer := c.env :: c.outer, h₀ := g } scope d :=
      ⟨X', T', hk, by have := a.hd; show c.dp + 1 + 1 + d < _; omega, by have := a.hu; show c.un + 1 + 3 + (8 * d + 200) < _; omega, rfl, a.arOn FG.keep⟩
    have hd2 : (((x, instObj C dx) :: (dx, dictOf [] 0) :: l).map (·.1)).Nodup := by
      simp only [List.map_cons, List.nodup_cons, List.mem_cons, not_or]
      refine ⟨⟨Nat.ne_of_gt hlt2, fun hm => ?_⟩, fun hm => ?_, hd⟩
      · obtain ⟨p, hp, e⟩ := List.mem_map.mp hm
        exact Nat.lt_asymm (hlt p hp) (by rw [e]; exact hlt2)
      · obtain ⟨p, hp, e⟩ := List.mem_map.mp hm
        exact Nat.lt_irrefl _ (e ▸ hlt p hp)
    refine h _ _ x a' rfl rfl rfl _ _ _ _ _ _ ⟨_, ⟨fun y v e => by show List.lookup y (mp x).reverse.reverse = _; rw [List.reverse_reverse]; exact e, fun _ e => by cases e⟩, F', _, ⟨[(x, instObj C dx), (dx, dictOf [] 0)], l, rfl, ⟨dx, [], 0, .nil, Nat.zero_le _, rfl⟩, hl⟩, N', hd2⟩ fun fl σ' h' k o' => ?_
    obtain ⟨mm₂, S₂, F₂, l₂, hl₂, N₂, hd₂⟩ := o'
    refine leaveK_ F₂ N₂ fun F₃ N₃ _ => ?_
    obtain ⟨hr, n'', hs, k⟩ := k
    exact ⟨hr, q (.ref x) ⟨σ'.τ, m, n''⟩ h' k (own_less hs ⟨mm, S, F₃, l₂, hl₂, N₃, hd₂⟩)⟩
  cases b with
  | false =>
    rcases hb' with e | e
    · cases e
    · rw [← e]
      refine wpC_call (C_make F N (a.X.keeps F.keep) hmk hi hf fun x dx h' F' N' l1 l2 => ?_)
      rw [hun]
      exact C_enterF (small := (x, instObj C dx) :: (dx, dictOf [] 0) :: l) F' a.X N' (fun _ hp => hp) a.T ho hcd hroom (hb x _ (a.X.keeps F'.keep)) (hloc' x) (fun g L' h₁ FG F'' N'' X' T' _ _ => key _ x dx g L' h₁ l1 l2 FG F'' N'' X' T') hco hgen hk hcell'
  | true =>
    refine wpX_of (wpAny_call (make_K F N (a.X.keeps F.keep) hmk hi hf fun x dx h' F' N' l1 l2 => ?_))
    rw [hun]
    exact enter_subF (small := (x, instObj C dx) :: (dx, dictOf [] 0) :: l) F' a.X N' (fun _ hp => hp) a.T ho hcd hroom (hb x _ (a.X.keeps F'.keep)) (hloc' x) (fun g L' h₁ FG F'' N'' X' T' _ _ => key _ x dx g L' h₁ l1 l2 FG F'' N'' X' T') hco hgen hk hcell'
end
end Mine

end

-- GB
section
open PySem PySem.W PySem.Calls PyProof.Rows
namespace Mine
noncomputable abbrev xsW : List Str := [Str.ofString "disk", Str.ofString "name", Str.ofString "page_size", Str.ofString "log_name", Str.ofString "file", Str.ofString "index"]
noncomputable abbrev xsF : List Str := [Str.ofString "disk", Str.ofString "name", Str.ofString "synced", Str.ofString "pending", Str.ofString "now"]
noncomputable abbrev xsD : List Str := [Str.ofString "sector", Str.ofString "room", Str.ofString "files", Str.ofString "steps", Str.ofString "crash_at", Str.ofString "shared", Str.ofString "locks"]
noncomputable abbrev xsI : List Str := [Str.ofString "frames", Str.ofString "places", Str.ofString "counts", Str.ofString "last", Str.ofString "copied", Str.ofString "salts", Str.ofString "number", Str.ofString "sums", Str.ofString "headless", Str.ofString "spoilt"]
noncomputable abbrev xsL : List Str := [Str.ofString "levels", Str.ofString "slots", Str.ofString "told_marks"]
noncomputable abbrev fsW (dk : Addr) (nm pz ln fl ix : Value) : Fs := [(Str.ofString "disk", .ref dk), (Str.ofString "name", nm), (Str.ofString "page_size", pz), (Str.ofString "log_name", ln), (Str.ofString "file", fl), (Str.ofString "index", ix)]
noncomputable abbrev fsF (dk pn nw : Addr) (nm sy : Value) : Fs := [(Str.ofString "disk", .ref dk), (Str.ofString "name", nm), (Str.ofString "synced", sy), (Str.ofString "pending", .ref pn), (Str.ofString "now", .ref nw)]
noncomputable abbrev fsD (fs sh : Addr) (sc st lk : Value) : Fs := [(Str.ofString "sector", sc), (Str.ofString "room", .none), (Str.ofString "files", .ref fs), (Str.ofString "steps", st), (Str.ofString "crash_at", .none), (Str.ofString "shared", .ref sh), (Str.ofString "locks", lk)]
noncomputable abbrev fsI (fr pl cu sa su : Addr) (la co nu he sp : Value) : Fs := [(Str.ofString "frames", .ref fr), (Str.ofString "places", .ref pl), (Str.ofString "counts", .ref cu), (Str.ofString "last", la), (Str.ofString "copied", co), (Str.ofString "salts", .ref sa), (Str.ofString "number", nu), (Str.ofString "sums", .ref su), (Str.ofString "headless", he), (Str.ofString "spoilt", sp)]
/-- a disk; a file on it; a log; its index -/
noncomputable def diskR (w : World) (dk fs sh : Addr) : Res := fun l => ∃ (s1 : Value) (st : Int) (t : Tok) (lk : Value), inst w dk 633 (fsD fs sh s1 (.int st t) lk) l
noncomputable def walR (w : World) (wl dk fl ix : Addr) (size : Int) : Res := fun l => ∃ t1 t2 t3, inst w wl 350 (fsW dk (.str (Str.ofString "a") t1) (.int size t2) (.str (Str.ofString "a-wal") t3) (.ref fl) (.ref ix)) l
noncomputable def fileR (w : World) (fl dk : Addr) (q : Nat) (ks : List Int) : Res := fun l => ∃ pn nw nm sy vs, vs.length = q ∧ Holds [inst w fl 555 (fsF dk pn nw nm sy), lstV pn vs, baR nw ks] l
/-- two ints at an address, where they are told -/
noncomputable def prR (D : Addr) (o : Option (Int × Int)) : Res := match o with
  | none => fun l => l = []
  | some p => tupI D [p.1, p.2]
/-- pages' places: a dict of lists -/
noncomputable def plR (w : World) (pl : Addr) (q : Nat) : Res := fun l => ∃ o kvs ls, Obj.IsDictOf (PySem.intKind pw w) o kvs ∧ (pl == sysModules) = false ∧ kvs.length ≤ q ∧ l = (pl, o) :: ls ∧ ∀ pg v, valueAt kvs pg = some v → ∃ (D : Addr) (iv : List Value) (k : Nat), v = .ref D ∧ (D, listOf iv.toArray k) ∈ ls ∧ iv.length ≤ q
/-- the same while one page's list is out, or with a word on one page -/
noncomputable def plG (w : World) (pl : Addr) (a b : Nat) (ex : Addr → Prop) (has : Option (Int × Bool)) : Res := fun l => ∃ o kvs ls, Obj.IsDictOf (PySem.intKind pw w) o kvs ∧ (pl == sysModules) = false ∧ kvs.length ≤ a ∧ l = (pl, o) :: ls ∧
  (∀ pg v, valueAt kvs pg = some v → ∃ (D : Addr), v = .ref D ∧ (ex D ∨ ∃ (iv : List Value) (k : Nat), (D, listOf iv.toArray k) ∈ ls ∧ iv.length ≤ b)) ∧ ∀ pg r, has = some (pg, r) → (valueAt kvs pg).isSome = r
structure Ix where
  nf : Nat
  last : Int
  number : Int
  salts : Option (Int × Int)
  sums : Option (Int × Int)
/-- how many counts there may be -/
noncomputable def cnB : Option (Int × Int) → Nat
  | none => 11
  | some _ => 10
noncomputable def ixR (w : World) (ix : Addr) (I : Ix) : Res := fun l => ∃ fr pl cu sa su t1 t2 v1 v2 v3 vs kvs, vs.length = I.nf ∧ kvs.length ≤ cnB I.sums ∧
  Holds [inst w ix 174 (fsI fr pl cu sa su (.int I.last t1) v1 (.int I.number t2) v2 v3), lstV fr vs, plR w pl I.nf, dctI w cu kvs, prR sa I.salts, prR su I.sums] l
section
variable {α β : Type} {w : World} {c : Cx} {τ : Nat} {m : Map} {n n' n1 : List Res} {sc : Scope} {d : Nat}
theorem go_exR {ι : Type} {P : ι → Res} {t : Sem α} {K : Kt α} (h : ∀ i, Go w c ⟨τ, m, P i :: n⟩ t K) : Go w c ⟨τ, m, (fun l => ∃ i, P i l) :: n⟩ t K := fun h' g dr os Q E ⟨mm, S, F, l, ⟨a, b, e, ⟨i, ha⟩, hb⟩, N, hd⟩ k =>
  h i h' g dr os Q E ⟨mm, S, F, l, ⟨a, b, e, ha, hb⟩, N, hd⟩ k
theorem go_andR {P : Prop} {r : Res} {t : Sem α} {K : Kt α} (h : P → Go w c ⟨τ, m, r :: n⟩ t K) : Go w c ⟨τ, m, (fun l => P ∧ r l) :: n⟩ t K := fun h' g dr os Q E ⟨mm, S, F, l, ⟨a, b, e, ⟨hp, ha⟩, hb⟩, N, hd⟩ k =>
  h hp h' g dr os Q E ⟨mm, S, F, l, ⟨a, b, e, ha, hb⟩, N, hd⟩ k
theorem go_holdsR {rs : List Res} {t : Sem α} {K : Kt α} (h : Go w c ⟨τ, m, rs ++ n⟩ t K) : Go w c ⟨τ, m, Holds rs :: n⟩ t K := fun h' g dr os Q E ⟨mm, S, F, l, ⟨a, b, e, ha, hb⟩, N, hd⟩ k =>
  h h' g dr os Q E ⟨mm, S, F, l, e ▸ holds_append ha hb, N, hd⟩ k
theorem go_diskR {dk fs sh : Addr} {t : Sem α} {K : Kt α} (h : ∀ s1 st t' lk, Go w c ⟨τ, m, inst w dk 633 (fsD fs sh s1 (.int st t') lk) :: n⟩ t K) : Go w c ⟨τ, m, diskR w dk fs sh :: n⟩ t K := go_exR fun s1 => go_exR fun st => go_exR fun t' => go_exR fun lk => h s1 st t' lk
theorem go_fileR {fl dk : Addr} {q : Nat} {ks : List Int} {t : Sem α} {K : Kt α} (h : ∀ pn nw nm sy vs, vs.length = q → Go w c ⟨τ, m, inst w fl 555 (fsF dk pn nw nm sy) :: lstV pn vs :: baR nw ks :: n⟩ t K) : Go w c ⟨τ, m, fileR w fl dk q ks :: n⟩ t K :=
  go_exR fun pn => go_exR fun nw => go_exR fun nm => go_exR fun sy => go_exR fun vs => go_andR fun hv => go_holdsR (h pn nw nm sy vs hv)
theorem go_ixR {ix : Addr} {I : Ix} {t : Sem α} {K : Kt α} (h : ∀ fr pl cu sa su t1 t2 v1 v2 v3 vs kvs, vs.length = I.nf → kvs.length ≤ cnB I.sums → Go w c ⟨τ, m, inst w ix 174 (fsI fr pl cu sa su (.int I.last t1) v1 (.int I.number t2) v2 v3) :: lstV fr vs :: plR w pl I.nf :: dctI w cu kvs :: prR sa I.salts :: prR su I.sums :: n⟩ t K) : Go w c ⟨τ, m, ixR w ix I :: n⟩ t K :=
  go_exR fun fr => go_exR fun pl => go_exR fun cu => go_exR fun sa => go_exR fun su => go_exR fun t1 => go_exR fun t2 => go_exR fun v1 => go_exR fun v2 => go_exR fun v3 => go_exR fun vs => go_exR fun kvs => go_andR fun h1 => go_andR fun h2 => go_holdsR (h fr pl cu sa su t1 t2 v1 v2 v3 vs kvs h1 h2)
theorem file_of {fl dk pn nw : Addr} {nm sy : Value} {vs : List Value} {q : Nat} {ks : List Int} (h : vs.length = q) : ∀ l, Holds [inst w fl 555 (fsF dk pn nw nm sy), lstV pn vs, baR nw ks] l → fileR w fl dk q ks l := fun l hl => ⟨pn, nw, nm, sy, vs, h, hl⟩
theorem ix_of {ix fr pl cu sa su : Addr} {t1 t2 : Tok} {v1 v2 v3 : Value} {vs : List Value} {kvs : List (Int × Value)} {I : Ix} (h : vs.length = I.nf) (hk : kvs.length ≤ cnB I.sums) :
    ∀ l, Holds [inst w ix 174 (fsI fr pl cu sa su (.int I.last t1) v1 (.int I.number t2) v2 v3), lstV fr vs, plR w pl I.nf, dctI w cu kvs, prR sa I.salts, prR su I.sums] l → ixR w ix I l := fun l hl => ⟨fr, pl, cu, sa, su, t1, t2, v1, v2, v3, vs, kvs, h, hk, hl⟩
theorem pl_0 {pl : Addr} {l : Led} (h : dct0 w pl l) : plR w pl 0 l := by
  obtain ⟨o, _, hi, lo, rfl⟩ := h
  exact ⟨o, [], [], hi, lo, Nat.le_refl _, rfl, fun pg v e => by cases e⟩
theorem go_addS {x y z : Str} {t u : Tok} {K : Kt Value} (e : x ++ y = z) (hz : x.length + y.length ≤ 1000) (k : ∀ t τ, K (.str z t) ⟨τ, m, n⟩) : Go w c ⟨τ, m, n⟩ (binaryOp .Add (.str x t) (.str y u)) K :=
  go_any fun h' _ _ _ Q E o q => add_str (fun t' tk => q _ tk m n h' (by rw [e]; exact k t' tk) o) (by rw [sizeLine_eq]; omega)
end
end Mine

end

-- GC
section
open PySem PySem.W PySem.Calls PyProof.Rows
namespace Mine
theorem filled_GC : (fun (_ : OpenLaw) (_ : Params → Frag) => True) PySem.Challenge.rw_xw0240_01 Mine.hd.heap_39 := by k_fill; exact trivial
theorem clsOk_mk {K : Frag} {C : Addr} {xs : List Str} (h1 : plainGet K C "" = true) (h2 : hasDictIn K C = true) (h3 : findIn K (.ref C) "__setattr__" = some (some (.builtin "object.__setattr__"))) (h4 : plainOver K C = true) (h5 : ∀ x ∈ xs, findIn K (.ref C) x = some none) : clsOk K C xs = true := by
  unfold clsOk
  rw [h1, h2, h3, h4, beq_self_eq_true, Bool.and_self, Bool.and_self, Bool.and_self, Bool.true_and]
  exact List.all_eq_true.mpr fun x hx => by rw [h5 x hx]; exact beq_self_eq_true _
section
variable {w : World}
theorem ok633 : clsOk (Mine.hd.heap_39 w.params) 633 xsD = true := clsOk_mk (by k_is) (by k_is) (by k_is) (by k_is) (by (repeat (refine List.forall_mem_cons.mpr ⟨by k_is, ?_⟩)); exact List.forall_mem_nil _)
theorem ok350 : clsOk (Mine.hd.heap_39 w.params) 350 xsW = true := clsOk_mk (by k_is) (by k_is) (by k_is) (by k_is) (by (repeat (refine List.forall_mem_cons.mpr ⟨by k_is, ?_⟩)); exact List.forall_mem_nil _)
theorem ok555 : clsOk (Mine.hd.heap_39 w.params) 555 xsF = true := clsOk_mk (by k_is) (by k_is) (by k_is) (by k_is) (by (repeat (refine List.forall_mem_cons.mpr ⟨by k_is, ?_⟩)); exact List.forall_mem_nil _)
theorem ok174 : clsOk (Mine.hd.heap_39 w.params) 174 xsI = true := clsOk_mk (by k_is) (by k_is) (by k_is) (by k_is) (by (repeat (refine List.forall_mem_cons.mpr ⟨by k_is, ?_⟩)); exact List.forall_mem_nil _)
end
end Mine

end

-- GD
section
open PySem PySem.W PySem.Calls PyProof.Rows
open Sem (wp)
namespace Mine
/-- the value v is the datum d, told by the resources -/
noncomputable def Data (n : List Res) (v : Value) (d : PyData) : Prop := ∀ l, Holds n l → ∀ h : Heap, (∀ p ∈ l, h.get? p.1 = some p.2) → ∃ as, PySem.Reads h v d as
noncomputable def Datas (n : List Res) (vs : List Value) (ds : List PyData) : Prop := ∀ l, Holds n l → ∀ h : Heap, (∀ p ∈ l, h.get? p.1 = some p.2) → ∃ as, PySem.ReadsAll h vs ds as
section
variable {n : List Res}
theorem data_none : Data n .none .none := fun _ _ _ _ => ⟨_, .none⟩
theorem data_int {x : Int} {t : Tok} : Data n (.int x t) (.int x) := fun _ _ _ _ => ⟨_, .int x t⟩
theorem datas_nil : Datas n [] [] := fun _ _ _ _ => ⟨_, .nil⟩
theorem datas_cons {v : Value} {vs : List Value} {d : PyData} {ds : List PyData} (h1 : Data n v d) (h2 : Datas n vs ds) : Datas n (v :: vs) (d :: ds) := fun l hl h hh =>
  let ⟨_, r1⟩ := h1 l hl h hh
  let ⟨_, r2⟩ := h2 l hl h hh
  ⟨_, .cons r1 r2⟩
theorem reads_ints {h : Heap} {vs : List Value} {ks : List Int} (hi : IntsAre vs ks) : ∃ as, PySem.ReadsAll h vs (ks.map .int) as := by
  induction hi with
  | nil => exact ⟨_, .nil⟩
  | cons x t _ ih => obtain ⟨as, r⟩ := ih; exact ⟨_, .cons (.int x t) r⟩
theorem data_tupO {D : Addr} {vs : List Value} {ds : List PyData} (hm : ob D (tupO vs) ∈ n) (h : Datas n vs ds) : Data n (.ref D) (.tuple ds) := fun l hl hp hh => by
  obtain ⟨_, rfl, hsub⟩ := holds_mem hl hm
  obtain ⟨as, r⟩ := h l hl hp hh
  exact ⟨_, .tuple (hh _ (hsub _ (.head _))) rfl rfl r⟩
theorem data_tupI {D : Addr} {ks : List Int} (hm : tupI D ks ∈ n) : Data n (.ref D) (.tuple (ks.map .int)) := fun l hl hp hh => by
  obtain ⟨_, ⟨vs, hi, rfl⟩, hsub⟩ := holds_mem hl hm
  obtain ⟨as, r⟩ := reads_ints (h := hp) hi
  exact ⟨_, .tuple (hh _ (hsub _ (.head _))) rfl rfl r⟩
theorem data_tup2 {D : Addr} {x y : Int} (hm : tupI D [x, y] ∈ n) : Data n (.ref D) (.tuple [.int x, .int y]) := data_tupI hm
theorem data_lstI {D : Addr} {ks : List Int} (hm : lstI D ks ∈ n) : Data n (.ref D) (.list (ks.map .int)) := fun l hl hp hh => by
  obtain ⟨_, ⟨vs, k, hi, rfl⟩, hsub⟩ := holds_mem hl hm
  obtain ⟨as, r⟩ := reads_ints (h := hp) hi
  exact ⟨_, .list (hh _ (hsub _ (.head _))) rfl rfl r⟩
end
section
variable {α β : Type} {w : World} {c : Cx} {τ : Nat} {m : Map} {n n' n1 : List Res} {sc : Scope} {d : Nat}
theorem own_data {h : Heap} {v : Value} {da : PyData} (o : Own c m n h) (hd : Data n v da) : ∃ as, PySem.Reads h v da as := by
  obtain ⟨_, _, _, l, hl, N, _⟩ := o
  exact hd l hl h fun p hp => (N p hp).1
theorem go_eqD {a b : Value} {da db : PyData} {K : Kt Value} (A : At w c sc d) (h1 : Data n a da) (h2 : Data n b db) (s1 : PySem.SeqAt.shaped da = true) (s2 : PySem.SeqAt.shaped db = true) (k : K (.bool (PyData.eqv da db)) ⟨τ, m, n⟩) : Go w c ⟨τ, m, n⟩ (compareOp .Eq a b) K := go_val (fun _ _ _ _ _ _ o q => by
  obtain ⟨_, r1⟩ := own_data o h1
  obtain ⟨_, r2⟩ := own_data o h2
  exact eq_dataH r1 r2 s1 s2 (by have := A.hu; show c.un + 64 < _; omega) q) k
theorem go_neD {a b : Value} {da db : PyData} {K : Kt Value} (A : At w c sc d) (h1 : Data n a da) (h2 : Data n b db) (s1 : PySem.SeqAt.shaped da = true) (s2 : PySem.SeqAt.shaped db = true) (k : K (.bool (!PyData.eqv da db)) ⟨τ, m, n⟩) : Go w c ⟨τ, m, n⟩ (compareOp .NotEq a b) K := go_val (fun _ _ _ _ _ _ o q => by
  obtain ⟨_, r1⟩ := own_data o h1
  obtain ⟨_, r2⟩ := own_data o h2
  exact ne_dataH r1 r2 s1 s2 (by have := A.hu; show c.un + 64 < _; omega) q) k
theorem eqv_pair {a b x y : Int} : PyData.eqv (.tuple [.int a, .int b]) (.tuple [.int x, .int y]) = (a == x && b == y) := by simp [PyData.eqv, PyData.eqvAll]
theorem shaped_pair {a b : Int} : PySem.SeqAt.shaped (.tuple [.int a, .int b]) = true := by rfl
theorem go_ne2 {u v : Value} {a b x y : Int} {K : Kt Value} (A : At w c sc d) (h1 : Data n u (.tuple [.int a, .int b])) (h2 : Data n v (.tuple [.int x, .int y])) (k : K (.bool (!(a == x && b == y))) ⟨τ, m, n⟩) : Go w c ⟨τ, m, n⟩ (compareOp .NotEq u v) K :=
  go_neD A h1 h2 shaped_pair shaped_pair (by rw [eqv_pair]; exact k)
theorem go_eq2 {u v : Value} {a b x y : Int} {K : Kt Value} (A : At w c sc d) (h1 : Data n u (.tuple [.int a, .int b])) (h2 : Data n v (.tuple [.int x, .int y])) (k : K (.bool (a == x && b == y)) ⟨τ, m, n⟩) : Go w c ⟨τ, m, n⟩ (compareOp .Eq u v) K :=
  go_eqD A h1 h2 shaped_pair shaped_pair (by rw [eqv_pair]; exact k)
/-- octets that are alike -/
theorem go_neB {u v : Value} {ks : List Int} {σ : St} {K : Kt Value} (h1 : IsB u ks) (h2 : IsB v ks) (k : K (.bool false) σ) : Go w c σ (compareOp .NotEq u v) K := go_val (fun _ _ _ _ _ _ o q => by
  obtain ⟨b, t, rfl, hb⟩ := h1
  obtain ⟨b', t', rfl, hb'⟩ := h2
  exact ne_bytes (by rw [bytes_same hb hb', bne_self_eq_false]; exact q)) k
-- attributes and methods of what is kept whole
/-- among what r owns lies an object of C at a -/
noncomputable def HasI (w : World) (r : Res) (a C : Addr) (P : Fs → Prop) : Prop := ∀ l, r l → ∃ fs l', P fs ∧ inst w a C fs l' ∧ ∀ p ∈ l', p ∈ l
theorem hasI_w {wl dk fl ix : Addr} {size : Int} : HasI w (walR w wl dk fl ix size) wl 350 fun fs => ∃ t1 t2 t3, fs = fsW dk (.str (Str.ofString "a") t1) (.int size t2) (.str (Str.ofString "a-wal") t3) (.ref fl) (.ref ix) := fun l ⟨t1, t2, t3, h⟩ => ⟨_, l, ⟨t1, t2, t3, rfl⟩, h, fun _ h => h⟩
theorem hasI_d {dk fs sh : Addr} : HasI w (diskR w dk fs sh) dk 633 fun f => ∃ s1 st t lk, f = fsD fs sh s1 (.int st t) lk := fun l ⟨s1, st, t, lk, h⟩ => ⟨_, l, ⟨s1, st, t, lk, rfl⟩, h, fun _ h => h⟩
theorem hasI_ex {ι : Type} {P : ι → Res} {a C : Addr} {Q : Fs → Prop} (h : ∀ i, HasI w (P i) a C Q) : HasI w (fun l => ∃ i, P i l) a C Q := fun l h' => h'.elim fun i h'' => h i l h''
theorem hasI_and {p : Prop} {r : Res} {a C : Addr} {Q : Fs → Prop} (h : HasI w r a C Q) : HasI w (fun l => p ∧ r l) a C Q := fun l h' => h l h'.2
theorem hasI_hd {a C : Addr} {fs : Fs} {rs : List Res} {Q : Fs → Prop} (hQ : Q fs) : HasI w (Holds (inst w a C fs :: rs)) a C Q := fun _ ⟨x, _, e, h, _⟩ => ⟨fs, x, hQ, h, fun _ hp => e ▸ List.mem_append_left _ hp⟩
theorem hasI_f {fl dk : Addr} {q : Nat} {ks : List Int} : HasI w (fileR w fl dk q ks) fl 555 fun f => ∃ pn nw nm sy, f = fsF dk pn nw nm sy := hasI_ex fun pn => hasI_ex fun nw => hasI_ex fun nm => hasI_ex fun sy => hasI_ex fun _ => hasI_and (hasI_hd ⟨pn, nw, nm, sy, rfl⟩)
theorem hasI_i {ix : Addr} {I : Ix} : HasI w (ixR w ix I) ix 174 fun f => ∃ fr pl cu sa su t1 t2 v1 v2 v3, f = fsI fr pl cu sa su (.int I.last t1) v1 (.int I.number t2) v2 v3 := hasI_ex fun fr => hasI_ex fun pl => hasI_ex fun cu => hasI_ex fun sa => hasI_ex fun su => hasI_ex fun t1 => hasI_ex fun t2 => hasI_ex fun v1 => hasI_ex fun v2 => hasI_ex fun v3 => hasI_ex fun _ => hasI_ex fun _ => hasI_and (hasI_and (hasI_hd ⟨fr, pl, cu, sa, su, t1, t2, v1, v2, v3, rfl⟩))
theorem own_hasI {h : Heap} {r : Res} {a C : Addr} {P : Fs → Prop} (o : Own c m n h) (hm : r ∈ n) (hI : HasI w r a C P) : ∃ fs d es k, P fs ∧ Ents w fs es ∧ News c.h₀ c.L h [(a, instObj C d), (d, dictOf es k)] := by
  obtain ⟨l, hl, N⟩ := own_has o hm
  obtain ⟨fs, l', hp, ⟨d, es, k, E, _, rfl⟩, hs⟩ := hI l hl
  exact ⟨fs, d, es, k, hp, E, fun p hp => N p (hs p hp)⟩
theorem go_methR {r : Res} {a C f : Addr} {x : Str} {pl : Sem Bool} {xs : List Str} {P : Fs → Prop} {K : Kt (Value × List Value)} (A : At w c sc d) (hm : r ∈ n) (hI : HasI w r a C P) (hC : clsOk (Mine.hd.heap_39 w.params) C xs = true) (hf : findIn (Mine.hd.heap_39 w.params) (.ref C) x = some (some (.ref f))) (ht : isFn (Mine.hd.heap_39 w.params) (.ref f) = true) (hv : ∀ fs, P fs → fs.lookup x = none) (k : K (.ref f, [.ref a]) ⟨τ, m, n⟩) :
    Go w c ⟨τ, m, n⟩ (getMethod (.ref a) x pl) K := go_val (fun _ _ _ _ _ _ o q => by
  obtain ⟨fs, d, es, k, hp, E, N⟩ := own_hasI o hm hI
  exact method_inst o.choose_spec.2.1 A.X (InstAt.of_news N (.head _) (.tail _ (.head _))) ((clsOk_of hC).g x) hf ht (E.get (hv fs hp)) q) k
theorem go_getR {r : Res} {a C : Addr} {x : Str} {expr : Bool} {xs : List Str} {P : Fs → Prop} {R : Value → Prop} {K : Kt Value} (A : At w c sc d) (hm : r ∈ n) (hI : HasI w r a C P) (hC : clsOk (Mine.hd.heap_39 w.params) C xs = true) (hx : xs.elem x = true) (hv : ∀ fs, P fs → ∃ v, fs.lookup x = some v ∧ handedIn v = true ∧ R v) (k : ∀ v, R v → K v ⟨.succ τ, m, n⟩) :
    Go w c ⟨τ, m, n⟩ (getAttr (.ref a) x expr) K := go_any fun h _ _ _ Q E o q => by
  obtain ⟨fs, d, es, kk, hp, E, N⟩ := own_hasI o hm hI
  obtain ⟨v, hl, hh, hr⟩ := hv fs hp
  have C' := clsOk_of hC
  exact get_own o.choose_spec.2.1 A.X (InstAt.of_news N (.head _) (.tail _ (.head _))) (C'.g x) C'.h (C'.n x (List.elem_iff.mp hx)) rfl (E.get hl) hh (q v _ m n h (k v hr) o)
theorem go_wFile {wl dk fl ix : Addr} {size : Int} {expr : Bool} {K : Kt Value} (A : At w c sc d) (hm : walR w wl dk fl ix size ∈ n) (k : K (.ref fl) ⟨.succ τ, m, n⟩) : Go w c ⟨τ, m, n⟩ (getAttr (.ref wl) (Str.ofString "file") expr) K :=
  go_getR (R := fun v => v = .ref fl) A hm hasI_w ok350 rfl (by rintro _ ⟨t1, t2, t3, rfl⟩; exact ⟨_, rfl, rfl, rfl⟩) (by rintro _ rfl; exact k)
theorem go_wIndex {wl dk fl ix : Addr} {size : Int} {expr : Bool} {K : Kt Value} (A : At w c sc d) (hm : walR w wl dk fl ix size ∈ n) (k : K (.ref ix) ⟨.succ τ, m, n⟩) : Go w c ⟨τ, m, n⟩ (getAttr (.ref wl) (Str.ofString "index") expr) K :=
  go_getR (R := fun v => v = .ref ix) A hm hasI_w ok350 rfl (by rintro _ ⟨t1, t2, t3, rfl⟩; exact ⟨_, rfl, rfl, rfl⟩) (by rintro _ rfl; exact k)
theorem go_wSize {wl dk fl ix : Addr} {size : Int} {expr : Bool} {K : Kt Value} (A : At w c sc d) (hm : walR w wl dk fl ix size ∈ n) (k : ∀ t, K (.int size t) ⟨.succ τ, m, n⟩) : Go w c ⟨τ, m, n⟩ (getAttr (.ref wl) (Str.ofString "page_size") expr) K :=
  go_getR (R := fun v => ∃ t, v = .int size t) A hm hasI_w ok350 rfl (by rintro _ ⟨t1, t2, t3, rfl⟩; exact ⟨_, rfl, rfl, _, rfl⟩) (by rintro _ ⟨t, rfl⟩; exact k t)
theorem go_iLast {ix : Addr} {I : Ix} {expr : Bool} {K : Kt Value} (A : At w c sc d) (hm : ixR w ix I ∈ n) (k : ∀ t, K (.int I.last t) ⟨.succ τ, m, n⟩) : Go w c ⟨τ, m, n⟩ (getAttr (.ref ix) (Str.ofString "last") expr) K :=
  go_getR (R := fun v => ∃ t, v = .int I.last t) A hm hasI_i ok174 rfl (by rintro _ ⟨fr, pl, cu, sa, su, t1, t2, v1, v2, v3, rfl⟩; exact ⟨_, rfl, rfl, _, rfl⟩) (by rintro _ ⟨t, rfl⟩; exact k t)
theorem go_wMeth {wl dk fl ix f : Addr} {size : Int} {x : Str} {pl : Sem Bool} {K : Kt (Value × List Value)} (A : At w c sc d) (hm : walR w wl dk fl ix size ∈ n) (hf : findIn (Mine.hd.heap_39 w.params) (.ref 350) x = some (some (.ref f))) (ht : isFn (Mine.hd.heap_39 w.params) (.ref f) = true) (hn : ∀ v1 v2 v3, (fsW dk v1 v2 v3 (.ref fl) (.ref ix)).lookup x = none) (k : K (.ref f, [.ref wl]) ⟨τ, m, n⟩) : Go w c ⟨τ, m, n⟩ (getMethod (.ref wl) x pl) K :=
  go_methR A hm hasI_w ok350 hf ht (by rintro _ ⟨t1, t2, t3, rfl⟩; exact hn _ _ _) k
theorem go_fMeth {fl dk f : Addr} {q : Nat} {ks : List Int} {x : Str} {pl : Sem Bool} {K : Kt (Value × List Value)} (A : At w c sc d) (hm : fileR w fl dk q ks ∈ n) (hf : findIn (Mine.hd.heap_39 w.params) (.ref 555) x = some (some (.ref f))) (ht : isFn (Mine.hd.heap_39 w.params) (.ref f) = true) (hn : ∀ pn nw nm sy, (fsF dk pn nw nm sy).lookup x = none) (k : K (.ref f, [.ref fl]) ⟨τ, m, n⟩) : Go w c ⟨τ, m, n⟩ (getMethod (.ref fl) x pl) K :=
  go_methR A hm hasI_f ok555 hf ht (by rintro _ ⟨pn, nw, nm, sy, rfl⟩; exact hn _ _ _ _) k
theorem go_dMeth {dk fs sh f : Addr} {x : Str} {pl : Sem Bool} {K : Kt (Value × List Value)} (A : At w c sc d) (hm : diskR w dk fs sh ∈ n) (hf : findIn (Mine.hd.heap_39 w.params) (.ref 633) x = some (some (.ref f))) (ht : isFn (Mine.hd.heap_39 w.params) (.ref f) = true) (hn : ∀ s1 st lk, (fsD fs sh s1 st lk).lookup x = none) (k : K (.ref f, [.ref dk]) ⟨τ, m, n⟩) : Go w c ⟨τ, m, n⟩ (getMethod (.ref dk) x pl) K :=
  go_methR A hm hasI_d ok633 hf ht (by rintro _ ⟨s1, st, t, lk, rfl⟩; exact hn _ _ _) k
theorem go_iMeth {ix f : Addr} {I : Ix} {x : Str} {pl : Sem Bool} {K : Kt (Value × List Value)} (A : At w c sc d) (hm : ixR w ix I ∈ n) (hf : findIn (Mine.hd.heap_39 w.params) (.ref 174) x = some (some (.ref f))) (ht : isFn (Mine.hd.heap_39 w.params) (.ref f) = true) (hn : ∀ fr pl cu sa su la v1 nu v2 v3, (fsI fr pl cu sa su la v1 nu v2 v3).lookup x = none) (k : K (.ref f, [.ref ix]) ⟨τ, m, n⟩) : Go w c ⟨τ, m, n⟩ (getMethod (.ref ix) x pl) K :=
  go_methR A hm hasI_i ok174 hf ht (by rintro _ ⟨fr, pl, cu, sa, su, t1, t2, v1, v2, v3, rfl⟩; exact hn _ _ _ _ _ _ _ _ _ _) k
theorem less_cons {r : Res} {x x' n' : List Res} (p : Pick r x x') (h : Less n' x') : Less (r :: n') x := .fold (.cons p .nil) (fun l ⟨_, _, e, h, hn⟩ => by subst hn; rw [e, List.append_nil]; exact h) (.keep (fun _ h => h) h)
theorem less_fold {r : Res} {rs x x' n' : List Res} (p : Picks rs x x') (hr : ∀ l, Holds rs l → r l) (h : Less n' x') : Less (r :: n') x := .fold p hr (.keep (fun _ h => h) h)
theorem pick6 {a b c d e f : Res} {n n1 n2 n3 n4 n5 n6 : List Res} (h1 : Pick a n n1) (h2 : Pick b n1 n2) (h3 : Pick c n2 n3) (h4 : Pick d n3 n4) (h5 : Pick e n4 n5) (h6 : Pick f n5 n6) : Picks [a, b, c, d, e, f] n n6 := .cons h1 (.cons h2 (.cons h3 (.cons h4 (.cons h5 (.cons h6 .nil)))))
end
end Mine

end

-- GE
section
open PySem PySem.W PySem.Calls PyProof.Rows
open Sem (wp)
namespace Mine
theorem stored_mem {kvs : List (Int × Value)} {pg k : Int} {v u : Value} (h : valueAt kvs pg = none) (hu : valueAt (stored kvs pg v) k = some u) : u = v ∨ valueAt kvs k = some u := by
  rw [stored_absent h] at hu
  unfold valueAt at hu ⊢
  rw [List.find?_append] at hu
  cases e : kvs.find? (fun kv => kv.1 = k) with
  | some p => rw [e] at hu; exact .inr hu
  | none =>
    rw [e] at hu
    simp only [Option.none_or, List.find?_cons, List.find?_nil] at hu
    split at hu
    · exact .inl (by simpa using hu.symm)
    · cases hu
section
variable {α β : Type} {w : World} {c : Cx} {ev : Env} {τ : Nat} {m : Map} {n n' n1 : List Res} {sc : Scope} {d : Nat}
-- pages' places, item by item
theorem pl_G {pl : Addr} {q : Nat} {l : Led} (h : plR w pl q l) : plG w pl q q (fun _ => False) none l := by
  obtain ⟨o, kvs, ls, hd, lo, hk, rfl, hm⟩ := h
  exact ⟨o, kvs, ls, hd, lo, hk, rfl, fun pg v e => let ⟨D, iv, k, e1, e2, e3⟩ := hm pg v e; ⟨D, e1, .inr ⟨iv, k, e2, e3⟩⟩, fun _ _ e => by cases e⟩
theorem go_plNotIn {pl : Addr} {q : Nat} {pg : Int} {t : Tok} {K : Kt Value} (hp : Pick (plR w pl q) n n1) (k1 : K (.bool true) ⟨.succ τ, m, plG w pl q q (fun _ => False) (some (pg, false)) :: n1⟩) (k2 : K (.bool false) ⟨.succ τ, m, plG w pl q q (fun _ => False) (some (pg, true)) :: n1⟩) :
    Go w c ⟨τ, m, n⟩ (compareOp .NotIn (.int pg t) (.ref pl)) K := go_pick hp (go_any fun h _ _ _ Q E ⟨mm, S, F, l, ⟨l1, b, e, hr, hb⟩, N, hd⟩ q => by
  obtain ⟨o, kvs, ls, hD, lo, hk, e2, hm, _⟩ := pl_G hr
  have N1 : News c.h₀ c.L h l1 := fun p hp => N p (e ▸ List.mem_append_left _ hp)
  refine kdg_notin (knd := PySem.intKind pw w) N1 (e2 ▸ .head _) hD lo (intKind_is _ _ _ _) _ rfl ?_
  cases hv : (valueAt kvs pg).isSome with
  | false => exact q _ _ m _ h k1 ⟨mm, S, F, l, ⟨l1, b, e, ⟨o, kvs, ls, hD, lo, hk, e2, hm, fun pg' b' e => by cases e; exact hv⟩, hb⟩, N, hd⟩
  | true => exact q _ _ m _ h k2 ⟨mm, S, F, l, ⟨l1, b, e, ⟨o, kvs, ls, hD, lo, hk, e2, hm, fun pg' b' e => by cases e; exact hv⟩, hb⟩, N, hd⟩)
theorem go_plSet {pl D : Addr} {q : Nat} {pg : Int} {t : Tok} {K : Kt Unit} (hp : Picks [plG w pl q q (fun _ => False) (some (pg, false)), lstV D []] n n1) (hz : q ≤ 1000) (k : K () ⟨.succ τ, m, plG w pl (q + 1) q (fun _ => False) (some (pg, true)) :: n1⟩) :
    Go w c ⟨τ, m, n⟩ (setItem (.ref pl) (.int pg t) (.ref D)) K := go_picks hp (go_any fun h _ _ _ Q E o q => by
  obtain ⟨mm, S, F, l, ⟨l1, b1, e1, hr, l2, b, e2, ⟨kn, e3⟩, hb⟩, N, hd⟩ := o
  obtain ⟨ob, kvs, ls, hD, lo, hk, e4, hm, hs⟩ := hr
  subst e4 e3 e2 e1
  have hv : valueAt kvs pg = none := by have := hs pg false rfl; simpa using this
  have hd' : (([(pl, ob)] ++ (ls ++ ([(D, listOf [].toArray kn)] ++ b))).map (·.1)).Nodup := by simpa using hd
  have N' : News c.h₀ c.L h ([(pl, ob)] ++ (ls ++ ([(D, listOf [].toArray kn)] ++ b))) := by simpa using N
  refine kda_set (knd := PySem.intKind pw w) F N' (updF_front hd') hD (intKind_is _ _ _ _) (by rw [sizeLine_eq]; omega) fun h' o' F' N'' hD' => ?_
  refine q () _ m _ h' k ⟨mm, S, F', _, ⟨(pl, o') :: (ls ++ [(D, listOf [].toArray kn)]), b, rfl, ⟨o', _, _, hD', lo, ?_, rfl, fun pg' v e => ?_, fun pg' b' e => ?_⟩, hb⟩, by simpa using N'', by simpa using hd⟩
  · have := stored_length_le kvs pg (.ref D); omega
  · rcases stored_mem hv e with rfl | e
    · exact ⟨D, rfl, .inr ⟨[], kn, List.mem_append_right _ (.head _), Nat.zero_le _⟩⟩
    · obtain ⟨D', e1, e3⟩ := hm pg' v e
      exact ⟨D', e1, e3.imp id fun ⟨iv, k, e4, e5⟩ => ⟨iv, k, List.mem_append_left _ e4, e5⟩⟩
  · cases e; rw [valueAt_new hv]; rfl)
theorem go_plItem {value slice : Expr} {pl : Addr} {a q : Nat} {pg : Int} {u : Tok} {K : Kt Value} (hp : Pick (plG w pl a q (fun _ => False) (some (pg, true))) n n1) (k : ∀ D iv, iv.length ≤ q → K (.ref D) ⟨.succ τ, m, lstV D iv :: plG w pl a q (fun x => x = D) none :: n1⟩)
    (hs : subscripted slice false (.ref pl) (.int pg u) = operate [.ref pl, .int pg u] (getItem (.ref pl) (.int pg u))) : Go w c ⟨τ, m, n⟩ (subscriptTail value slice (.ref pl) (.int pg u)) K := go_pick hp (go_head fun h _ _ _ Q E mm l1 b S F hr hb N hd q' => by
  obtain ⟨o, kvs, ls, hD, lo, hk, rfl, hm, hh⟩ := hr
  obtain ⟨v, hv⟩ := Option.isSome_iff_exists.mp (hh pg true rfl)
  obtain ⟨D, rfl, hx | ⟨iv, kn, hin, hl⟩⟩ := hm pg v hv
  · exact hx.elim
  · refine kdt_tail (knd := PySem.intKind pw w) N (.head _) hD (kdt_getItem (knd := PySem.intKind pw w) N (.head _) hD (intKind_is _ _ _ _) hv ?_) hs
    obtain ⟨s, t, e⟩ := List.append_of_mem hin
    subst e
    have hperm : ([(D, listOf iv.toArray kn)] ++ ((pl, o) :: (s ++ t) ++ b)).Perm (((pl, o) :: (s ++ (D, listOf iv.toArray kn) :: t)) ++ b) := by
      refine (List.Perm.append_right b (l₁ := (D, listOf iv.toArray kn) :: (pl, o) :: (s ++ t)) ?_)
      exact (List.Perm.swap _ _ _).trans (List.Perm.cons _ List.perm_middle.symm)
    refine q' _ _ m _ h (k D iv hl) ⟨mm, S, F, _, ⟨[(D, listOf iv.toArray kn)], _, rfl, ⟨kn, rfl⟩, ⟨(pl, o) :: (s ++ t), b, rfl, ⟨o, kvs, s ++ t, hD, lo, hk, rfl, fun pg' v' e => ?_, fun _ _ e => by cases e⟩, hb⟩⟩, fun p hp => N p (hperm.mem_iff.mp hp), (hperm.map _).nodup_iff.mpr hd⟩
    obtain ⟨D', e1, e3⟩ := hm pg' v' e
    refine ⟨D', e1, ?_⟩
    rcases e3 with e3 | ⟨iv', k', e4, e5⟩
    · exact e3.elim
    · rcases List.mem_append.mp e4 with e4 | e4
      · exact .inr ⟨iv', k', List.mem_append_left _ e4, e5⟩
      · rcases List.mem_cons.mp e4 with e4 | e4
        · exact .inl (congrArg Prod.fst e4)
        · exact .inr ⟨iv', k', List.mem_append_right _ e4, e5⟩)
theorem pl_close {pl D : Addr} {a' b' q : Nat} {iv : List Value} (ha : a' ≤ q) (hb : b' ≤ q) (hl : iv.length ≤ q) : ∀ l, Holds [plG w pl a' b' (fun x => x = D) none, lstV D iv] l → plR w pl q l := by
  rintro l ⟨a, b, e, ⟨o, kvs, ls, hD, lo, hk, e3, hm, _⟩, a2, b2, e2, ⟨kn, e1⟩, hn⟩
  subst hn e3 e2 e1 e
  refine ⟨o, kvs, ls ++ [(D, listOf iv.toArray kn)], hD, lo, Nat.le_trans hk ha, by simp, fun pg v e => ?_⟩
  obtain ⟨D', rfl, rfl | ⟨iv', k', e4, e5⟩⟩ := hm pg v e
  · exact ⟨_, iv, kn, rfl, List.mem_append_right _ (.head _), hl⟩
  · exact ⟨D', iv', k', rfl, List.mem_append_left _ e4, Nat.le_trans e5 hb⟩
/-- an index put together whose sums are not told -/
theorem ix_of0 {ix fr pl cu sa su : Addr} {t1 t2 : Tok} {v1 v2 v3 : Value} {vs : List Value} {kvs : List (Int × Value)} {nf : Nat} {la nu : Int} {sl : Option (Int × Int)} (h : vs.length = nf) (hk : kvs.length ≤ 11) :
    ∀ l, Holds [inst w ix 174 (fsI fr pl cu sa su (.int la t1) v1 (.int nu t2) v2 v3), lstV fr vs, plR w pl nf, dctI w cu kvs, prR sa sl] l → ixR w ix ⟨nf, la, nu, sl, none⟩ l := fun l hl => ⟨fr, pl, cu, sa, su, t1, t2, v1, v2, v3, vs, kvs, h, hk, by
  obtain ⟨a1, b1, e1, h1, a2, b2, e2, h2, a3, b3, e3, h3, a4, b4, e4, h4, a5, b5, e5, h5, hn⟩ := hl
  exact ⟨a1, b1, e1, h1, a2, b2, e2, h2, a3, b3, e3, h3, a4, b4, e4, h4, a5, b5, e5, h5, [], [], by rw [hn]; rfl, rfl, rfl⟩⟩
theorem pick5 {a b c d e : Res} {n n1 n2 n3 n4 n5 : List Res} (h1 : Pick a n n1) (h2 : Pick b n1 n2) (h3 : Pick c n2 n3) (h4 : Pick d n3 n4) (h5 : Pick e n4 n5) : Picks [a, b, c, d, e] n n5 := .cons h1 (.cons h2 (.cons h3 (.cons h4 (.cons h5 .nil))))
-- names that are cells
noncomputable def isCell (sc : Scope) (x : Str) : Bool := sc.names.lookup x == some .cell && !(x == ("__debug__" : Str))
theorem isCell_of {sc : Scope} {x : Str} (h : isCell sc x = true) : sc.names.lookup x = some .cell ∧ (x == ("__debug__" : Str)) = false := by
  unfold isCell at h
  simp only [Bool.and_eq_true, beq_iff_eq, Bool.not_eq_true'] at h
  exact h
theorem go_bindCell {x : Str} {v : Value} {D : Addr} {v0 : Option Value} {cl0 : List (Str × Addr)} {K : Kt Unit} (a : At w c sc d) (hcl : c.cl = cl0) (hc : cl0.lookup x = some D) (k : K () ⟨τ, m, cellR D (some v) :: n⟩) (hl : isCell sc x = true) : Go w c ⟨τ, m, cellR D v0 :: n⟩ (bindName c.env x v) K := by
  unfold bindName
  exact go_bind (go_holding (go_point (go_bind (go_head fun _ _ _ _ Q E mm l1 b S F ha hb N hd q => by
    obtain ⟨o, rfl, ho⟩ := ha
    exact storeX_C F N (by rw [hcl]; exact hc) (updF_front hd) ho (fun h' o' F' N' ho' => q () _ m _ h' (go_point k) (own_turn S F' hb N' hd ⟨o', rfl, ho'⟩)) a.k (a.scope (isCell_of hl).1)))))
theorem go_asgCell {x : Str} {p : Pos} {v : Value} {D : Addr} {v0 : Option Value} {cl0 : List (Str × Addr)} {K : Kt Unit} (a : At w c sc d) (hcl : c.cl = cl0) (hc : cl0.lookup x = some D) (k : K () ⟨τ, m, cellR D (some v) :: n⟩) (hl : isCell sc x = true) : Go w c ⟨τ, m, cellR D v0 :: n⟩ (assign (.Name x p) c.env v) K := by
  rw [PySem.assign_Name]
  exact go_stand (go_bindCell a hcl hc k hl)
/-- two cells stored at once -/
noncomputable def Asg2C (w : World) (c : Cx) (Dx Dy : Addr) (vx vy : Option Value) (rest : List Stmt) (K : Kt Flow) (v : Value) (σ : St) : Prop := ∃ D a b n1, v = .ref D ∧ ob D (tupO [a, b]) ∈ σ.n ∧ Picks [cellR Dx vx, cellR Dy vy] σ.n n1 ∧ Go w c ⟨σ.τ, σ.m, cellR Dx (some a) :: cellR Dy (some b) :: n1⟩ (execs rest c.env) K
theorem asg2C {Dx Dy D : Addr} {vx vy : Option Value} {rest : List Stmt} {K : Kt Flow} {a b : Value} (hm : ob D (tupO [a, b]) ∈ n) (hp : Picks [cellR Dx vx, cellR Dy vy] n n1) (k : Go w c ⟨τ, m, cellR Dx (some a) :: cellR Dy (some b) :: n1⟩ (execs rest c.env) K) : Asg2C w c Dx Dy vx vy rest K (.ref D) ⟨τ, m, n⟩ := ⟨D, a, b, n1, rfl, hm, hp, k⟩
theorem go_swap2C {σ : St} {x y : Str} {Dx Dy : Addr} {vx vy : Option Value} {cl0 : List (Str × Addr)} {px py tp : Pos} {kk : Nat} {value : Expr} {pos : Pos} {rest : List Stmt} {K : Kt Flow} (a : At w c sc d) (hcl : c.cl = cl0) (hcx : cl0.lookup x = some Dx) (hcy : cl0.lookup y = some Dy) (h : Go w c σ (eval value c.env) (Asg2C w c Dx Dy vx vy rest K)) (hl : (isCell sc x && isCell sc y) = true)
    (hs : swapsWithSole [.Tuple [.Name x px, .Name y py] kk tp] value pos.line (envX c.cn sc c.L c.a c.ccd cl0) = pure false) (hw : swappedStores [.Tuple [.Name x px, .Name y py] kk tp] value (envX c.cn sc c.L c.a c.ccd cl0) = pure none) : Go w c σ (execs (.Assign [.Tuple [.Name x px, .Name y py] kk tp] value pos :: rest) c.env) K := by
  simp only [Bool.and_eq_true] at hl
  have he : c.env = envX c.cn sc c.L c.a c.ccd cl0 := by rw [a.env, ← hcl]
  refine go_seq ?_
  rw [exec_Assign, he, hs, hw, ← he]
  refine go_stand (go_bind (go_pure ?_))
  rw [if_neg (by decide)]
  refine go_bind (h.mono fun v σ h => go_bind (go_pure ?_))
  obtain ⟨D, u, v, n1, rfl, hm, hp, k⟩ := h
  show Go w c σ (do assignAll (.ref D) [assign (.Tuple [.Name x px, .Name y py] kk tp) c.env]; pure Flow.next) _
  refine go_bind ?_
  show Go w c σ (assign (.Tuple [.Name x px, .Name y py] kk tp) c.env (.ref D)) _
  refine go_unpack hm rfl rfl (go_inOrder (go_picks hp (go_asgCell a hcl hcx (go_inOrder ?_) hl.1)))
  exact go_pick (.tail .head) (go_asgCell a hcl hcy (go_pure (go_pure (go_pick (.tail .head) k))) hl.2)
-- the law's own argument, a list that lies below all
theorem own_arg {h : Heap} (A : At w c sc d) (o : Own c m n h) : ∃ vs, IntsAre vs c.arg.2 ∧ h.IsList c.arg.1 vs.toArray := A.arOn o.choose_spec.2.1.keep
theorem go_lenG {l : Addr} {ks : List Int} {K : Kt Value} (A : At w c sc d) (ha : c.arg = (l, ks)) (hz : ks.length ≤ 1000) (k : K (.int (ks.length : Nat) (.succ τ)) ⟨.succ (.succ τ), m, n⟩) : Go w c ⟨τ, m, n⟩ (call (.builtin "len") [.ref l] []) K := go_val (fun h _ _ _ _ _ o q => by
  obtain ⟨vs, hi, hl⟩ := own_arg A o
  rw [ha] at hi hl
  dsimp only at hi hl
  exact len_ints_fit hl hi (by omega) q) k
theorem go_itemG {value slice : Expr} {l : Addr} {ks : List Int} {k : Int} {u : Tok} {K : Kt Value} (A : At w c sc d) (ha : c.arg = (l, ks)) (h0 : 0 ≤ k) (h1 : k < (ks.length : Int)) (hz : ks.length ≤ 1000) (kk : ∀ t v, K (.int v t) ⟨τ, m, n⟩)
    (hs : subscripted slice false (.ref l) (.int k u) = operate [.ref l, .int k u] (getItem (.ref l) (.int k u))) : Go w c ⟨τ, m, n⟩ (subscriptTail value slice (.ref l) (.int k u)) K := go_any fun h' _ _ _ Q E o q => by
  obtain ⟨vs, hi, hl⟩ := own_arg A o
  rw [ha] at hi hl
  dsimp only at hi hl
  obtain ⟨t, hx⟩ := hi.get k.toNat _ (ints_getD h0 h1)
  exact tail_any hl.typeIs slot_list_getitem.lookup (wpAny_getItem_list hl h0 (by omega) (by simpa using hx) (q _ _ m n h' (kk t _) o)) hs
theorem go_max2 {a b : Int} {t u : Tok} {K : Kt Value} (k : ∀ t τ, K (.int (if b > a then b else a) t) ⟨τ, m, n⟩) : Go w c ⟨τ, m, n⟩ (call (.builtin "max") [.int a t, .int b u]) K := go_any fun hh g dr os Q E ⟨mm, S, F, l, hl, N, hd⟩ q =>
  max_two_N rfl F N fun h' tk F' N' => q _ tk m n h' (k _ _) ⟨mm, S, F', l, hl, N', hd⟩
theorem go_min2 {a b : Int} {t u : Tok} {K : Kt Value} (k : ∀ t τ, K (.int (if b < a then b else a) t) ⟨τ, m, n⟩) : Go w c ⟨τ, m, n⟩ (call (.builtin "min") [.int a t, .int b u]) K := go_any fun hh g dr os Q E ⟨mm, S, F, l, hl, N, hd⟩ q =>
  min_two_N rfl F N fun h' tk F' N' => q _ tk m n h' (k _ _) ⟨mm, S, F', l, hl, N', hd⟩
theorem go_intB {b : Bool} {K : Kt Value} (k : ∀ t τ, K (.int (if b then 1 else 0) t) ⟨τ, m, n⟩) : Go w c ⟨τ, m, n⟩ (call (.type "int") [.bool b] []) K := go_any fun h _ _ _ _ _ o q => call_int_bool (q _ _ _ _ h (k _ _) o)
theorem hold1 {r r' : Res} (h : ∀ l, r l → r' l) : ∀ l, Holds [r] l → r' l := fun l ⟨_, _, e, h', hn⟩ => by subst hn; rw [e, List.append_nil]; exact h _ h'
theorem ite_bt {b : Bool} {A B : Prop} (hb : b = true) (h : A) : if b = true then A else B := by rw [if_pos hb]; exact h
theorem ite_bf {b : Bool} {A B : Prop} (hb : b = false) (h : B) : if b = true then A else B := by rw [if_neg (by rw [hb]; exact Bool.false_ne_true)]; exact h
theorem go_notV {σ : St} {b : Bool} {K : Kt Value} (k : K (.bool (!b)) σ) : Go w c σ (unaryOp .Not (.bool b)) K := by
  show Go w c σ (do return .bool (!(← truthy (.bool b)))) K
  exact go_bind (go_truthB (go_pure k))
theorem go_dShared {dk fs sh : Addr} {expr : Bool} {K : Kt Value} (A : At w c sc d) (hm : diskR w dk fs sh ∈ n) (k : K (.ref sh) ⟨.succ τ, m, n⟩) : Go w c ⟨τ, m, n⟩ (getAttr (.ref dk) (Str.ofString "shared") expr) K :=
  go_getR (R := fun v => v = .ref sh) A hm hasI_d ok633 rfl (by rintro _ ⟨s1, st, t, lk, rfl⟩; exact ⟨_, rfl, rfl, rfl⟩) (by rintro _ rfl; exact k)
theorem go_wDisk {wl dk fl ix : Addr} {size : Int} {expr : Bool} {K : Kt Value} (A : At w c sc d) (hm : walR w wl dk fl ix size ∈ n) (k : K (.ref dk) ⟨.succ τ, m, n⟩) : Go w c ⟨τ, m, n⟩ (getAttr (.ref wl) (Str.ofString "disk") expr) K :=
  go_getR (R := fun v => v = .ref dk) A hm hasI_w ok350 rfl (by rintro _ ⟨t1, t2, t3, rfl⟩; exact ⟨_, rfl, rfl, rfl⟩) (by rintro _ rfl; exact k)
theorem go_wName {wl dk fl ix : Addr} {size : Int} {expr : Bool} {K : Kt Value} (A : At w c sc d) (hm : walR w wl dk fl ix size ∈ n) (k : ∀ t, K (.str (Str.ofString "a-wal") t) ⟨.succ τ, m, n⟩) : Go w c ⟨τ, m, n⟩ (getAttr (.ref wl) (Str.ofString "log_name") expr) K :=
  go_getR (R := fun v => ∃ t, v = .str (Str.ofString "a-wal") t) A hm hasI_w ok350 rfl (by rintro _ ⟨t1, t2, t3, rfl⟩; exact ⟨_, rfl, rfl, _, rfl⟩) (by rintro _ ⟨t, rfl⟩; exact k t)
end
end Mine

end

-- GF
section
open PySem PySem.W PySem.Calls PyProof.Rows
open Sem (wp)
namespace Mine
section
variable {α β : Type} {w : World} {c : Cx} {ev : Env} {τ : Nat} {m : Map} {n n' n1 : List Res} {sc : Scope} {d : Nat}
theorem At.any {b : Bool} (a : At w c sc d) : At w { c with any := b } sc d := ⟨a.X, a.T, a.k, a.hd, a.hu, a.cs, a.ar⟩
/-- for .. in a list -/
theorem iter_list {target : Expr} {body rest : List Stmt} {K : Kt Flow} {l : Addr} {vs : List Value} {kk : Nat} (J : Nat → Map → List Res → Prop) (hf : c.any = false)
    (htg : (∃ x p, target = .Name x p) ∨ ((∃ elts k pos, target = .Tuple elts k pos) ∧ ∀ (i : Nat) (v : Value), vs[i]? = some v → ∃ T : Addr, v = Value.ref T))
    (hJl : ∀ i m n, J i m n → ob l (listOf vs.toArray kk) ∈ n) {m0 : Map} {n0 : List Res} (hm : MapLess m0 m) (hn : Less n0 n) (h0 : J 0 m0 n0)
    (turn : ∀ (i : Nat) v τ m n r, vs[i]? = some v → J i m n → Go w { c with any := true } ⟨τ, m, r :: n⟩ (assign target c.env v) fun _ σ => Go w c σ (execs body c.env) (Turn (J (i + 1)) K r))
    (done : ∀ τ m n, J vs.length m n → Go w c ⟨τ, m, n⟩ (execs rest c.env) K) : Iter w c target body rest K (.ref l) ⟨τ, m, n⟩ := by
  intro h g dr os Q E o q
  obtain ⟨mm, S, F, led, hl', NN, hd⟩ := own_forget hm (own_less hn o)
  have hin : ∀ i m' n' led', J i m' n' → Holds n' led' → (l, listOf vs.toArray kk) ∈ led' := fun i m' n' led' hJ hl => holds_ob hl (hJl i m' n' hJ)
  rw [hf]
  refine wpC_lead (wpAny_mono (C_forList (env := c.env) (s := ⟨h, g, dr, τ, os⟩) (R := fun r s' => match r with | .ok f => Q f s' | .error _ => False) (fun i mm l => ∃ m n, MSub c.fix m mm ∧ Holds n l ∧ (l.map (·.1)).Nodup ∧ J i m n) rfl F NN (hin _ _ _ _ h0 hl')
    (fun i m' news' ⟨m2, n2, _, h2, _, h3⟩ => hin _ _ _ _ h3 h2) ⟨m0, n0, S, hl', hd, h0⟩ ?_ ?_) (fun it s₂ hh => C_runOwn hh) fun _ _ x => x)
  · rintro i v m₁ news₁ h tk I oI hi hit ⟨m', n', S', hl₁, hd₁, hJ⟩ off F₁ N₁
    have go : wpAny (model pw w) c.A (assign target c.env v) (fun _ s₂ => wpC (model pw w) c.A (execs body c.env) (TurnEnd c.h₀ c.env.locals I oI ⟨h, g, dr, tk, os⟩ (fun mm l => ∃ m n, MSub c.fix m mm ∧ Holds n l ∧ (l.map (·.1)).Nodup ∧ J (i + 1) m n) fun v s₃ => Q (.ret v) s₃) (fun _ _ => False) s₂) (fun _ _ => False) ⟨h, g, dr, tk, os⟩ := by
      refine turn i v tk m' n' (ob I oI) hi hJ h g dr os _ (fun _ _ => False) (own_cons S' F₁ hl₁ N₁ hd₁ fun p hp => off p hp) fun _ σ h' G o' => ?_
      exact wpX_off hf (G h' g dr os _ _ o' fun f σ h₃ tu o₃ => turn_end q tu o₃)
    rcases htg with ⟨x, p, rfl⟩ | ⟨⟨elts, k, pos, rfl⟩, ht⟩
    · exact wpAny_pure go
    · obtain ⟨T, rfl⟩ := ht i v hi
      exact wpAny_letOwnedTupleGo_listiter hit go
  · rintro m₁ news₁ h₁ tk ⟨m', n', S', hl₁, hd₁, hJ⟩ F₁ N₁
    exact q .next ⟨tk, m', n'⟩ h₁ (done tk m' n' hJ) ⟨m₁, S', F₁, news₁, hl₁, N₁, hd₁⟩
/-- two pairs of octets and sums, alike -/
theorem go_neF {D D' E E' : Addr} {v v' : Value} {ks : List Int} {x y : Int} {K : Kt Value} (A : At w c sc d) (h1 : ob D (tupO [v, .ref E]) ∈ n) (h2 : ob D' (tupO [v', .ref E']) ∈ n) (h3 : tupI E [x, y] ∈ n) (h4 : tupI E' [x, y] ∈ n) (hb : IsB v ks) (hb' : IsB v' ks) (k : K (.bool false) ⟨τ, m, n⟩) :
    Go w c ⟨τ, m, n⟩ (compareOp .NotEq (.ref D) (.ref D')) K := go_val (fun _ _ _ _ _ _ o q => by
  obtain ⟨b, t, rfl, hb⟩ := hb
  obtain ⟨b', t', rfl, hb'⟩ := hb'
  obtain ⟨_, _, _, l, hl, N, _⟩ := o
  obtain ⟨_, e1, s1⟩ := holds_mem hl h1
  obtain ⟨_, e2, s2⟩ := holds_mem hl h2
  obtain ⟨_, ⟨vs, hi, rfl⟩, s3⟩ := holds_mem hl h3
  obtain ⟨_, ⟨vs', hi', rfl⟩, s4⟩ := holds_mem hl h4
  subst e1 e2
  obtain ⟨t1, u1, rfl⟩ := ints2 hi
  obtain ⟨t2, u2, rfl⟩ := ints2 hi'
  exact frame_ne N (s1 _ (.head _)) (s2 _ (.head _)) (s3 _ (.head _)) (s4 _ (.head _)) hb hb' (by have := A.hu; show c.un + 16 < _; omega) q) k
-- tuples of three brought to the front for a call
/-- two ints that stand in a tuple, seen as such -/
theorem go_seeT {α : Type} {D : Addr} {vs : List Value} {ks : List Int} {t : Sem α} {K : Kt α} (hp : Pick (ob D (tupO vs)) n n1) (hi : IntsAre vs ks) (h : Go w c ⟨τ, m, tupI D ks :: n1⟩ t K) : Go w c ⟨τ, m, n⟩ t K :=
  go_pick hp (go_see (fun _ e => ⟨vs, hi, e⟩) h)
theorem go_pick3t {f S : Addr} {a b : Value} {ks : List Int} {K : Kt Value} (hp : Pick (tupI S ks) n n1) (h : Go w c ⟨τ, m, tupI S ks :: n1⟩ (call (.ref f) [a, b, .ref S] []) K) : Go w c ⟨τ, m, n⟩ (call (.ref f) [a, b, .ref S] []) K := go_pick hp h
theorem drop_of {α : Type} {l : List α} {i : Nat} {e : α} (h : l[i]? = some e) : l.drop i = e :: l.drop (i + 1) := by
  obtain ⟨h1, h2⟩ := List.getElem?_eq_some_iff.mp h
  rw [List.drop_eq_getElem_cons h1, h2]
theorem map_swap3 {x y z : Str} {a b e : Value} (h1 : x ≠ y) (h2 : x ≠ z) (h3 : y ≠ z) : ∀ u v, List.lookup u ((z, e) :: (y, b) :: (x, a) :: m) = some v → List.lookup u ((x, a) :: (y, b) :: (z, e) :: m) = some v := by
  intro u v h
  simp only [List.lookup_cons] at h ⊢
  by_cases hx : u = x
  · subst hx
    have q1 : (u == y) = false := beq_eq_false_iff_ne.mpr h1
    have q2 : (u == z) = false := beq_eq_false_iff_ne.mpr h2
    simp only [q1, q2, beq_self_eq_true] at h ⊢
    exact h
  · have q0 : (u == x) = false := beq_eq_false_iff_ne.mpr hx
    by_cases hy : u = y
    · subst hy
      have q2 : (u == z) = false := beq_eq_false_iff_ne.mpr h3
      simp only [q0, q2, beq_self_eq_true] at h ⊢
      exact h
    · have q1 : (u == y) = false := beq_eq_false_iff_ne.mpr hy
      simp only [q0, q1] at h ⊢
      exact h
theorem go_swap3 {σ : St} {x y z : Str} {px py pz tp : Pos} {kk : Nat} {value : Expr} {pos : Pos} {rest : List Stmt} {K : Kt Flow} (a : At w c sc d) (hx : c.fix = none) (h : Go w c σ (eval value c.env) (Asg3 w c x y z rest K)) (hl : (isLoc sc x && isLoc sc y && isLoc sc z && x != y && x != z && y != z) = true)
    (hs : swapsWithSole [.Tuple [.Name x px, .Name y py, .Name z pz] kk tp] value pos.line (c.at sc) = pure false) (hw : swappedStores [.Tuple [.Name x px, .Name y py, .Name z pz] kk tp] value (c.at sc) = pure (some [x, y, z])) : Go w c σ (execs (.Assign [.Tuple [.Name x px, .Name y py, .Name z pz] kk tp] value pos :: rest) c.env) K := by
  simp only [Bool.and_eq_true, bne_iff_ne] at hl
  refine go_seq ?_
  rw [exec_Assign, a.env, hs, hw, ← a.env]
  refine go_stand (go_bind (go_pure ?_))
  rw [if_neg (by decide)]
  refine go_bind (h.mono fun v σ h => go_bind (go_pure ?_))
  obtain ⟨D, u, v, e, rfl, hm, k⟩ := h
  show Go w c σ (do rule "assign.swapped-stores"; let items ← unpackItems (.ref D) 3 none; assignInOrder [bindName c.env z, bindName c.env y, bindName c.env x] items.reverse; pure Flow.next) _
  refine go_bind (go_unit (fun _ _ _ _ _ h => wpAny_rule h) (go_bind (go_unpackN hm rfl ?_)))
  refine go_bind (go_inOrder (go_bindName a hx (go_inOrder (go_bindName a hx (go_inOrder (go_bindName a hx (go_pure (go_pure ?_)) hl.1.1.1.1.1)) hl.1.1.1.1.2)) hl.1.1.1.2))
  exact go_forget (map_swap3 hl.1.1.2 hl.1.2 hl.2) k
/-- both ways of an if-expression come to J -/
theorem go_ifexpJ {t b o : Expr} {pos : Pos} {K : Kt Value} (J : Value → List Res → Prop) (h : Go w c ⟨τ, m, n⟩ (isTrue t ev (eval t ev)) fun r σ => if r = true then Go w c σ (eval b ev) (fun v σ => σ.m = m ∧ ∃ n', Less n' σ.n ∧ J v n') else Go w c σ (eval o ev) (fun v σ => σ.m = m ∧ ∃ n', Less n' σ.n ∧ J v n'))
    (r : ∀ v τ n, J v n → K v ⟨τ, m, n⟩) : Go w c ⟨τ, m, n⟩ (eval (.IfExp t b o pos) ev) K := by
  intro h' g dr os Q E o' q
  refine go_ifexp h h' g dr os Q E o' ?_
  rintro v ⟨τ', m', n'⟩ h₂ ⟨rfl, n2, hl, hJ⟩ o₂
  exact q v ⟨τ', _, n2⟩ h₂ (r v τ' n2 hJ) (own_less hl o₂)
theorem go_pow32 {t u : Tok} {K : Kt Value} (k : K (.int 4294967296 τ) ⟨.succ τ, m, n⟩) : Go w c ⟨τ, m, n⟩ (binaryOp .Pow (.int 2 t) (.int 32 u)) K := by
  refine go_pow (by decide) (by decide) (by decide) ?_
  rw [show (2 : Int) ^ Int.toNat 32 = 4294967296 by decide]
  exact k
/-- a goal that the walker leaves alone -/
noncomputable def Stop (P : Prop) : Prop := P
theorem stop_of {P : Prop} (h : Stop P) : P := h
end
end Mine

end

-- GG
section
open PySem PySem.W PySem.Calls PyProof.Rows
open Sem (wp)
namespace Mine
section
variable {w : World}
/-- the law's own call -/
theorem go_top {f : Addr} {name qual : Str} {params : Arguments} {body : List Stmt} {scope : Scope} {dV kV doc pm cdv ct oc : Value} {an od : Option Addr} {osl : Array (Option Value)} {mp : Map} {l : Addr} {vs : List Value} {ks : List Int} {s : Shared} {mean : ExcName → Option Value} {mg mb : Str → Option Value} {Q E : Value → Shared → Prop}
    (X : (Mine.hd.heap_39 w.params).In s.heap) (T : Top vw Mine.lv mean mg mb s.heap) (hL : s.heap.IsList l vs.toArray) (hI : IntsAre vs ks)
    (ho : (Mine.hd.heap_39 w.params).lookup f = some ⟨oc, od, .func (fnOf name qual params body scope dV kV doc pm an cdv ct), osl⟩) (hcd : codeIn (Mine.hd.heap_39 w.params) cdv qual = true)
    (hb : bindArgs (fnOf name qual params body scope dV kV doc pm an cdv ct) ⟨[.ref l], []⟩ = pure mp.reverse)
    (h : ∀ c τ, At w c scope 20 → c.fix = none → c.any = false → c.arg = (l, ks) → c.outer = [] → Go w c ⟨τ, mp, []⟩ (execs body c.env) fun fl _ => fl = .ret (.bool true))
    (hQ : ∀ h' tk, (∀ b o, s.heap.get? b = some o → h'.get? b = some o) → Q (.bool true) { s with heap := h', toks := tk })
    (hloc : (mp.all fun y => scope.names.lookup y.1 == some .local) = true) (hco : scope.isCoroutine = false) (hgen : scope.isGenerator = false) (hk : scope.kind = .function)
    (hcell : (scope.names.all fun x => x.2 != .cell) = true) : wpC (model pw w) callerA (call (.ref f) [.ref l]) Q E s := by
  have hloc' : ∀ y ∈ mp.reverse, scope.names.lookup y.1 = some .local := fun y hy => beq_iff_eq.mp (List.all_eq_true.mp hloc y (List.mem_reverse.mp hy))
  have hcell' : ∀ x ∈ scope.names, x.2 ≠ .cell := fun x hx => bne_iff_ne.mp (List.all_eq_true.mp hcell x hx)
  refine wpC_call (C_enter_top (A := callerA) (mean := mean) (mg := mg) (mb := mb) X T rfl ho hcd (by decide) (BindsTo.of_eq hb) hloc' (fun L' h₁ F' B' => ?_) hco hgen hk hcell')
  obtain ⟨hh, gg, dr, tk, os⟩ := s
  have a' : At w { any := false, fix := none, mean := mean, mg := mg, mb := mb, dp := callerA.depth + 1, un := callerA.units + 3, gd := callerA.guards, cn := qual, cs := scope, L := L', a := f, ccd := cdv, cl := [], outer := [], h₀ := hh, arg := (l, ks) } scope 20 :=
    ⟨X, T, hk, by show callerA.depth + 1 + 20 < recursionLimit; decide, by show callerA.units + 3 + (8 * 20 + 200) < cLine; decide, rfl, ⟨vs, hI, hL⟩⟩
  refine h _ _ a' rfl rfl rfl rfl h₁ gg dr os _ _ ⟨_, ⟨fun x v e => by show List.lookup x mp.reverse.reverse = _; rw [List.reverse_reverse]; exact e, fun _ e => by cases e⟩, F', [], rfl, (by intro p hp; cases hp), List.nodup_nil⟩ fun fl σ' h' k o' => ?_
  subst k
  obtain ⟨mm₂, S₂, F₂, _⟩ := o'
  exact hQ h' σ'.τ F₂.keep
end
end Mine

end

-- GQ
section
open PySem PySem.W PySem.Calls PyProof.Rows
open Sem (wp)
namespace Mine
section
variable {α : Type} {w : World} {c : Cx} {τ : Nat} {m : Map} {n n1 : List Res}
/-- a tuple of ints among the resources, told as such or value by value -/
noncomputable def PickT (D : Addr) (ks : List Int) (n n1 : List Res) : Prop := ∃ r, Pick r n n1 ∧ ∀ l, r l → tupI D ks l
theorem pickT_t {D : Addr} {ks : List Int} (hp : Pick (tupI D ks) n n1) : PickT D ks n n1 := ⟨_, hp, fun _ h => h⟩
theorem pickT_o {D : Addr} {vs : List Value} {ks : List Int} (hp : Pick (ob D (tupO vs)) n n1) (hi : IntsAre vs ks) : PickT D ks n n1 := ⟨_, hp, fun _ e => ⟨vs, hi, e⟩⟩
theorem pickT_tail {x : Res} {D : Addr} {ks : List Int} (hp : PickT D ks n n1) : PickT D ks (x :: n) (x :: n1) :=
  let ⟨r, h1, h2⟩ := hp
  ⟨r, .tail h1, h2⟩
theorem go_pickT {D : Addr} {ks : List Int} {t : Sem α} {K : Kt α} (hp : PickT D ks n n1) (h : Go w c ⟨τ, m, tupI D ks :: n1⟩ t K) : Go w c ⟨τ, m, n⟩ t K := by
  obtain ⟨r, hp, hr⟩ := hp
  exact go_pick hp (go_see hr h)
theorem go_freeR2 {sc : Scope} {d : Nat} {D C : Addr} {x : Str} {v : Value} {pos : Pos} {scope : Scope} {cl0 cl : List (Str × Addr)} {K : Kt Value} (a : At w c sc d) (hcl : c.cl = cl0) (hc : cl.lookup x = some D) (hm : cellR D (some v) ∈ n) (k : K v ⟨τ, m, n⟩) (hk : scope.kind = .function) (hl : inC scope (envX c.cn sc c.L c.a c.ccd cl0) x .cell = true) :
    Go w c ⟨τ, m, n⟩ (eval (.Name x pos) (compEnvC scope cl C c.env)) K := go_freeR a hcl hm hc k hk hl
end
-- slices of octets, their bounds at hand
section
variable {τ : Nat} {m : Map} {n : List Res}
theorem cutX_to {o : Value} {ks : List Int} {b : Int} {t : Tok} {K : Kt Value} (hv : IsB o ks) (h0 : 0 ≤ b) (h1 : b ≤ (ks.length : Int)) (hz : ks.length ≤ 16777216) (k : ∀ v τ, IsB v (ks.take b.toNat) → K v ⟨τ, m, n⟩) : CutX o .none (.int b t) K ⟨τ, m, n⟩ :=
  cutX_B hv (by constructor) (by constructor) hz fun v τ h => k v τ (sl_to h0 h1 ▸ h)
theorem cutX_from {o : Value} {ks : List Int} {b : Int} {t : Tok} {K : Kt Value} (hv : IsB o ks) (h0 : 0 ≤ b) (h1 : b ≤ (ks.length : Int)) (hz : ks.length ≤ 16777216) (k : ∀ v τ, IsB v (ks.drop b.toNat) → K v ⟨τ, m, n⟩) : CutX o (.int b t) .none K ⟨τ, m, n⟩ :=
  cutX_B hv (by constructor) (by constructor) hz fun v τ h => k v τ (sl_from h0 h1 ▸ h)
theorem cutX_mid {o : Value} {ks : List Int} {a b : Int} {t u : Tok} {K : Kt Value} (hv : IsB o ks) (h0 : 0 ≤ a) (h1 : a ≤ b) (h2 : b ≤ (ks.length : Int)) (hz : ks.length ≤ 16777216) (k : ∀ v τ, IsB v ((ks.drop a.toNat).take (b - a).toNat) → K v ⟨τ, m, n⟩) : CutX o (.int a t) (.int b u) K ⟨τ, m, n⟩ :=
  cutX_B hv (by constructor) (by constructor) hz fun v τ h => k v τ (sl_mid h0 h1 h2 ▸ h)
end
-- guards of the walker: what a goal says, said again
section
variable {α : Type} {x y : α}
theorem iEq (h : x = y) : x = y := h
theorem iNe (h : x ≠ y) : x ≠ y := h
theorem iLe [LE α] (h : x ≤ y) : x ≤ y := h
theorem iLt [LT α] (h : x < y) : x < y := h
end
theorem iMem {r : Res} {n : List Res} (h : r ∈ n) : r ∈ n := h
theorem iAt {a b c d} (h : At a b c d) : At a b c d := h
theorem iPick {a b c} (h : Pick a b c) : Pick a b c := h
theorem iPicks {a b c} (h : Picks a b c) : Picks a b c := h
theorem iPickT {a b c d} (h : PickT a b c d) : PickT a b c d := h
theorem iIsB {a b} (h : IsB a b) : IsB a b := h
theorem iIsPart {a b} (h : IsPart a b) : IsPart a b := h
theorem iInts {a b} (h : IntsAre a b) : IntsAre a b := h
theorem iData {a b c} (h : Data a b c) : Data a b c := h
theorem iPutAt {a b c d} (h : PutAt a b c d) : PutAt a b c d := h
theorem iReads {a b c d} (h : Reads a b c d) : Reads a b c d := h
theorem iMul {a b} (h : IntMulOk a b) : IntMulOk a b := h
theorem iIn {a} (h : KBa.In a) : KBa.In a := h
theorem iNs {a b c d} (h : nsIn a b c = d) : nsIn a b c = d := h
theorem iFind {a b c d} (h : findIn a b c = d) : findIn a b c = d := h
theorem iKeep {a b c} (h : keepIn a b = c) : keepIn a b = c := h
theorem iFn {a b c} (h : isFn a b = c) : isFn a b = c := h
theorem iFindC {a b c d e} (h : findCls a b c d = e) : findCls a b c d = e := h
theorem iBoot {a b} (h : bootBuiltins a = b) : bootBuiltins a = b := h
theorem iCls {a b c d} (h : clsOk a b c = d) : clsOk a b c = d := h
theorem iDiv {a b c} (h : Builtin.divisionGoesByPylong a b = c) : Builtin.divisionGoesByPylong a b = c := h
theorem iGet {l : List Int} {i : Nat} {x : Int} (h : l[i]? = some x) : l[i]? = some x := h
end Mine

end

-- GH
section
open PySem PySem.W PySem.Calls PyProof.Rows
open Sem (wp)
namespace Mine
/-- the same with a way out for what is raised -/
noncomputable def GoE {α : Type} (w : World) (c : Cx) (σ : St) (t : Sem α) (K : Kt α) (KE : Kt Value) : Prop :=
  ∀ (h : Heap) (g : Array GenState) (dr : Drawn) (os : OsState) (Q : α → Shared → Prop) (E : Value → Shared → Prop), Own c σ.m σ.n h →
    (∀ v σ' h', K v σ' → Own c σ'.m σ'.n h' → Q v ⟨h', g, dr, σ'.τ, os⟩) → (∀ e σ' h', KE e σ' → Own c σ'.m σ'.n h' → E e ⟨h', g, dr, σ'.τ, os⟩) → wpX c.any (model pw w) c.A t Q E ⟨h, g, dr, σ.τ, os⟩
section
variable {α β : Type} {w : World} {c : Cx} {σ : St} {τ : Nat} {m : Map} {n : List Res} {KE : Kt Value}
theorem Go.toE {t : Sem α} {K : Kt α} (h : Go w c σ t K) : GoE w c σ t K KE := fun h' g dr os Q E o k _ => h h' g dr os Q E o k
theorem goE_off {t : Sem α} {K : Kt α} (h : GoE w c σ t K fun _ _ => False) : Go w c σ t K := fun h' g dr os Q E o k => h h' g dr os Q E o k fun _ _ _ e _ => e.elim
theorem goE_bind {t : Sem α} {f : α → Sem β} {K : Kt β} (h : GoE w c σ t (fun a σ => GoE w c σ (f a) K KE) KE) : GoE w c σ (t >>= f) K KE :=
  fun h' g dr os Q E o k ke => wpX_bind (h h' g dr os _ E o (fun _ _ h'' k' o' => k' h'' g dr os Q E o' k ke) ke)
theorem goE_mono {t : Sem α} {K K' : Kt α} (h : GoE w c σ t K KE) (hk : ∀ v σ, K v σ → K' v σ) : GoE w c σ t K' KE :=
  fun h' g dr os Q E o k ke => h h' g dr os Q E o (fun v σ h' k' o' => k v σ h' (hk v σ k') o') ke
theorem execs_app {ev : Env} : ∀ (ss rest : List Stmt), execs (ss ++ rest) ev = (execs ss ev >>= fun fl => match fl with | .next => execs rest ev | f => pure f)
  | [], rest => rfl
  | s :: ss, rest => by
    rw [List.cons_append, execs_cons, execs_cons, bind_assoc]
    congr 1
    funext fl
    cases fl with
    | next => exact execs_app ss rest
    | _ => rfl
noncomputable def ThenE (w : World) (c : Cx) (rest : List Stmt) (K : Kt Flow) (KE : Kt Value) (f : Flow) (σ : St) : Prop := match f with
  | .next => GoE w c σ (execs rest c.env) K KE
  | f => K f σ
theorem thenE {rest : List Stmt} {K : Kt Flow} {f : Flow} (h : ThenE w c rest K KE f σ) : GoE w c σ (match f with | .next => execs rest c.env | f => pure f) K KE :=
  match f, h with
  | .next, h => h
  | .cont, h | .brk, h | .ret _, h => Go.toE (go_pure (K := K) h)
theorem goE_app {ss rest : List Stmt} {K : Kt Flow} (h : Go w c σ (execs ss c.env) (ThenE w c rest K KE)) : GoE w c σ (execs (ss ++ rest) c.env) K KE := by
  rw [execs_app]
  exact goE_bind (goE_mono h.toE fun f σ h => thenE h)
theorem goE_if {test : Expr} {body orelse rest : List Stmt} {pos : Pos} {K : Kt Flow}
    (h : Go w c σ (isTrue test c.env (eval test c.env)) fun b σ => if b = true then GoE w c σ (execs body c.env) (ThenE w c rest K KE) KE else Go w c σ (execs orelse c.env) (ThenE w c rest K KE)) : GoE w c σ (execs (.If test body orelse pos :: rest) c.env) K KE := by
  rw [execs_cons]
  refine goE_bind (goE_mono (K := ThenE w c rest K KE) ?_ fun f σ h => thenE h)
  rw [exec_If]
  refine goE_bind (goE_mono (K := fun _ σ' => σ' = σ) (Go.toE (go_standAt rfl)) fun _ _ e => ?_)
  subst e
  refine goE_bind (goE_mono h.toE fun b σ h => ?_)
  cases b with
  | true => exact h
  | false => exact Go.toE h
end
end Mine

end

-- GI
section
open PySem PySem.W PySem.Calls PyProof.Rows
open Sem (wp)
namespace Mine
section
variable {prog : Program} {w : World} {M : Model} {A : Around} {E : Value → Shared → Prop} {h : Heap} {g : Array GenState} {d : Drawn} {t : Nat} {os : OsState}
variable {nm q : Str} {C N : Addr} {bs bm bmB : List Value} {hdct : Bool} {sn : List Str} {sub : List Value} {ab : Bool} {col : Option Bool} {dd : Option Addr} {k0 k1 k2 k3 k5 : Option Value} {B newId initId : String}
/-- what is asked of a class of exceptions whose own bases may have an __init__ -/
structure MroOk (B : String) (bm : List Value) : Prop where
  b : bm.contains (.type B) = true
  e : bm.contains (.type "BaseException") = true
  a : bm.contains (.type "AttributeError") = false
  n : bm.contains (.type "NameError") = false
  o : bm.contains (.type "object") = true
  r : ∀ self : Value, refuseLoop self "__setattr__" bm = pure ()
theorem exc_check_new (F : ExcBaseFacts B newId initId bmB) (T : MroOk B bm) {rest : List Value} {Q : Unit → Shared → Prop} (hC : h.get? C = some (excClassObj nm q C N bs bm hdct sn sub ab col dd k0 k1 k2 k3 k5 newId))
    (hq : Q () ⟨h, g, d, t, os⟩) : wpAny M A (checkBuiltinCall newId ⟨.ref C :: rest, []⟩) Q E ⟨h, g, d, t, os⟩ := by
  have hc : (Value.ref C :: bm).contains (.type B) = true := by rw [List.contains_cons, T.b, Bool.or_true]
  have hs := F.noStar
  simp only [checkBuiltinCall, F.newKind, F.newSplit, F.newRow]
  repeat (first | refine wpAny_loadPart_at hC ?_ | (refine wpAny_isSubtype_exc hC ?_; rw [hc]) | refine wpAny_staticBase_exc hC ?_ | refine wpAny_madeBy_exc hC ?_ | simp only [bne_self_eq_false, Bool.false_eq_true, if_false] | wp_step)
  exact hq
theorem exc_new (F : ExcBaseFacts B newId initId bmB) (T : MroOk B bm) {R : Result → Shared → Prop} {rest : List Value} (hC : h.get? C = some (excClassObj nm q C N bs bm hdct sn sub ab col dd k0 k1 k2 k3 k5 newId))
    (hq : R (.ok (.ret (.ref (h.objs.size + 1)))) ⟨(h.push { cls := .type "tuple", data := .seq rest.toArray }).push
      { cls := .ref C, data := .fields #[.ref h.objs.size, .none, .none, .none, .bool false, .none] }, g, d, t, os⟩) (hrest : rest.length ≤ sizeLine := by size_fits) :
    codeAny (model prog w) A (.builtin newId ⟨.ref C :: rest, []⟩) R ⟨h, g, d, t, os⟩ := by
  have he := F.ends
  have hB : (Value.ref C :: bm).contains (.type B) = true := by rw [List.contains_cons, T.b, Bool.or_true]
  have hA : (Value.ref C :: bm).contains (.type "AttributeError") = false := by rw [List.contains_cons, T.a]; rfl
  have hN : (Value.ref C :: bm).contains (.type "NameError") = false := by rw [List.contains_cons, T.n]; rfl
  refine codeAny_builtinAt F.entry ?_
  unfold Builtin.«BaseException.__new__»
  refine PySem.wpAt_bind ?_
  show PySem.wpAt _ _ _ (stack >>= _) _ _ _
  refine PySem.wpAt_bind (PySem.wpAt_stack fun p below => PySem.wpAt_of_wpAny ?_)
  wp_walk
  refine PySem.wpAt_of_wpAny ?_
  rw [F.owner]
  repeat (first | with_reducible refine wpAny_madeHere_exc F.canon hC ?_ | with_reducible refine wpAny_loadPart_at hC ?_ | (with_reducible refine wpAny_isSubtype_exc hC ?_; first | rw [hB] | rw [hA] | rw [hN]) | wp_step)
  show R _ _
  rw [Heap.size_push]
  exact hq
/-- raising an object that has a dict of its own -/
theorem exc_raise {env : Env} {s : Shared} {x : Sem Value} {Q : Flow → Shared → Prop} (hbase : bm.contains (.type "BaseException") = true) (hh : A.handled = none)
    (h : wpAny M A x (fun v s₁ => ∃ e t dx, v = .ref e ∧ s₁.heap.get? C = some (excClassObj nm q C N bs bm hdct sn sub ab col dd k0 k1 k2 k3 k5 newId) ∧
      s₁.heap.get? e = some { cls := .ref C, dict := dx, data := .fields #[.ref t, .none, .none, .none, .bool false, .none] } ∧ E (.ref e) s₁) E s) :
    wpAny M A (raiseStmt env (some x) none) Q E s := by
  have hB : (Value.ref C :: bm).contains (.type "BaseException") = true := by rw [List.contains_cons, hbase, Bool.or_true]
  unfold raiseStmt
  refine wpAny_bind (wpAny_mono h (fun v s₁ h₁ => ?_) fun _ _ x => x)
  obtain ⟨e, t, dx, rfl, hC, he, hE⟩ := h₁
  obtain ⟨hp, g, d, tk, os⟩ := s₁
  repeat (first | with_reducible refine wpAny_loadPart_at he ?_ | with_reducible refine wpAny_loadPart_at hC ?_ | (with_reducible refine wpAny_isSubtype_exc hC ?_; rw [hB]) | wp_step)
  exact wpAny_raiseNew_none hh hE
end
end Mine

end

-- GJ1
section
open PySem PySem.W PySem.Calls PyProof.Rows
open Sem (wp)
namespace Mine
section
variable {prog : Program} {w : World} {A : Around} {h : Heap} {g : Array GenState} {d : Drawn} {t : Nat} {os : OsState} {R : Result → Shared → Prop}
variable {nm q : Str} {C N : Addr} {bs bm bmB : List Value} {hdct : Bool} {sn : List Str} {sub : List Value} {ab : Bool} {col : Option Bool} {dd : Option Addr} {k0 k1 k2 k3 k5 : Option Value} {B newId initId : String}
theorem exc_core (F : ExcBaseFacts B newId initId bmB) (T : MroOk B bm) {rest : List Value} {fI : Addr} (hC : h.get? C = some (excClassObj nm q C N bs bm hdct sn sub ab col dd k0 k1 k2 k3 k5 newId))
    (hi : Looks (model prog w) h (typeLookup (.ref C) "__init__") (some (.ref fI))) (hb : ∀ self, Looks (model prog w) h (bindSpecial (.ref fI) self) (.ref fI, [self]))
    (hq : codeAny (model prog w) (A.under (.builtin "type.__call__" ⟨.ref C :: rest, []⟩)) (.call (.ref fI) ⟨.ref (h.objs.size + 1) :: rest, []⟩) (InitBack (h.objs.size + 1) R)
      ⟨(h.push { cls := .type "tuple", data := .seq rest.toArray }).push { cls := .ref C, data := .fields #[.ref h.objs.size, .none, .none, .none, .bool false, .none] }, g, d, t, os⟩) (hrest : rest.length ≤ sizeLine := by size_fits) :
    codeAny (model prog w) A (.call (.ref C) ⟨rest, []⟩) R ⟨h, g, d, t, os⟩ := by
  have f1 := tc_lookup
  have f2 := tc_bind (.ref C)
  have hT : (⟨h, g, d, t, os⟩ : Shared).TypeIs (.ref C) "type" := ⟨_, hC, rfl⟩
  refine codeAny_of_tree ?_
  show wpAny _ _ (callAny (.ref C) _) _ _ _
  repeat (any_goals (first | assumption | with_reducible refine wpAny_loadPart_at hC ?_ | wp_step))
  refine ⟨rfl, ?_⟩
  refine codeAny_call_builtin_at (Code.quiet_builtin _ (by decide +kernel)) entry_typeCall (wpAny_check_type_call_sub hC ?_)
  repeat (first | with_reducible refine wpAny_loadPart_at hC ?_ | with_reducible refine wpAny_madeBy_exc hC ?_ | wp_step)
  refine codeAny_call_builtin_code (Code.quiet_builtin _ F.quiet) (exc_check_new F T hC ?_)
  refine exc_new F T hC ?_ hrest
  show wpAny _ _ _ _ _ _
  have k : ∀ b o, h.get? b = some o → ((h.push { cls := .type "tuple", data := .seq rest.toArray }).push { cls := .ref C, data := .fields #[.ref h.objs.size, .none, .none, .none, .bool false, .none] }).get? b = some o := fun b o e => Heap.get?_push_of_some _ (Heap.get?_push_of_some _ e)
  have hC₁ := k _ _ hC
  have hget : ((h.push { cls := .type "tuple", data := .seq rest.toArray }).push
      { cls := .ref C, data := .fields #[.ref h.objs.size, .none, .none, .none, .bool false, .none] }).get? (h.objs.size + 1) = some
      { cls := .ref C, data := .fields #[.ref h.objs.size, .none, .none, .none, .bool false, .none] } := by heap_get
  have hcC : (Value.ref C :: bm).contains (.ref C) = true := by simp
  unfold isInstance
  repeat (first | with_reducible refine wpAny_loadPart_at hget ?_ | (with_reducible refine wpAny_isSubtype_exc hC₁ ?_; rw [hcC]) | wp_step)
  refine wpAny_isSubtype_exc hC₁ ?_
  rw [hcC]
  repeat (first | with_reducible refine wpAny_loadPart_at hget ?_ | wp_step)
  show wpAny _ _ (typeLookup (.ref C) _) _ _ _
  refine (hi.keeps k).at ?_
  refine wpAny_holding (wpAny_bind (((hb _).keeps k).at ?_))
  repeat (first | with_reducible refine wpAny_call ?_ | lk)
  refine codeAny_mono hq fun r s' z => ?_
  rcases r with e | (v | _ | _ | _) <;> first | exact z | exact z.elim | skip
  obtain ⟨rfl, z⟩ := z
  exact wpAny_pure (wpAny_pure z)
end
end Mine

end

-- GK
section
open PySem PySem.W PySem.Calls PyProof.Rows
namespace Mine
theorem filled_GK : (fun (_ : OpenLaw) (_ : Params → Frag) => True) PySem.Challenge.rw_xw0240_01 Mine.hd.heap_39 := by k_fill; exact trivial
/-- a class of exceptions as the part holds it -/
noncomputable def ExcCls (K : Frag) (C : Addr) (B newId : String) : Prop := ∃ nm q N bs bm sn sub ab col dd k0 k1 k2 k3 k5, K.lookup C = some (excClassObj nm q C N bs bm true sn sub ab col dd k0 k1 k2 k3 k5 newId) ∧ MroOk B bm
theorem ExcCls.mk {K : Frag} {C : Addr} {B newId : String} {nm q : Str} {N : Addr} {bs bm : List Value} {sn : List Str} {sub : List Value} {ab : Bool} {col : Option Bool} {dd : Option Addr} {k0 k1 k2 k3 k5 : Option Value}
    (h : K.lookup C = some (excClassObj nm q C N bs bm true sn sub ab col dd k0 k1 k2 k3 k5 newId)) (m : MroOk B bm) : ExcCls K C B newId := ⟨_, _, _, _, _, _, _, _, _, _, _, _, _, _, _, h, m⟩
theorem cls51 (w : World) : ExcCls (Mine.hd.heap_39 w.params) 51 "Exception" "Exception.__new__" := by
  refine' ExcCls.mk ?h ?m
  case h => k_is
  case m => exact ⟨by decide, by decide, by decide, by decide, by decide, fun self => by rw [refuseLoop_ref]; exact PySem.F.store_Exception.passes self⟩
end Mine

end

-- GL
section
open PySem PySem.W PySem.Calls PyProof.Rows
open Sem (wp)
namespace Mine
-- an attribute stored on an exception that has no dict yet
section
variable {prog : Program} {w : World} {A : Around} {h : Heap} {g : Array GenState} {d : Drawn} {t : Nat} {os : OsState} {K : Frag}
variable {nm q : Str} {C N x : Addr} {bs bm : List Value} {sn : List Str} {sub : List Value} {ab : Bool} {col : Option Bool} {dd : Option Addr} {k0 k1 k2 k3 k5 : Option Value} {B newId : String} {name : Str} {v : Value} {vs : Array Value} {tk : Tok}
theorem osa_exc {R : Result → Shared → Prop} (X : K.In h) (T : MroOk B bm) (hK : K.lookup C = some (excClassObj nm q C N bs bm true sn sub ab col dd k0 k1 k2 k3 k5 newId)) (hn : findIn K (.ref C) name = some none)
    (hx : h.get? x = some { cls := .ref C, dict := none, data := .fields vs })
    (hq : ∀ h' t' dx, (∀ b o, b ≠ x → h.get? b = some o → h'.get? b = some o) → h'.get? x = some { cls := .ref C, dict := some dx, data := .fields vs } → R (.ok (.ret .none)) ⟨h', g, d, t', os⟩) :
    codeAny (model prog w) A (.call (.builtin "object.__setattr__") ⟨[.ref x, .str name tk, v], []⟩) R ⟨h, g, d, t, os⟩ := by
  have SF := PySem.F.store_object
  have I : InstAt h x { cls := .ref C, dict := none, data := .fields vs } C none := ⟨hx, rfl, rfl, trivial⟩
  have hC := X _ _ hK
  have hc : clsIn K C = some { name := nm, bases := bs, mro := .ref C :: bm, ns := N, qualname := q, hasDict := true, slotNames := sn, subclasses := sub, abstract := ab, collection := col } := by
    unfold clsIn
    rw [hK]
  have hobj : (Value.ref C :: bm).contains (.type "object") = true := by rw [List.contains_cons, T.o, Bool.or_true]
  have sub' : Looks (model prog w) h (isInstance (.ref x) (.type "object")) true := I.type.andThen (looks_mroIn X (by unfold mroIn; rw [hc, Option.bind_some]; exact congrArg some hobj))
  refine codeAny_call_builtin SF.slot.plain SF.entry (@check_slot (model prog w) _ _ ⟨h, g, d, t, os⟩ "object.__setattr__" "object" "__setattr__" (.ref x) [.str name tk, v] [] _ SF.kind SF.split sub' (SF.args (.ref x) (.str name tk) v) ?_)
  have hm : Looks (model prog w) h (mroOf (.ref C)) (.ref C :: bm) := (looks_clsIn X hc).andThen .now
  rw [osa_eq, refuse_eq]
  refine wpAny_bind (wpAny_bind (I.type.here (wpAny_bind (hm.here ?_))))
  rw [refuseLoop_ref, T.r]
  refine wpAny_pure (wpAny_bind (I.type.here (wpAny_bind ((looks_findIn X hn).here (wpAny_bind (Looks.now.here ?_))))))
  refine wpAny_bind (wpAny_pure (wpAny_bind (wpAny_bind (wpAny_loadPart hx (wpAny_bind ((looks_clsIn X hc).here ?_))))))
  refine wpAny_bind (wpAny_alloc' ?_)
  have hx₁ : (h.push { cls := .type "dict", data := .dict #[] }).get? x = some { cls := .ref C, dict := none, data := .fields vs } := Heap.get?_push_of_some _ hx
  have hxs : x ≠ h.objs.size := Nat.ne_of_lt (Heap.lt_size hx)
  refine wpAny_bind (wpAny_update' hx₁ ?_)
  refine wpAny_pure ?_
  have hgd : ((h.push { cls := .type "dict", data := .dict #[] }).update x fun o => { cls := o.cls, dict := some h.objs.size, data := o.data, slots := o.slots }).get? h.objs.size
      = some { cls := .type "dict", data := .dict #[] } :=
    (Heap.get?_update_ne _ _ _ _ hxs.symm).trans (Heap.get?_push_at rfl rfl)
  have hnd : ((h.push { cls := .type "dict", data := .dict #[] }).update x fun o => { cls := o.cls, dict := some h.objs.size, data := o.data, slots := o.slots }).Ns h.objs.size (fun _ => none) :=
    ⟨_, #[], _, hgd, rfl, fun e he => absurd he (by simp), fun _ => rfl⟩
  show wpAny _ _ (Builtin.ObjectAttr.storeInDict h.objs.size (.str name tk) name v) _ _ _
  unfold Builtin.ObjectAttr.storeInDict Builtin.ObjectAttr.newKeyGuard
  refine wpAny_bind (wpAny_pure (wpAny_bind (wpAny_nsSet1 (Heap.Ns1.of_empty hnd) fun h' hn' hs => ?_)))
  obtain ⟨oD, esD, epD, hoD, hdD, hcD⟩ := hn'.count (Within.cons name v Within.nil)
  refine wpAny_bind (wpAny_lookBehind hoD (by rw [hdD]; exact pastItsLine_dict (Nat.le_trans hcD (by rw [List.length_cons, List.length_nil, sizeLine_eq]; omega))) ?_)
  refine wpAny_pure (hq h' _ h.objs.size (fun b ob hbx hb => ?_) ?_)
  · exact (hs.2 b (Nat.ne_of_lt (Heap.lt_size hb))).trans ((Heap.get?_update_ne _ _ _ _ hbx).trans (Heap.get?_push_of_some _ hb))
  · exact (hs.2 x hxs).trans (Heap.get?_update_self _ hx₁ rfl)
end
end Mine

end

-- GM
section
open PySem PySem.W PySem.Calls PyProof.Rows
open Sem (wp)
namespace Mine
/-- the frames below, as resources: each an object of names, its slots free -/
noncomputable abbrev Fms := List (Addr × (Str → Option Value))
noncomputable def NsObj (f : Str → Option Value) (o : Obj) : Prop := ∃ es ep, o.data = .dict es ep ∧ StrKeys es ∧ ∀ x, nsFind es x = f x
inductive Frs : Fms → Led → Prop
  | nil : Frs [] []
  | cons {L : Addr} {f : Str → Option Value} {o : Obj} {ls : Fms} {l : Led} : NsObj f o → Frs ls l → Frs ((L, f) :: ls) ((L, o) :: l)
inductive FrsOk : List Env → Fms → Prop
  | nil : FrsOk [] []
  | cons {env : Env} {L : Addr} {f : Str → Option Value} {outer : List Env} {ls : Fms} : env.frame = some L → env.scope.kind = .function → FrsOk outer ls → FrsOk (env :: outer) ((L, f) :: ls)
noncomputable abbrev frsR (ls : Fms) : Res := Frs ls
theorem nsObj_data {f : Str → Option Value} {o : Obj} (h : NsObj f o) (vs : Array Value) : o.data ≠ .fields vs := by
  obtain ⟨es, ep, hd, _⟩ := h
  rw [hd]
  exact fun e => nomatch e
theorem frs_data {ls : Fms} {l : Led} (h : Frs ls l) : ∀ p ∈ l, ∀ vs, p.2.data ≠ .fields vs := by
  induction h with
  | nil => exact fun _ h => nomatch h
  | cons h1 _ ih => exact List.forall_mem_cons.mpr ⟨nsObj_data h1, ih⟩
theorem frs_fun {h B : Heap} {outer : List Env} {ls : Fms} (k : FrsOk outer ls) : ∀ {l : Led}, Frs ls l → (∀ p ∈ l, h.get? p.1 = some p.2) → (∀ p ∈ l, B.get? p.1 = none) → h.FunFrames B outer := by
  induction k with
  | nil => exact fun _ _ _ => trivial
  | cons h1 h2 _ ih =>
    intro l hl hg hB
    cases hl with
    | cons hn hr => exact ⟨by rw [h2]; decide, ⟨_, _, h1, hB _ (.head _), hg _ (.head _), nsObj_data hn⟩, ih hr (fun q hq => hg q (.tail _ hq)) fun q hq => hB q (.tail _ hq)⟩
theorem frs_slots {h h' : Heap} (U : h.UpToSlots h') {ls : Fms} {l : Led} (hl : Frs ls l) : (∀ p ∈ l, h.get? p.1 = some p.2) → ∃ l', Frs ls l' ∧ l'.map (·.1) = l.map (·.1) ∧ ∀ p ∈ l', h'.get? p.1 = some p.2 := by
  induction hl with
  | nil => exact fun _ => ⟨[], .nil, rfl, fun _ h => nomatch h⟩
  | @cons L f o ls l hn _ ih =>
    intro hg
    obtain ⟨sl, hs⟩ := U _ _ (hg _ (.head _)) (nsObj_data hn)
    obtain ⟨l', h1, h2, h3⟩ := ih fun q hq => hg q (.tail _ hq)
    obtain ⟨es, ep, hd, hk⟩ := hn
    exact ⟨(L, { o with slots := sl }) :: l', .cons ⟨es, ep, hd, hk⟩ h1, by rw [List.map_cons, h2]; rfl, List.forall_mem_cons.mpr ⟨hs, h3⟩⟩
/-- an exception that was raised, its traceback's last field x; one that was just made -/
noncomputable def exR (e C : Addr) (x : Value) : Res := fun l => ∃ oe T oT vs ts a0, l = [(e, oe), (T, oT)] ∧ oe.cls = .ref C ∧ vs[0]? = some a0 ∧ oe.data = .fields vs ∧ vs[1]? = some (.ref T) ∧ oT.data = .fields ts ∧ ts[3]? = some x
noncomputable def rawR (e C : Addr) : Res := fun l => ∃ dx t, l = [(e, { cls := .ref C, dict := dx, data := .fields #[.ref t, .none, .none, .none, .bool false, .none] })]
section
variable {w : World} {c : Cx} {m : Map} {n : List Res} {ls : Fms} {h : Heap} {e C : Addr} {x : Value} {M : Model} {Q : Unit → Shared → Prop} {E : Value → Shared → Prop} {g : Array GenState} {d : Drawn} {tk : Nat} {os : OsState}
theorem ex_core {mm : Str → Option Value} {le lf lr : Led} (S : MSub c.fix m mm) (F : Fr c.h₀ c.L h mm) (hf : Frs ls lf) (hn : Holds n lr) (N : News c.h₀ c.L h (le ++ (lf ++ lr))) (hd : ((le ++ (lf ++ lr)).map (·.1)).Nodup) (ok : FrsOk c.outer ls) (hk : c.cs.kind = .function)
    (he : e ∈ le.map (·.1)) : ∃ B : Heap, B.StaysIn h ∧ (∀ b ∈ le.map (·.1), B.get? b = none) ∧ h.FunFrames B (c.env :: c.outer) ∧
      ∀ h' C a0 x', B.StaysIn h' → h'.FunFrames B (c.env :: c.outer) → h'.TracedAtW B e (.ref C) a0 x' → h.UpToSlots h' → Own c m (exR e C x' :: frsR ls :: n) h' := by
  have hid : ∀ b, b ∈ le.map (·.1) ++ c.L :: lf.map (·.1) → (hideAll h (le.map (·.1) ++ c.L :: lf.map (·.1))).get? b = none := fun b hb => hideAll_none _ hb
  have keep : ∀ b o, h.get? b = some o → b ∉ le.map (·.1) ++ c.L :: lf.map (·.1) → (hideAll h (le.map (·.1) ++ c.L :: lf.map (·.1))).get? b = some o := fun b o q hb => hideAll_get _ q hb
  have hBh : (hideAll h (le.map (·.1) ++ c.L :: lf.map (·.1))).StaysIn h := fun b o q => of_hideAll _ q
  generalize hideAll h (le.map (·.1) ++ c.L :: lf.map (·.1)) = B at hid keep hBh
  have h0 : c.h₀.StaysIn B := fun b o q => keep b o (F.keep b o q) fun hm => by
    rcases List.mem_append.mp hm with hm | hm
    · obtain ⟨p, hp, rfl⟩ := List.mem_map.mp hm
      rw [(N p (List.mem_append_left _ hp)).2.2] at q; cases q
    · rcases List.mem_cons.mp hm with rfl | hm
      · exact absurd (Nat.lt_of_lt_of_le (Heap.lt_size q) F.above) (Nat.lt_irrefl _)
      · obtain ⟨p, hp, rfl⟩ := List.mem_map.mp hm
        rw [(N p (List.mem_append_right _ (List.mem_append_left _ hp))).2.2] at q; cases q
  have fresh : ∀ b, B.get? b = none → c.h₀.get? b = none := fun b hb => by
    cases q : c.h₀.get? b with
    | none => rfl
    | some o => rw [h0 b o q] at hb; cases hb
  rw [List.map_append, List.map_append] at hd
  obtain ⟨_, hd1, hd2⟩ := List.nodup_append.mp hd
  obtain ⟨hdf, hdr, hd3⟩ := List.nodup_append.mp hd1
  have hlr : ∀ p ∈ lr, B.get? p.1 = some p.2 := fun p hp => keep _ _ (N p (List.mem_append_right _ (List.mem_append_right _ hp))).1 fun hm => by
    have hp' : p.1 ∈ lr.map (·.1) := List.mem_map_of_mem hp
    rcases List.mem_append.mp hm with hm | hm
    · exact hd2 _ hm _ (List.mem_append_right _ hp') rfl
    · rcases List.mem_cons.mp hm with hm | hm
      · exact (N p (List.mem_append_right _ (List.mem_append_right _ hp))).2.1 hm
      · exact hd3 _ hm _ hp' rfl
  obtain ⟨oL, es, ep, hL, hLd, hLk⟩ := F.ns
  have hLB : B.get? c.L = none := hid _ (List.mem_append_right _ (.head _))
  have hlf : ∀ p ∈ lf, h.get? p.1 = some p.2 := fun p hp => (N p (List.mem_append_right _ (List.mem_append_left _ hp))).1
  refine ⟨B, hBh, fun b hb => hid b (List.mem_append_left _ hb), ⟨by show c.cs.kind ≠ _; rw [hk]; decide, ⟨c.L, oL, rfl, hLB, hL, fun vs q => by rw [hLd] at q; cases q⟩,
    frs_fun ok hf hlf fun p hp => hid _ (List.mem_append_right _ (.tail _ (List.mem_map_of_mem hp)))⟩, ?_⟩
  intro h' C a0 x' k1 ⟨_, ⟨L2, o2, hL2, _, ho2, hd2'⟩, _⟩ ⟨oe, vs, T, oT, ts, g1, ⟨g2, g3⟩, g4, g5, g6, g7, g8, g9, g10⟩ U
  obtain rfl : c.L = L2 := Option.some.inj hL2
  obtain ⟨lf', f1, f2, f3⟩ := frs_slots U hf hlf
  have mf : ∀ p ∈ lf', p.1 ∈ lf.map (·.1) := fun p hp => f2 ▸ List.mem_map_of_mem hp
  have Nf : ∀ b ∈ lf.map (·.1), b ≠ c.L ∧ c.h₀.get? b = none := fun b hb => by
    obtain ⟨p, hp, rfl⟩ := List.mem_map.mp hb
    exact (N p (List.mem_append_right _ (List.mem_append_left _ hp))).2
  have hNe : e ≠ c.L ∧ c.h₀.get? e = none := by
    obtain ⟨p, hp, e1⟩ := List.mem_map.mp he
    exact e1 ▸ (N p (List.mem_append_left _ hp)).2
  have hTL : T ≠ c.L := fun q => by
    rw [q, ho2] at g8
    cases g8
    exact hd2' _ g9
  refine ⟨mm, S, F.of_stays (fun b o q => k1 b o (h0 b o q)) U, [(e, oe), (T, oT)] ++ (lf' ++ lr), ⟨_, _, rfl, ⟨oe, T, oT, vs, ts, a0, rfl, g2, g3, g4, g5, g9, g10⟩, lf', lr, rfl, f1, hn⟩, fun p hp => ?_, ?_⟩
  · rcases List.mem_append.mp hp with hp | hp
    · rcases List.mem_cons.mp hp with rfl | hp
      · exact ⟨g1, hNe⟩
      · cases List.mem_singleton.mp hp
        exact ⟨g8, hTL, fresh _ g6⟩
    · rcases List.mem_append.mp hp with hp | hp
      · exact ⟨f3 p hp, Nf _ (mf p hp)⟩
      · exact ⟨k1 _ _ (hlr p hp), (N p (List.mem_append_right _ (List.mem_append_right _ hp))).2⟩
  · have he2 : ∀ b ∈ lf.map (·.1) ++ lr.map (·.1), e ≠ b := fun b hb => hd2 e he b hb
    have hT2 : ∀ b ∈ lf.map (·.1) ++ lr.map (·.1), T ≠ b := fun b hb => by
      rintro rfl
      rcases List.mem_append.mp hb with hb | hb
      · rw [← f2] at hb
        obtain ⟨p, hp, e1⟩ := List.mem_map.mp hb
        have := f3 p hp
        rw [e1, g8] at this
        cases this
        exact frs_data f1 p hp _ g9
      · obtain ⟨p, hp, e1⟩ := List.mem_map.mp hb
        have := hlr p hp
        rw [e1, g6] at this
        cases this
    rw [List.map_append, List.map_append, f2]
    refine List.nodup_append.mpr ⟨?_, hd1, fun a ha b hb => ?_⟩
    · simp only [List.map_cons, List.map_nil, List.nodup_cons, List.mem_singleton, List.not_mem_nil, not_false_eq_true, List.nodup_nil, and_true]
      exact Ne.symm g7
    · rcases List.mem_cons.mp ha with rfl | ha
      · exact he2 b hb
      · cases List.mem_singleton.mp ha
        exact hT2 b hb
theorem ex_open (o : Own c m (exR e C x :: frsR ls :: n) h) (ok : FrsOk c.outer ls) (hk : c.cs.kind = .function) : ∃ (B : Heap) (a0 : Value), B.StaysIn h ∧ B.get? e = none ∧ h.FunFrames B (c.env :: c.outer) ∧ h.TracedAtW B e (.ref C) a0 x ∧
    ∀ h' x', B.StaysIn h' → h'.FunFrames B (c.env :: c.outer) → h'.TracedAtW B e (.ref C) a0 x' → h.UpToSlots h' → Own c m (exR e C x' :: frsR ls :: n) h' := by
  obtain ⟨mm, S, F, l, ⟨le, l1, rfl, ⟨oe, T, oT, vs, ts, a0, rfl, h1, h2, h3, h4, h5, h6⟩, lf, lr, rfl, hf, hn⟩, N, hd⟩ := o
  obtain ⟨B, b1, b2, b3, b4⟩ := ex_core (e := e) S F hf hn N hd ok hk (by simp)
  have hTe : T ≠ e := fun q => by subst q; simp at hd
  exact ⟨B, a0, b1, b2 e (by simp), b3, ⟨oe, vs, T, oT, ts, (N _ (.head _)).1, ⟨h1, h2⟩, h3, h4, b2 T (by simp), hTe, (N (T, oT) (by simp)).1, h5, h6⟩, fun h' x' => b4 h' C a0 x'⟩
/-- a frame left by what was raised in it -/
theorem raw_leaves (o : Own c m (rawR e C :: frsR ls :: n) h) (ok : FrsOk c.outer ls) (hk : c.cs.kind = .function) (q : ∀ h', Own c m (exR e C .none :: frsR ls :: n) h' → Q () ⟨h', g, d, tk, os⟩) : wpAny M c.A (leaving c.env (.ref e)) Q E ⟨h, g, d, tk, os⟩ := by
  obtain ⟨mm, S, F, l, ⟨le, l1, rfl, ⟨dx, t, rfl⟩, lf, lr, rfl, hf, hn⟩, N, hd⟩ := o
  obtain ⟨B, b1, b2, b3, b4⟩ := ex_core (e := e) S F hf hn N hd ok hk (by simp)
  exact wpAny_leaving_firstW (A := c.A) rfl b3 rfl (N _ (.head _)).1 b1 (b2 e (by simp)) rfl rfl rfl fun h' ⟨k1, k2, k3, k4⟩ => q h' (b4 h' C _ _ k1 k2 k3.at k4)
theorem ex_note (o : Own c m (exR e C .none :: frsR ls :: n) h) (ok : FrsOk c.outer ls) (hk : c.cs.kind = .function) (q : ∀ h', Own c m (exR e C (rawInt c.L) :: frsR ls :: n) h' → Q () ⟨h', g, d, tk, os⟩) : wpAny M c.A (noteFrame (.ref e) c.env) Q E ⟨h, g, d, tk, os⟩ := by
  obtain ⟨B, a0, b1, b2, b3, b4, b5⟩ := ex_open o ok hk
  exact wpAny_noteFrame_onW (A := c.A) rfl b3 rfl b4 b1 b2 fun h' ⟨k1, k2, k3, k4⟩ => q h' (b5 h' _ k1 k2 k3 k4)
theorem ex_flight {A : Around} (o : Own c m (exR e C x :: frsR ls :: n) h) (ok : FrsOk c.outer ls) (hk : c.cs.kind = .function) (q : ∀ h', Own c m (exR e C .none :: frsR ls :: n) h' → Q () ⟨h', g, d, tk, os⟩) : wpAny M A (setFlight (.ref e) none) Q E ⟨h, g, d, tk, os⟩ := by
  obtain ⟨B, a0, b1, b2, b3, b4, b5⟩ := ex_open o ok hk
  exact wpAny_setFlight_noneW b1 b3 b4 fun h' k1 k2 k3 k4 => q h' (b5 h' _ k1 k2 k3.at fun b o hb hn => ⟨o.slots, k4 b o hb hn⟩)
end
end Mine

end

-- GN
section
open PySem PySem.W PySem.Calls PyProof.Rows
open Sem (wp)
namespace Mine
theorem own_picks {c : Cx} {m : Map} {rs n n1 : List Res} {h : Heap} (p : Picks rs n n1) (o : Own c m n h) : Own c m (rs ++ n1) h := by
  obtain ⟨mm, S, F, l, hl, N, hd⟩ := o
  obtain ⟨l', h1, h2⟩ := holds_picks p hl
  exact ⟨mm, S, F, l', h1, fun q hq => N q (h2.mem_iff.mp hq), (h2.map _).nodup_iff.mpr hd⟩
section
variable {α β : Type} {w : World} {c : Cx} {ev : Env} {τ : Nat} {m : Map} {n n' n1 : List Res} {sc : Scope} {d : Nat} {ls : Fms} {KE : Kt Value}
/-- the own frame taken back from a callee -/
theorem back_frame {c' : Cx} {m' : Map} {mm : Str → Option Value} {h h' : Heap} (F : Fr c.h₀ c.L h mm) (S : MSub c.fix m mm) (st : c.h₀.StaysIn c'.h₀) (o : Own c' m' (frsR ((c.L, mm) :: ls) :: n) h') : Own c m (frsR ls :: n) h' := by
  obtain ⟨mm₂, S₂, F₂, _, ⟨_, l2, rfl, hfr, hl2⟩, N₂, hd₂⟩ := o
  cases hfr with
  | cons hn hr =>
    obtain ⟨es, ep, e1, e2, e3⟩ := hn
    have hnd := List.nodup_cons.mp hd₂
    refine ⟨mm, S, ⟨⟨_, es, ep, (N₂ _ (.head _)).1, e1, e2, e3⟩, fun b o e => F₂.keep b o (st b o e), F.above⟩, _, ⟨_, l2, rfl, hr, hl2⟩, fun p hp => ⟨(N₂ p (.tail _ hp)).1, fun q => hnd.1 ?_, ?_⟩, hnd.2⟩
    · exact q ▸ List.mem_map_of_mem (f := (·.1)) hp
    · cases q : c.h₀.get? p.1 with
      | none => rfl
      | some o => have := (N₂ p (.tail _ hp)).2.2; rw [st _ _ q] at this; cases this
/-- what a call hands back beside the frames; what it raises -/
noncomputable def OutF (c : Cx) (ls : Fms) (F : Str → Option Value) (K : Kt Value) (m : Map) (fl : Flow) (σ : St) : Prop := ∃ n1 n2, Pick (frsR ((c.L, F) :: ls)) σ.n n1 ∧ Less n2 n1 ∧ K (retOf fl) ⟨σ.τ, m, frsR ls :: n2⟩
noncomputable def OutE (c : Cx) (ls : Fms) (F : Str → Option Value) (KE : Kt Value) (m : Map) (v : Value) (σ : St) : Prop := ∃ e C n1 n2, v = .ref e ∧ Picks [rawR e C, frsR ((c.L, F) :: ls)] σ.n n1 ∧ Less n2 n1 ∧ KE v ⟨σ.τ, m, frsR ls :: exR e C .none :: n2⟩
theorem less_1 {r : Res} {x y : List Res} (h : Less y x) : Less (r :: y) (r :: x) := .keep (fun _ h => h) h
/-- a call of a def, the frames handed on: what it raises comes to KE -/
theorem goE_defF (b : Bool) (hb' : b = true ∨ b = c.any) {f : Addr} {name qual : Str} {params : Arguments} {body : List Stmt} {scope : Scope} {dV kV doc pm cdv ct oc : Value} {an od : Option Addr} {osl : Array (Option Value)} {vs : List Value} {mp : Map} {K : Kt Value}
    (a : At w c sc (d + 1)) (ok : FrsOk c.outer ls) (ho : (Mine.hd.heap_39 w.params).lookup f = some ⟨oc, od, .func (fnOf name qual params body scope dV kV doc pm an cdv ct), osl⟩) (hcd : codeIn (Mine.hd.heap_39 w.params) cdv qual = true)
    (hb : bindArgs (fnOf name qual params body scope dV kV doc pm an cdv ct) ⟨vs, []⟩ = pure mp.reverse)
    (h : ∀ c' τ F, At w c' scope d → c'.fix = none → c'.any = b → c'.arg = c.arg → FrsOk c'.outer ((c.L, F) :: ls) → GoE w c' ⟨τ, mp, frsR ((c.L, F) :: ls) :: n⟩ (execs body c'.env) (OutF c ls F K m) fun v σ => b = true ∧ OutE c ls F KE m v σ)
    (hloc : (mp.all fun y => scope.names.lookup y.1 == some .local) = true) (hco : scope.isCoroutine = false) (hgen : scope.isGenerator = false) (hk : scope.kind = .function)
    (hcell : (scope.names.all fun x => x.2 != .cell) = true) : GoE w c ⟨τ, m, frsR ls :: n⟩ (call (.ref f) vs) K KE := by
  rintro hh gg dr os Q E ⟨mm, S, F, _, ⟨lf, l, rfl, hf, hl⟩, N, hd⟩ q qe
  have hroom : c.A.depth < recursionLimit := by have := a.hd; show c.dp < recursionLimit; omega
  have hloc' : ∀ y ∈ mp.reverse, scope.names.lookup y.1 = some .local := fun y hy => beq_iff_eq.mp (List.all_eq_true.mp hloc y (List.mem_reverse.mp hy))
  have hcell' : ∀ x ∈ scope.names, x.2 ≠ .cell := fun x hx => bne_iff_ne.mp (List.all_eq_true.mp hcell x hx)
  obtain ⟨oL, es, ep, hL, hLd⟩ := F.ns
  have st : c.h₀.StaysIn (hideAll hh (c.L :: (lf ++ l).map (·.1))) := fun b o e => hideAll_get _ (F.keep b o e) fun hm => by
    rcases List.mem_cons.mp hm with rfl | hm
    · exact absurd (Nat.lt_of_lt_of_le (Heap.lt_size e) F.above) (Nat.lt_irrefl _)
    · obtain ⟨p, hp, rfl⟩ := List.mem_map.mp hm
      rw [(N p hp).2.2] at e; cases e
  have hid : ∀ b, b ∈ c.L :: (lf ++ l).map (·.1) → (hideAll hh (c.L :: (lf ++ l).map (·.1))).get? b = none := fun b hb => hideAll_none _ hb
  have hof : ∀ b o, (hideAll hh (c.L :: (lf ++ l).map (·.1))).get? b = some o → hh.get? b = some o := fun b o e => of_hideAll _ e
  have hsz : (hideAll hh (c.L :: (lf ++ l).map (·.1))).objs.size = hh.objs.size := hideAll_size _ _
  generalize hideAll hh (c.L :: (lf ++ l).map (·.1)) = g at st hid hof hsz
  have key : ∀ (h₁ : Heap), h₁.Ns hh.objs.size (fun x => mp.reverse.reverse.lookup x) → (∀ b o, hh.get? b = some o → h₁.get? b = some o) →
      wpX b (model pw w) (c.A.deeper (envOf qual scope hh.objs.size f cdv)) (execs body (envOf qual scope hh.objs.size f cdv)) (fun fl s' => Q (match fl with | .ret v => v | _ => .none) s')
        (fun e s' => b = true ∧ wpAny (model pw w) (c.A.deeper (envOf qual scope hh.objs.size f cdv)) (leaving (envOf qual scope hh.objs.size f cdv) e) (fun _ s'' => E e s'') (fun e' s'' => E e' s'') s') ⟨h₁, gg, dr, τ + mp.reverse.length, os⟩ := by
    intro h₁ hns hk₁
    have a' : At w { c with any := b, fix := none, dp := c.dp + 1, un := c.un + 3, cn := qual, cs := scope, L := hh.objs.size, a := f, ccd := cdv, cl := [], outer := c.env :: c.outer, h₀ := g } scope d :=
      ⟨a.X.keeps st, a.T.keeps st, hk, by have := a.hd; show c.dp + 1 + d < _; omega, by have := a.hu; show c.un + 3 + (8 * d + 200) < _; omega, rfl, a.arOn st⟩
    have ok' : FrsOk (c.env :: c.outer) ((c.L, mm) :: ls) := .cons rfl a.k ok
    refine h _ _ mm a' rfl rfl rfl ok' h₁ gg dr os _ _ ⟨_, ⟨fun x v e => by show List.lookup x mp.reverse.reverse = _; rw [List.reverse_reverse]; exact e, fun _ e => by cases e⟩, ⟨hns, fun b o e => hk₁ b o (hof b o e), Nat.le_of_eq hsz⟩,
      (c.L, oL) :: (lf ++ l), ⟨(c.L, oL) :: lf, l, rfl, .cons ⟨es, ep, hLd⟩ hf, hl⟩, List.forall_mem_cons.mpr ⟨⟨hk₁ _ _ hL, Nat.ne_of_lt (Heap.lt_size hL), hid _ (.head _)⟩, fun p hp => ⟨hk₁ _ _ (N p hp).1, Nat.ne_of_lt (Heap.lt_size (N p hp).1), hid _ (.tail _ (List.mem_map_of_mem hp))⟩⟩,
      List.nodup_cons.mpr ⟨fun hm => ?_, hd⟩⟩ (fun fl σ' h' k o' => ?_) (fun v σ' h' k o' => ?_)
    · obtain ⟨p, hp, e⟩ := List.mem_map.mp hm
      exact (N p hp).2.1 e
    · obtain ⟨n1, n2, hp, hls, k⟩ := k
      exact q (retOf fl) ⟨σ'.τ, m, frsR ls :: n2⟩ h' k (back_frame F S st (own_less (less_1 hls) (own_pick o' hp)))
    · obtain ⟨hbt, e, C, n1, n2, rfl, hp, hls, k⟩ := k
      refine ⟨hbt, ?_⟩
      have o2 := own_less (less_1 (less_1 hls)) (own_picks hp o')
      exact raw_leaves o2 ok' hk fun h'' o3 => qe _ ⟨σ'.τ, m, frsR ls :: exR e C .none :: n2⟩ h'' k (back_frame F S st (own_pick o3 (.tail .head)))
  cases b with
  | false =>
    rcases hb' with e | e
    · cases e
    · rw [← e]
      exact wpC_call (C_call_def (fd := fnX name qual params body scope [] dV kV doc pm an cdv ct) (body := body) (binds := mp.reverse) hroom ((a.X.keeps F.keep) _ _ ho) rfl (a.T.nolimit.keeps F.keep) (codeRec_of (a.X.keeps F.keep) hcd) rfl (BindsTo.of_eq hb) hcell' hloc'
        (fun h₁ hns hk₁ => wpC_mono (key h₁ hns hk₁) (fun _ _ x => x) fun _ _ x => by cases x.1) hco hgen hk)
  | true =>
    exact wpX_of (wpAny_call (codeAny_call_def (fd := fnX name qual params body scope [] dV kV doc pm an cdv ct) (body := body) (binds := mp.reverse) hroom ((a.X.keeps F.keep) _ _ ho) rfl (a.T.nolimit.keeps F.keep) (codeRec_of (a.X.keeps F.keep) hcd) rfl (BindsTo.of_eq hb) hcell' hloc'
      (fun h₁ hns hk₁ => wpAny_mono (key h₁ hns hk₁) (fun _ _ x => x) fun _ _ x => x.2) hco hgen hk))
/-- the same where nothing is raised -/
theorem go_defF (b : Bool) (hb' : b = true ∨ b = c.any) {f : Addr} {name qual : Str} {params : Arguments} {body : List Stmt} {scope : Scope} {dV kV doc pm cdv ct oc : Value} {an od : Option Addr} {osl : Array (Option Value)} {vs : List Value} {mp : Map} {K : Kt Value}
    (a : At w c sc (d + 1)) (ok : FrsOk c.outer ls) (ho : (Mine.hd.heap_39 w.params).lookup f = some ⟨oc, od, .func (fnOf name qual params body scope dV kV doc pm an cdv ct), osl⟩) (hcd : codeIn (Mine.hd.heap_39 w.params) cdv qual = true)
    (hb : bindArgs (fnOf name qual params body scope dV kV doc pm an cdv ct) ⟨vs, []⟩ = pure mp.reverse)
    (h : ∀ c' τ F, At w c' scope d → c'.fix = none → c'.any = b → c'.arg = c.arg → FrsOk c'.outer ((c.L, F) :: ls) → Go w c' ⟨τ, mp, frsR ((c.L, F) :: ls) :: n⟩ (execs body c'.env) (OutF c ls F K m))
    (hloc : (mp.all fun y => scope.names.lookup y.1 == some .local) = true) (hco : scope.isCoroutine = false) (hgen : scope.isGenerator = false) (hk : scope.kind = .function)
    (hcell : (scope.names.all fun x => x.2 != .cell) = true) : Go w c ⟨τ, m, frsR ls :: n⟩ (call (.ref f) vs) K :=
  goE_off (goE_defF b hb' a ok ho hcd hb (fun c' τ F h1 h2 h3 h4 h5 => (h c' τ F h1 h2 h3 h4 h5).toE) hloc hco hgen hk hcell)
-- the way out through a method's call
theorem goE_keep {σ : St} {vs : List Value} {t : Sem α} {K : Kt α} (h : GoE w c σ t K KE) : GoE w c σ (t.keep vs) K KE := fun h' g dr os Q E o k ke => wpX_keep (h h' g dr os Q E o k ke)
theorem goE_lead {σ : St} {t : Sem α} {f : α → Sem β} {K : Kt β} (h : Go w c σ t fun a σ => GoE w c σ (f a) K KE) : GoE w c σ (t >>= f) K KE := goE_bind h.toE
theorem goE_stand {pos : Pos} {σ : St} {f : Unit → Sem β} {K : Kt β} (h : GoE w c σ (f ()) K KE) : GoE w c σ (standAt pos >>= f) K KE := goE_lead (go_standAt h)
theorem goE_callWith_at {σ : St} {pos : Pos} {f : Value} {first : List Value} {es : List Expr} {K : Kt Value}
    (h : Go w c σ (PySem.spliced (backTo pos (starEach es ev))) fun vs σ => (∀ h, Own c σ.m σ.n h → ∃ k, (k = Keeper.frame ∨ k = Keeper.machine ∨ k = Keeper.boundFrame) ∧ Looks (model pw w) h (keeperOf f) k) ∧ GoE w c σ (call f (first ++ vs) []) K KE)
    (hplain : (backTo pos (starEach es ev)).any (·.1) = false) : GoE w c σ (callWith pos f first (backTo pos (starEach es ev)) []) K KE := by
  unfold callWith
  refine goE_lead (go_holding ((go_evalArgs (K := fun as σ => (∀ h, Own c σ.m σ.n h → ∃ k, (k = Keeper.frame ∨ k = Keeper.machine ∨ k = Keeper.boundFrame) ∧ Looks (model pw w) h (keeperOf f) k) ∧ GoE w c σ (call f (first ++ as.pos) as.kw) K KE) h hplain).mono fun as σ h => goE_stand fun hh g dr os Q E o q qe => ?_))
  obtain ⟨hk, h⟩ := h
  obtain ⟨k, hk', L⟩ := hk _ o
  simp only [hplain, List.any_nil, Bool.or_false]
  refine wpX_lead (L.here ?_)
  have tail : ∀ {t : Sem Value}, GoE w c σ t K KE → wpX c.any (model pw w) c.A (t >>= fun r => holding [r] point >>= fun _ => pure r) Q E ⟨hh, g, dr, σ.τ, os⟩ :=
    fun ht => (goE_bind (f := fun r => holding [r] point >>= fun _ => pure r) (goE_mono ht fun r σ h => goE_lead (go_holding (go_point ((go_pure h).toE))))) hh g dr os Q E o q qe
  have marked (mk : Value) : GoE w c σ (callMarked mk f (first ++ as.pos) as.kw) K KE := by unfold callMarked; exact goE_keep h
  rcases hk' with rfl | rfl | rfl <;> dsimp only <;> first | exact tail h | (split <;> first | exact tail h | exact tail (marked _))
theorem goE_callWithM {σ : St} {pos : Pos} {f : Value} {x : Value} {es : List Expr} {K : Kt Value} (a : At w c sc d) (hk : keepIn (Mine.hd.heap_39 w.params) f = true)
    (h : Go w c σ (PySem.spliced (backTo pos (starEach es ev))) fun vs σ => GoE w c σ (call f (x :: vs) []) K KE)
    (hplain : (backTo pos (starEach es ev)).any (·.1) = false := by rfl) : GoE w c σ (callWith pos f [x] (backTo pos (starEach es ev)) []) K KE :=
  goE_callWith_at (h.mono fun vs σ h => ⟨fun hh o => keeps_K hk hh (o.in a), h⟩) hplain
theorem goE_method {o : Expr} {name : Str} {apos pos : Pos} {es : List Expr} {pl : Sem Bool} {K : Kt Value}
    (h : Go w c ⟨τ, m, n⟩ (eval o ev) fun ov σ => Go w c σ (getMethod ov name pl) fun fx σ => GoE w c σ (callWith pos fx.1 fx.2 (backTo pos (starEach es ev)) []) K KE)
    (he : eval (.Call (.Attribute o name apos) es [] pos) ev = (do
      let ov ← eval o ev
      standAt apos.atName
      let (f, first) ← holding [ov] (getMethod ov name pl)
      callWith pos f first (backTo pos (starEach es ev)) []) := by rfl) : GoE w c ⟨τ, m, n⟩ (eval (.Call (.Attribute o name apos) es [] pos) ev) K KE := by
  rw [he]
  exact goE_lead (h.mono fun ov σ h => goE_stand (goE_lead (go_holding h)))
theorem goE_return {σ : St} {e : Expr} {pos : Pos} {rest : List Stmt} {K : Kt Flow} (h : GoE w c σ (eval e c.env) (fun v σ => K (.ret v) σ) KE) : GoE w c σ (execs (.Return (some e) pos :: rest) c.env) K KE := by
  rw [execs_cons, exec_Return_some]
  refine goE_bind (goE_mono (K := fun f σ => (∃ v, f = Flow.ret v) ∧ K f σ) (goE_stand (goE_bind (goE_mono h fun v σ h => (go_pure ⟨⟨v, rfl⟩, h⟩).toE))) fun f σ h => ?_)
  obtain ⟨⟨v, rfl⟩, h⟩ := h
  exact (go_pure h).toE
/-- raising an object just made -/
theorem goE_raise {σ : St} {x : Expr} {pos : Pos} {C : Addr} {B newId : String} {K : Kt Flow} (a : At w c sc d) (hf : c.any = true) (hC : ExcCls (Mine.hd.heap_39 w.params) C B newId) (hh : c.A.handled = none)
    (h : Go w c σ (eval x c.env) fun v σ' => ∃ e n1, v = .ref e ∧ Pick (rawR e C) σ'.n n1 ∧ KE v σ') : GoE w c σ (exec (.Raise (some x) none pos) c.env) K KE := by
  obtain ⟨nm, qq, N, bs, bm, sn, sub, ab, col, dd, k0, k1, k2, k3, k5, hK, T⟩ := hC
  intro h' g dr os Q E o q qe
  rw [arm_exec_Raise, hf]
  refine wpAny_bind (wpAny_standAt ?_)
  show wpAny _ _ (raiseStmt c.env (some (do let v ← eval x c.env; standAt pos; pure v)) none) _ _ _
  have key : wpX c.any (model pw w) c.A (eval x c.env) (fun v s₁ => ∃ e t dx, v = .ref e ∧ s₁.heap.get? C = some (excClassObj nm qq C N bs bm true sn sub ab col dd k0 k1 k2 k3 k5 newId) ∧
      s₁.heap.get? e = some { cls := .ref C, dict := dx, data := .fields #[.ref t, .none, .none, .none, .bool false, .none] } ∧ E (.ref e) s₁) E ⟨h', g, dr, σ.τ, os⟩ := by
    refine h h' g dr os _ E o fun v σ' h₂ k o₂ => ?_
    obtain ⟨e, n1, rfl, hp, k⟩ := k
    obtain ⟨mm, S, F, _, ⟨_, _, rfl, ⟨dx, t, rfl⟩, _⟩, N, _⟩ := own_pick o₂ hp
    exact ⟨e, t, dx, rfl, (o₂.in a) _ _ hK, (N _ (.head _)).1, qe _ σ' h₂ k o₂⟩
  rw [hf] at key
  exact exc_raise T.e hh (wpAny_bind (wpAny_mono key (fun v s₁ k => wpAny_bind (wpAny_standAt (wpAny_pure k))) fun _ _ x => x))
end
end Mine

end

-- GO
section
open PySem PySem.W PySem.Calls PyProof.Rows
open Sem (wp)
namespace Mine
/-- an exception made, without a dict yet -/
noncomputable def newR (e C : Addr) : Res := fun l => ∃ t, l = [(e, { cls := .ref C, dict := none, data := .fields #[.ref t, .none, .none, .none, .bool false, .none] })]
section
variable {α β : Type} {w : World} {c : Cx} {ev : Env} {τ : Nat} {m : Map} {n n' n1 : List Res} {sc : Scope} {d : Nat} {ls : Fms} {KE : Kt Value}
theorem go_exc {C f : Addr} {B newId initId : String} {bmB : List Value} {name qual : Str} {params : Arguments} {body : List Stmt} {scope : Scope} {dV kV doc pm cdv ct oc : Value} {an od : Option Addr} {osl : Array (Option Value)} {vs : List Value} {mp : Addr → Map} {K : Kt Value}
    (a : At w c sc (d + 2)) (hany : c.any = true) (FB : ExcBaseFacts B newId initId bmB) (hC : ExcCls (Mine.hd.heap_39 w.params) C B newId) (hi : findIn (Mine.hd.heap_39 w.params) (.ref C) "__init__" = some (some (.ref f))) (hf : typeIn (Mine.hd.heap_39 w.params) (.ref f) = some (.type "function"))
    (ho : (Mine.hd.heap_39 w.params).lookup f = some ⟨oc, od, .func (fnOf name qual params body scope dV kV doc pm an cdv ct), osl⟩) (hcd : codeIn (Mine.hd.heap_39 w.params) cdv qual = true)
    (hb : ∀ x, bindArgs (fnOf name qual params body scope dV kV doc pm an cdv ct) ⟨.ref x :: vs, []⟩ = pure (mp x).reverse)
    (h : ∀ c' τ x, At w c' scope d → c'.fix = none → c'.any = true → c'.arg = c.arg → Go w c' ⟨τ, mp x, newR x C :: n⟩ (execs body c'.env) fun fl σ => retOf fl = .none ∧ Out (fun _ σ => K (.ref x) σ) m fl σ)
    (hrest : vs.length ≤ 10) (hloc : ∀ x, ((mp x).all fun y => scope.names.lookup y.1 == some .local) = true) (hco : scope.isCoroutine = false) (hgen : scope.isGenerator = false) (hk : scope.kind = .function)
    (hcell : (scope.names.all fun x => x.2 != .cell) = true) : Go w c ⟨τ, m, n⟩ (call (.ref C) vs) K := by
  rintro hh gg dr os Q E ⟨mm, S, F, l, hl, N, hd⟩ q
  obtain ⟨nm, qq, NN, bs, bm, sn, sub, ab, col, dd, k0, k1, k2, k3, k5, hK, T⟩ := hC
  have hroom : c.dp + 1 < recursionLimit := by have := a.hd; omega
  have hloc' : ∀ x, ∀ y ∈ (mp x).reverse, scope.names.lookup y.1 = some .local := fun x y hy => beq_iff_eq.mp (List.all_eq_true.mp (hloc x) y (List.mem_reverse.mp hy))
  have hcell' : ∀ x ∈ scope.names, x.2 ≠ .cell := fun x hx => bne_iff_ne.mp (List.all_eq_true.mp hcell x hx)
  have X := a.X.keeps F.keep
  refine wpX_of (wpAny_call (exc_core FB T (X _ _ hK) (looks_findIn X hi) (fun self => bind_fn X self hf) ?_ (by rw [sizeLine_eq]; omega)))
  rw [under_make]
  generalize hx : hh.objs.size + 1 = x
  generalize hob : ({ cls := .ref C, data := .fields #[.ref hh.objs.size, .none, .none, .none, .bool false, .none] } : Obj) = oX
  have F' : Fr c.h₀ c.L ((hh.push { cls := .type "tuple", data := .seq vs.toArray }).push oX) mm := (F.push _).push _
  have N' : News c.h₀ c.L ((hh.push { cls := .type "tuple", data := .seq vs.toArray }).push oX) ((x, oX) :: l) := by
    have := (N.push F { cls := .type "tuple", data := .seq vs.toArray }).push (F.push _) oX (by rw [← hob]; rfl)
    rw [Heap.size_push, hx] at this
    exact fun p hp => this p (by rcases List.mem_cons.mp hp with rfl | hp; exact .head _; exact .tail _ (.tail _ hp))
  have hd2 : (((x, oX) :: l).map (·.1)).Nodup := List.nodup_cons.mpr ⟨fun hm => by
    obtain ⟨p, hp, e⟩ := List.mem_map.mp hm
    have h1 := Heap.lt_size (N p hp).1
    rw [show p.1 = x from e, ← hx] at h1
    exact Nat.lt_irrefl _ (Nat.lt_of_succ_lt h1), hd⟩
  refine enter_subF (small := (x, oX) :: l) F' a.X N' (fun _ hp => hp) a.T ho hcd hroom (BindsTo.of_eq (hb x)) (hloc' x) (fun g L' h₁ FG F'' N'' X' T' _ _ => ?_) hco hgen hk hcell'
  have a' : At w { c with any := true, fix := none, dp := c.dp + 1 + 1, un := c.un + 1 + 3, cn := qual, cs := scope, L := L', a := f, ccd := cdv, cl := [], outer := c.env :: c.outer, h₀ := g } scope d :=
    ⟨X', T', hk, by have := a.hd; show c.dp + 1 + 1 + d < _; omega, by have := a.hu; show c.un + 1 + 3 + (8 * d + 200) < _; omega, rfl, a.arOn FG.keep⟩
  refine h _ _ x a' rfl rfl rfl _ _ _ _ _ _ ⟨_, ⟨fun y v e => by show List.lookup y (mp x).reverse.reverse = _; rw [List.reverse_reverse]; exact e, fun _ e => by cases e⟩, F'', _, ⟨[(x, oX)], l, rfl, ⟨hh.objs.size, by rw [hob]⟩, hl⟩, N'', hd2⟩ fun fl σ' h' k o' => ?_
  obtain ⟨mm₂, S₂, F₂, l₂, hl₂, N₂, hd₂⟩ := o'
  refine leaveK_ F₂ N₂ fun F₃ N₃ _ => ?_
  obtain ⟨hr, n'', hs, k⟩ := k
  exact ⟨hr, q (.ref x) ⟨σ'.τ, m, n''⟩ h' k (own_less hs ⟨mm, S, F₃, l₂, hl₂, N₃, hd₂⟩)⟩
theorem go_setExc {e C : Addr} {x : Str} {v : Value} {B newId : String} {K : Kt Unit} (a : At w c sc d) (hp : Pick (newR e C) n n1) (hC : ExcCls (Mine.hd.heap_39 w.params) C B newId) (hs : findIn (Mine.hd.heap_39 w.params) (.ref C) "__setattr__" = some (some (.builtin "object.__setattr__")))
    (hn : findIn (Mine.hd.heap_39 w.params) (.ref C) x = some none) (k : ∀ τ, K () ⟨τ, m, rawR e C :: n1⟩) : Go w c ⟨τ, m, n⟩ (setAttr (.ref e) x v) K := go_pick hp (go_any fun h g dr os Q E o q => by
  have X := o.in a
  obtain ⟨mm, S, F, _, ⟨_, b, rfl, ⟨t, rfl⟩, hb⟩, N, hd⟩ := o
  obtain ⟨nm, qq, NN, bs, bm, sn, sub, ab, col, dd, k0, k1, k2, k3, k5, hK, T⟩ := hC
  have hx := N _ (.head _)
  refine set_plain (s := ⟨h, g, dr, τ, os⟩) X (od := none) ⟨hx.1, rfl, rfl, trivial⟩ hs (osa_exc X T hK hn hx.1 fun h' t' dx k1 k2 => ?_)
  obtain ⟨oL, es, ep, hL, r⟩ := F.ns
  refine q () t' m _ h' (k t') ⟨mm, S, ⟨⟨oL, es, ep, k1 _ _ (Ne.symm hx.2.1) hL, r⟩, fun b o e => k1 _ _ (fun z => ?_) (F.keep b o e), F.above⟩, _, ⟨_, b, rfl, ⟨some dx, t, rfl⟩, hb⟩, List.forall_mem_cons.mpr ⟨⟨k2, hx.2⟩, fun p hp => ⟨k1 _ _ (fun z => ?_) (N p (.tail _ hp)).1, (N p (.tail _ hp)).2⟩⟩, hd⟩
  · rw [z, hx.2.2] at e; cases e
  · exact (List.nodup_cons.mp hd).1 (z ▸ List.mem_map_of_mem (f := (·.1)) hp))
/-- try: .. except C: return None -/
theorem go_try {σ : St} {body rest : List Stmt} {x : Str} {np p1 p2 pos tpos : Pos} {u : Nat} {C : Addr} {B newId : String} {K : Kt Flow} (a : At w c sc d) (hf : c.any = true) (ok : FrsOk c.outer ls) (hx : nsIn (Mine.hd.heap_39 w.params) mainGlobals x = some (some (.ref C))) (hC : ExcCls (Mine.hd.heap_39 w.params) C B newId)
    (h : GoE w c σ (execs body c.env) (fun f σ => f ≠ .next ∧ K f σ) fun v σ => ∃ e n1, v = .ref e ∧ Picks [exR e C .none, frsR ls] σ.n n1 ∧ K (.ret .none) ⟨σ.τ, σ.m, frsR ls :: n1⟩) (hg : isGlob sc x = true := by rfl) :
    Go w c σ (execs (.Try body [.ExceptHandler (some (.Name x np)) none [.Return (some (.Constant .none u p1)) p2] pos] [] [] tpos :: rest) c.env) K := by
  refine go_seq ?_
  intro h' g dr os Q E o q
  rw [hf]
  refine wpAny_Try_except ?_
  have key := h h' g dr os (fun f s₁ => match f with | .next => wpAny (model pw w) c.A (execs [] c.env) Q E s₁ | f => Q f s₁)
    (fun e s₁ => wpAny (model pw w) c.A (noteFrame e c.env) (fun _ s₂ => wpAny (model pw w) c.A (setFlight e none) (fun _ s₃ => wpAny (model pw w) c.A (handleBy e c.env [.ExceptHandler (some (.Name x np)) none [.Return (some (.Constant .none u p1)) p2] pos]) Q E s₃) E s₂) E s₁) o
    (fun f σ' h₂ k o₂ => ?_) fun v σ' h₂ k o₂ => ?_
  · rw [hf] at key
    exact key
  · cases f with
    | next => exact absurd rfl k.1
    | _ => exact q _ σ' h₂ k.2 o₂
  · obtain ⟨e, n1, rfl, hp, kx⟩ := k
    refine ex_note (own_picks hp o₂) ok a.k fun h₃ o₃ => ?_
    refine ex_flight o₃ ok a.k fun h₄ o₄ => ?_
    refine wpAny_handleBy_cons (codeAny_handlers_test (nameX_K o₄.choose_spec.2.1 a.X a.TR hx ?_ a.k (a.scope (isGlob_of hg).1) (isGlob_of hg).2)) (by intro q; cases q)
    obtain ⟨nm, qq, NN, bs, bm, sn, sub, ab, col, dd, k0, k1, k2, k3, k5, hK, T⟩ := hC
    obtain ⟨le, ⟨oe, TT, oT, vs, ts, a0, rfl, h1, _⟩, Ne⟩ := own_has o₄ (.head _)
    refine wpAny_excMatches_sub_self ((o₄.in a) _ _ hK) (Ne _ (.head _)).1 h1 T.e (codeAny_handlers_suite ?_)
    refine ex_flight o₄ ok a.k fun h₅ o₅ => ?_
    rw [execs_cons, exec_Return_some]
    refine wpAny_bind (wpAny_bind (wpAny_standAt (wpAny_bind (wpAny_pure (wpAny_pure (wpAny_pure ?_))))))
    exact q (.ret .none) ⟨σ'.τ, σ'.m, frsR ls :: n1⟩ h₅ kx (own_less (.skip .refl) o₅)
theorem goE_5 {a1 a2 a3 a4 a5 : Stmt} {rest : List Stmt} {σ : St} {K : Kt Flow} (h : Go w c σ (execs [a1, a2, a3, a4, a5] c.env) (ThenE w c rest K KE)) : GoE w c σ (execs (a1 :: a2 :: a3 :: a4 :: a5 :: rest) c.env) K KE := goE_app (ss := [a1, a2, a3, a4, a5]) h
theorem thenE_ret {σ : St} {v : Value} {rest : List Stmt} {K : Kt Flow} (k : K (.ret v) σ) : ThenE w c rest K KE (.ret v) σ := k
theorem thenE_next {σ : St} {rest : List Stmt} {K : Kt Flow} (k : GoE w c σ (execs rest c.env) K KE) : ThenE w c rest K KE .next σ := k
theorem goE_seq {σ : St} {st : Stmt} {rest : List Stmt} {K : Kt Flow} (h : GoE w c σ (exec st c.env) (ThenE w c rest K KE) KE) : GoE w c σ (execs (st :: rest) c.env) K KE := by
  rw [execs_cons]
  exact goE_bind (goE_mono h fun f σ h => thenE h)
theorem outF_ret {F : Str → Option Value} {K : Kt Value} {m' : Map} {v : Value} {n2 : List Res} (hp : Pick (frsR ((c.L, F) :: ls)) n n1) (hl : Less n2 n1) (k : K v ⟨τ, m, frsR ls :: n2⟩) : OutF c ls F K m (.ret v) ⟨τ, m', n⟩ := ⟨n1, n2, hp, hl, k⟩
theorem outE_of {F : Str → Option Value} {e C : Addr} {n2 : List Res} {m' : Map} (hp : Picks [rawR e C, frsR ((c.L, F) :: ls)] n n1) (hl : Less n2 n1) (k : KE (.ref e) ⟨τ, m, frsR ls :: exR e C .none :: n2⟩) : true = true ∧ OutE c ls F KE m (.ref e) ⟨τ, m', n⟩ := ⟨rfl, e, C, n1, n2, rfl, hp, hl, k⟩
end
end Mine

end

-- GP
section
open PySem PySem.W PySem.Calls PyProof.Rows
open Sem (wp)
namespace Mine
section
variable {α β : Type} {w : World} {c : Cx} {ev : Env} {τ : Nat} {m : Map} {n n' n1 : List Res} {sc : Scope} {d : Nat}
/-- what is asked of a list of ints that is cut -/
noncomputable def CutL (o l u : Value) (K : Kt Value) (σ : St) : Prop := ∃ D ks lo hi ks', o = .ref D ∧ lstI D ks ∈ σ.n ∧ IsPart l lo ∧ IsPart u hi ∧ ks.length ≤ 1000 ∧ (∀ vs, IntsAre vs ks → IntsAre (slicePick vs.toArray lo hi none).toList ks') ∧ ∀ D', K (.ref D') ⟨σ.τ, σ.m, lstI D' ks' :: σ.n⟩
theorem cutL_from {D : Addr} {ks : List Int} {x : Int} {t : Tok} {K : Kt Value} (hm : lstI D ks ∈ n) (h0 : 0 ≤ x) (hz : ks.length ≤ 1000) (k : ∀ D', K (.ref D') ⟨τ, m, lstI D' (ks.drop x.toNat) :: n⟩) : CutL (.ref D) (.int x t) .none K ⟨τ, m, n⟩ := ⟨D, ks, _, _, _, rfl, hm, .int x t, .none, hz, fun _ hi => slice_ints_fromW hi h0, k⟩
theorem cutL_upto {D : Addr} {ks : List Int} {x : Int} {t : Tok} {K : Kt Value} (hm : lstI D ks ∈ n) (h0 : 0 ≤ x) (hz : ks.length ≤ 1000) (k : ∀ D', K (.ref D') ⟨τ, m, lstI D' (ks.take x.toNat) :: n⟩) : CutL (.ref D) .none (.int x t) K ⟨τ, m, n⟩ := ⟨D, ks, _, _, _, rfl, hm, .none, .int x t, hz, fun _ hi => slice_ints_uptoW hi h0, k⟩
theorem go_sliceL {value : Expr} {lower upper : Option Expr} {sp pos : Pos} {K : Kt Value}
    (h : Go w c ⟨τ, m, n⟩ (eval value ev) fun o σ => Go w c σ (valueOrNone (evalOpt lower ev)) fun l σ => Go w c σ (valueOrNone (evalOpt upper ev)) fun u σ => CutL o l u K σ) :
    Go w c ⟨τ, m, n⟩ (eval (.Subscript value (.Slice lower upper none sp) pos) ev) K := by
  show Go w c ⟨τ, m, n⟩ (do
    let o ← eval value ev
    let i ← holding [o] (do
      let l ← valueOrNone (evalOpt lower ev)
      let u ← holding [l] (valueOrNone (evalOpt upper ev))
      let s ← holding [l, u] (valueOrNone none)
      newFields "slice" [l, u, s])
    standAt pos
    subscriptTail value (.Slice lower upper none sp) o i) K
  refine go_bind (h.mono fun o σ h => ?_)
  refine fun hp g dr os Q E o' q => wpX_bind (wpX_holding (wpX_bind (h hp g dr os _ E o' fun l σ h' h o' => wpX_bind (wpX_holding (h h' g dr os _ E o' fun u σ h' h o' => wpX_lead (wpAny_holding (wpAny_pure (wpX_of ?_))))))))
  obtain ⟨D, ks, lo, hi, ks', rfl, hm, hl, hu, hz, hk, h⟩ := h
  obtain ⟨mm, S, F, led, hled, N, hd⟩ := o'
  obtain ⟨a, ⟨vs, kn, hi', rfl⟩, hsub⟩ := holds_mem hled hm
  refine wpAny_newObj_type ?_ (by show (3 : Nat) ≤ sizeLine + 2; rw [sizeLine_eq]; decide)
  refine wpX_lead (wpAny_standAt (wpX_of ?_))
  have hL : h'.IsList D vs.toArray := ⟨_, (N _ (hsub _ (.head _))).1, rfl, kn, rfl⟩
  have hsz : vs.toArray.size ≤ sizeLine := by rw [List.size_toArray, hi'.length, sizeLine_eq]; omega
  have hT : ({ heap := h'.push { cls := .type "slice", data := .fields #[l, u, .none] }, gens := g, drawn := dr, toks := σ.τ, os := os } : Shared).TypeIs (.ref D) "list" := Heap.IsList.typeIs (s := ⟨_, _, _, _, _⟩) (hL.push _)
  refine tail_any hT slot_list_getitem.lookup (wpAny_getItem_list_slice (hL.push _) (Heap.IsSliceOf.new ..) hl hu .none (by simp) ?_ hsz) (by with_unfolding_all rfl)
  have N1 := News.push (F.push { cls := .type "slice", data := .fields #[l, u, .none] }) (N.grown fun _ _ e => Heap.get?_push_of_some _ e) { cls := .type "list", data := .seq (slicePick vs.toArray lo hi none) }
  refine q _ ⟨σ.τ, σ.m, _⟩ _ (h (h'.push { cls := .type "slice", data := .fields #[l, u, .none] }).objs.size) (own_new S ((F.push _).push _) hled N1 hd (fun p hp => ?_) ⟨_, 0, hk vs hi', by simp⟩)
  rw [Heap.size_push]
  exact Nat.lt_succ_of_lt (Heap.lt_size (N p hp).1)
/-- tuple(a list of ints) -/
theorem go_tupleL {D : Addr} {ks : List Int} {K : Kt Value} (hm : lstI D ks ∈ n) (hz : ks.length ≤ 1000) (k : ∀ D', K (.ref D') ⟨τ, m, tupI D' ks :: n⟩) : Go w c ⟨τ, m, n⟩ (call (.type "tuple") [.ref D] []) K := go_any fun hh g dr os Q E ⟨mm, S, F, l, hl, N, hd⟩ q => by
  obtain ⟨a, ⟨vs, kn, hi, rfl⟩, hsub⟩ := holds_mem hl hm
  refine call_tuple_list (items := vs.toArray) ⟨_, (N _ (hsub _ (.head _))).1, rfl, kn, rfl⟩ (fun h' hk => ?_) (by rw [List.size_toArray, hi.length, sizeLine_eq]; omega)
  have F' : Fr c.h₀ c.L h' mm := F.keeps hk
  have N' : News c.h₀ c.L h' l := fun p hp => ⟨hk _ _ (N p hp).1, (N p hp).2⟩
  exact q _ _ m _ _ (k _) (own_new S (F'.push _) hl (N'.push F' _) hd (fun p hp => Heap.lt_size (N' p hp).1) ⟨vs, hi, rfl⟩)
theorem data_bool {b : Bool} : Data n (.bool b) (.bool b) := fun _ _ _ _ => ⟨_, .bool b⟩
/-- a truth value against another -/
theorem go_neBool {a b : Bool} {K : Kt Value} (A : At w c sc d) (k : K (.bool (a != b)) ⟨τ, m, n⟩) : Go w c ⟨τ, m, n⟩ (compareOp .NotEq (.bool a) (.bool b)) K :=
  go_neD A data_bool data_bool rfl rfl (by cases a <;> cases b <;> exact k)
theorem go_eqL2 {D D' : Addr} {a b x y : Int} {K : Kt Value} (A : At w c sc d) (h1 : lstI D [a, b] ∈ n) (h2 : lstI D' [x, y] ∈ n) (k : K (.bool (a == x && b == y)) ⟨τ, m, n⟩) : Go w c ⟨τ, m, n⟩ (compareOp .Eq (.ref D) (.ref D')) K :=
  go_eqD A (data_lstI h1) (data_lstI h2) rfl rfl (by rw [show PyData.eqv (.list (List.map .int [a, b])) (.list (List.map .int [x, y])) = (a == x && b == y) by simp [PyData.eqv, PyData.eqvAll]]; exact k)
/-- all ways of a value come to J -/
theorem go_evJ {t : Sem Value} {K : Kt Value} (J : Value → List Res → Prop) (h : Go w c ⟨τ, m, n⟩ t fun v σ => σ.m = m ∧ ∃ n', Less n' σ.n ∧ J v n') (r : ∀ v τ n, J v n → K v ⟨τ, m, n⟩) : Go w c ⟨τ, m, n⟩ t K := by
  intro h' g dr os Q E o' q
  refine h h' g dr os Q E o' ?_
  rintro v ⟨τ', m', n'⟩ h₂ ⟨rfl, n2, hl, hJ⟩ o₂
  exact q v ⟨τ', _, n2⟩ h₂ (r v τ' n2 hJ) (own_less hl o₂)
/-- less at the end -/
theorem go_post {α : Type} {σ : St} {t : Sem α} {K : Kt α} (h : Go w c σ t fun v σ' => ∃ n', Less n' σ'.n ∧ K v ⟨σ'.τ, σ'.m, n'⟩) : Go w c σ t K := fun h' g dr os Q E o q => h h' g dr os Q E o fun v σ' h₂ ⟨n', hl, k⟩ o₂ => q v ⟨_, _, n'⟩ h₂ k (own_less hl o₂)
theorem frs_nil : ∀ l, Holds [] l → frsR [] l := fun l h => by
  cases (show l = [] from h)
  exact .nil
end
end Mine

end

open PySem PySem.W PySem.Calls PyProof.Rows
namespace Mine
set_option compiler.extract_closed false
local macro_rules | `(tactic| k_extra "gcut") => `(tactic| (revert cutX_to cutX_from cutX_mid cutX_B; rename_i v _ hv))
set_option hygiene false
local macro_rules | `(tactic| k_search $x) => `(tactic| with_reducible apply $x)
local macro_rules | `(tactic| revert $xs*) => `(tactic| with_reducible first $[| (apply $xs; k_extra "t")]*)
local macro_rules | `(tactic| exists $xs,*) => `(tactic| with_reducible first $[| apply $xs]*)
local macro_rules | `(tactic| k_extra "gl") => `(tactic| first | with_reducible exact Less.refl | ((with_reducible show Less (_ :: _) _); exact less_cons (by k_extra "gp") (by k_extra "gl")) | ((with_reducible show Less _ (_ :: _)); exact Less.skip (by k_extra "gl")))
local macro_rules | `(tactic| k_extra "gd") => `(tactic| (with_reducible first | exact data_int | exact datas_nil | (apply data_sums; k_extra "gm") | (apply datas_cons <;> k_extra "gd") | (apply data_tup2; k_extra "gm") | (apply data_tupO <;> k_extra "gdm") | exact data_none))
local macro_rules | `(tactic| k_extra "gdm") => `(tactic| first | ((with_reducible show _ ∈ _); k_extra "gm") | k_extra "gd")
local macro_rules | `(tactic| k_extra "gcls") => `(tactic| (with_reducible first | exact ok633 | exact ok350 | exact ok555 | exact ok174 | assumption))
local macro_rules | `(tactic| k_extra "gput") => `(tactic| first | with_reducible exact PutAt.new | with_reducible exact PutAt.head | exact PutAt.tail (by rfl) (by k_extra "gput"))
local macro_rules | `(tactic| k_extra "gmap") => `(tactic| first | exact ml_nil | exact ml_cons rfl (by k_extra "gmap"))
local macro_rules | `(tactic| k_extra "gnz") => `(tactic| first | decide | omega)
local macro_rules | `(tactic| k_extra "gmul") => `(tactic| mul_fits)
local macro_rules | `(tactic| k_extra "gs") => `(tactic| first | exact Less.refl | exact Less.skip (by k_extra "gs") | exact Less.keep (fun _ h => h) (by k_extra "gs"))
local macro_rules | `(tactic| k_extra "ga") => `(tactic| first | with_reducible assumption | exact At.mono (by with_reducible assumption))
local macro_rules | `(tactic| k_extra "gn") => `(tactic| first | with_reducible assumption | ((with_reducible apply Int.fmod_nonneg_of_pos); decide) | ((with_reducible apply Int.fmod_lt_of_pos); decide) | decide | omega | ((simp only [List.length_cons, List.length_nil]); omega) | exact Int.le_trans (Int.le_of_lt (Int.fmod_lt_of_pos _ (by decide))) (by decide))
local macro_rules | `(tactic| k_extra "gm") => `(tactic| first | with_reducible exact mem_head | ((with_reducible apply mem_tail); k_extra "gm") | with_reducible assumption)
local macro_rules | `(tactic| k_extra "gp") => `(tactic| first | with_reducible exact Pick.head | ((with_reducible show Pick _ (_ :: _) _); with_reducible exact Pick.tail (by k_extra "gp")))
local macro_rules | `(tactic| k_extra "gz") => `(tactic| first | with_reducible assumption | omega | ((simp only [four_len, List.length_map, List.length_range, List.length_append, List.length_cons, List.length_nil, List.length_take, List.length_drop, List.length_replicate, List.length_reverse, List.length_set]); omega))
local macro_rules | `(tactic| k_extra "gi") => `(tactic| first | with_reducible exact IntsAre.nil | ((with_reducible show IntsAre (_ :: _) _); exact IntsAre.cons _ _ (by k_extra "gi")) | with_reducible assumption)
local macro_rules | `(tactic| k_extra "gr") => `(tactic| first | with_reducible assumption | exact in32_n | exact in32_c (by omega) (by k_extra "gr") | (intro q hq; (simp only [List.mem_cons, List.not_mem_nil, or_false] at hq); omega))
local macro_rules | `(tactic| k_extra "gq") => `(tactic| first | with_reducible assumption | ((with_reducible show List.length _ ≤ _); k_extra "gz") | k_extra "gn" | k_extra "gz")
local macro_rules | `(tactic| k_extra "s") => `(tactic| first | (with_reducible first | show Go _ _ _ _ _ | (show ∀ _, Go _ _ _ _ _; intros)) | (k_search iAt; k_extra "ga") | (k_search iMem; k_extra "gm") | (k_search iEq; k_extra "se") | (k_search iPick; k_extra "gp") | k_extra "s2")
local macro_rules | `(tactic| k_extra "se") => `(tactic| first | with_reducible assumption | ((first | k_search iNs | k_search iFind | k_search iKeep | k_search iFn | k_search iFindC); k_is) | (k_search iBoot; first | boot_by_name | boot_fast) | (k_search iCls; k_extra "gcls") | (k_search iDiv; k_extra "gpy") | (k_search iGet; first | rfl | exact get_getD (by k_extra "gq") (by k_extra "gq")) | rfl | assumption | decide)
local macro_rules | `(tactic| k_extra "s2") => `(tactic| first | with_reducible assumption | (k_search iIsB; assumption) | ((first | k_search iLe | k_search iLt); k_extra "gq") | (k_search iNe; first | k_extra "gnz" | exact fun e => nomatch e) | (k_search iIsPart; constructor) | (k_search iInts; k_extra "gi") | (k_search iData; k_extra "gd") | k_extra "s3")
local macro_rules | `(tactic| k_extra "s3") => `(tactic| first | (k_search iPutAt; k_extra "gput") | (k_search iPicks; exact .cons (by k_extra "gp") (.cons (by k_extra "gp") .nil)) | (k_search iPickT; first | ((with_reducible apply pickT_t); k_extra "gp") | ((with_reducible apply pickT_o) <;> first | k_extra "gp" | k_extra "gi")) | (k_search iMul; k_extra "gmul") | ((first | k_search iIn | k_search iIn32); k_extra "gr") | k_extra "s4")
local macro_rules | `(tactic| k_extra "s4") => `(tactic| first | ((with_reducible show ∀ _, _ = _); intros; rfl) | ((intros; with_reducible show List.lookup _ _ = _); rfl) | ((with_reducible show ∀ _, _ ≠ _); exact fun _ h => nomatch h) | ((fail_if_success first | k_search iEq | k_search iMem | k_search iLe | k_search iLt | k_search iNe | k_search iAt | k_search iPick | k_search iPicks | k_search iPickT | k_search iReads | k_search iIsB | k_search iIsPart | k_search iData | k_search iInts | k_search iPutAt | k_search iMul | k_search iIn | k_search iIn32 | with_reducible show ∀ _, _ = _ | with_reducible show ∀ _, _ ≠ _); intros))
local macro_rules | `(tactic| k_extra "t") => `(tactic| k_dflt (all_goals k_extra "s"))
local macro_rules | `(tactic| k_extra "g") => `(tactic| first | k_extra "gc" | k_extra "g1" | k_extra "g2" | k_extra "g3" | k_extra "g4" | k_extra "g5" | k_extra "g6" | k_extra "gcut" | k_extra "g7")
local macro_rules | `(tactic| k_extra "g1") => `(tactic| (first | exists asg, then_ret, then_next, go_return, go_int, go_binop, go_args_nil, go_none, go_bool, go_add, go_sub, go_truthB, go_sliceX, go_tuple, go_eq, go_ne, go_lt, go_gt, go_ge | revert go_assign go_args))
local macro_rules | `(tactic| k_extra "g2") => `(tactic| (first | revert go_name go_global go_method go_call go_callWith_type | (with_reducible show Go _ _ _ (call (Value.ref _) _ _) _; k_extra "gk")))
local macro_rules | `(tactic| k_extra "g3") => `(tactic| revert go_cmp go_callWith_builtin go_callWith_builtinM go_attr go_newTuple go_expr expr_ok go_mul go_mod go_div asg2 asg3 go_callWith go_callWithM go_sub' go_wFile go_wIndex go_wSize go_iLast)
local macro_rules | `(tactic| k_extra "g4") => `(tactic| (first | exists go_nil, go_if, ite_yes, ite_no, go_str, go_list, go_optN, go_optS, go_unop, go_not, go_and, go_and1, go_or, go_or1, go_and2, go_or2, go_ifexp, go_isNone, go_isntNone, go_ret0, go_methTo, go_intI, go_neg, go_notV, go_augAttr, go_iadd, go_pow32 | (with_reducible (first | apply go_bytes | apply go_range1 | apply go_range2 | apply go_intB | apply go_max2 | apply go_min2 | apply go_split | apply go_splitEq | apply go_splitNe) <;> intros)))
local macro_rules | `(tactic| k_extra "g5") => `(tactic| revert go_builtin go_item go_itemT go_itemO go_itemB go_lenB go_lenL go_addB go_getInst go_setInst go_methInst)
local macro_rules | `(tactic| k_extra "g6") => `(tactic| revert go_newList go_for go_methFrom from_ok go_toBytes go_fromBig go_range3 go_cmpV go_assignSl go_assignSub go_assignAttr go_dict0 go_newBA putA_of go_assign2 go_swap2 go_swap3 go_nameR go_freeR2 go_globalR go_builtinR go_callWithF go_wMeth go_fMeth go_dMeth go_iMeth cutX_A)
local macro_rules | `(tactic| k_extra "g7") => `(tactic| revert go_zeros go_bytesL go_bytesN go_bytesBA go_bytesB go_lenBA go_lenV go_methAppend go_methAppV go_append go_appV go_listT go_pow go_methBytes go_itemS go_setItem go_setS go_setI go_ne2 go_eq2 go_neB (go_notInS false) (go_notInS true) ite_bt ite_bf go_splitB go_truth)
section
variable {w : World} {c : Cx} {τ : Nat} {m : Map} {n : List Res} {sc : Scope} {d : Nat}

-- g_changed.lean
section
theorem changed_g {v : Value} {ks : List Int} {a o : Int} {t t' : Tok} {K : Kt Value} (A : At w c sc 3) (hv : IsB v ks) (hz : ks.length ≤ 100) (h0 : 0 ≤ a) (h1 : a < (ks.length : Int)) (g0 : 0 ≤ o) (g1 : o < 256)
    (k : ∀ v' τ, IsB v' (ks.take a.toNat ++ [o] ++ ks.drop (a.toNat + 1)) → K v' ⟨τ, m, n⟩) : Go w c ⟨τ, m, n⟩ (call (.ref 734) [v, .int a t, .int o t'] []) K := by
  refine' go_defX c.any (.inr rfl) (mp := [(Str.ofString "other", _), (Str.ofString "at", _), (Str.ofString "octets", _)]) (by with_reducible assumption) ?qho ?qhc ?qhb ?_ ?qhl ?qco ?qge ?qhk ?qce
  case qho => k_is
  case qhc => k_is
  case qhb => rfl
  case qhl => rfl
  case qco => rfl
  case qge => rfl
  case qhk => rfl
  case qce => rfl
  intro c' τ' A' hx' hf' ha'
  try rw [hf] at hf'
  repeat' k_extra "g"
  exact out_ret (by k_extra "gs") (k _ _ (by rw [show a.toNat + 1 = (a + 1).toNat by omega]; assumption))

end

-- g_take.lean
section
/-- the two ints from which a law draws -/
noncomputable def Src (r : Addr) : Res := fun l => ∃ x y : Int, lstI r [x, y] l ∧ 0 ≤ x ∧ 0 ≤ y ∧ y < 2147483647
theorem go_src {r : Addr} {α : Type} {t : Sem α} {K : Kt α} (h : ∀ x y : Int, 0 ≤ x → 0 ≤ y → y < 2147483647 → Go w c ⟨τ, m, lstI r [x, y] :: n⟩ t K) : Go w c ⟨τ, m, Src r :: n⟩ t K := by
  intro h' g dr os Q E o q
  obtain ⟨mm, S, F, l, ⟨a, b, e, hs, hb⟩, N, hd⟩ := o
  obtain ⟨x, y, hl, g0, g1, g2⟩ := hs
  exact h x y g0 g1 g2 h' g dr os Q E ⟨mm, S, F, l, ⟨a, b, e, hl, hb⟩, N, hd⟩ q
section
local macro_rules | `(tactic| k_extra "gpy") => `(tactic| exact take_py (by omega) (by omega))
local macro_rules | `(tactic| k_extra "gmul") => `(tactic| first | exact IntMulOk.of_right (fm_bits (by decide) (by decide)) | mul_fits)
theorem take_g {r : Addr} {z : Int} {t : Tok} {K : Kt Value} (A : At w c sc 1) (hz : 0 < z) (hz4 : z ≤ 4294967296) (k : ∀ d t τ, 0 ≤ d → d < z → K (.int d t) ⟨τ, m, Src r :: n⟩) : Go w c ⟨τ, m, Src r :: n⟩ (call (.ref 665) [.ref r, .int z t] []) K := by
  refine' go_defX c.any (.inr rfl) (mp := [(Str.ofString "top", _), (Str.ofString "source", _)]) (by with_reducible assumption) ?qho ?qhc ?qhb ?_ ?qhl ?qco ?qge ?qhk ?qce
  case qho => k_is
  case qhc => k_is
  case qhb => rfl
  case qhl => rfl
  case qco => rfl
  case qge => rfl
  case qhk => rfl
  case qce => rfl
  intro c' τ' A' hx' hf' ha'
  try rw [hf] at hf'
  refine go_src fun x y hx hy hy2 => ?_
  repeat' k_extra "g"
  · exact out_ret (.keep (fun _ h => ⟨_, _, h, Int.fdiv_nonneg hx (Int.le_of_lt hz), hy, hy2⟩) .refl) (k _ _ _ (Int.fmod_nonneg_of_pos _ hz) (Int.fmod_lt_of_pos _ hz))
  · exact out_ret (.keep (fun _ h => ⟨_, _, h, hx, Int.fmod_nonneg_of_pos _ (by decide), Int.fmod_lt_of_pos _ (by decide)⟩) .refl) (k _ _ _ (Int.fmod_nonneg_of_pos _ hz) (Int.fmod_lt_of_pos _ hz))
end
theorem take_p {r : Addr} {z : Int} {t : Tok} {K : Kt Value} {p0 : List Res} (A : At w c sc 1) (hp0 : Pick (Src r) p0 n) (hz : 0 < z) (hz4 : z ≤ 4294967296) (k : ∀ d t τ, 0 ≤ d → d < z → K (.int d t) ⟨τ, m, Src r :: n⟩) : Go w c ⟨τ, m, p0⟩ (call (.ref 665) [.ref r, .int z t] []) K :=
  go_pick (hp0) <| take_g A hz hz4 k

end

local macro_rules | `(tactic| k_extra "gk") => `(tactic| revert take_p)

-- g_one.lean
section
theorem one_g {r tl : Addr} {x y z : Int} {K : Kt Value} (A : At w c sc 2) (hm : lstI tl [x, y, z] ∈ n) (k : ∀ d t τ, (d = x ∨ d = y ∨ d = z) → K (.int d t) ⟨τ, m, Src r :: n⟩) : Go w c ⟨τ, m, Src r :: n⟩ (call (.ref 672) [.ref r, .ref tl] []) K := by
  refine' go_defX c.any (.inr rfl) (mp := [(Str.ofString "things", _), (Str.ofString "source", _)]) (by with_reducible assumption) ?qho ?qhc ?qhb ?_ ?qhl ?qco ?qge ?qhk ?qce
  case qho => k_is
  case qhc => k_is
  case qhb => rfl
  case qhl => rfl
  case qco => rfl
  case qge => rfl
  case qhk => rfl
  case qce => rfl
  intro c' τ' A' hx' hf' ha'
  try rw [hf] at hf'
  repeat' k_extra "g"
  all_goals exact out_ret .refl (k _ _ _ (pick3 (by assumption) (by assumption)))
theorem one_p {r tl : Addr} {x y z : Int} {K : Kt Value} {p0 : List Res} (A : At w c sc 2) (hp0 : Pick (Src r) p0 n) (hm : lstI tl [x, y, z] ∈ n) (k : ∀ d t τ, (d = x ∨ d = y ∨ d = z) → K (.int d t) ⟨τ, m, Src r :: n⟩) : Go w c ⟨τ, m, p0⟩ (call (.ref 672) [.ref r, .ref tl] []) K :=
  go_pick (hp0) <| one_g A hm k

end

-- g_four.lean
section
theorem four_in (x : Int) : KBa.In (four x) := by
  intro q hq
  unfold four at hq
  simp only [List.mem_cons, List.not_mem_nil, or_false] at hq
  rcases hq with rfl | rfl | rfl | rfl <;> exact ⟨Int.emod_nonneg _ (by decide), Int.emod_lt_of_pos _ (by decide)⟩
theorem four_ne (e : Int) : (256 : Int) ^ e.toNat ≠ 0 := Int.ne_of_gt (Int.pow_pos (by decide))
theorem four_py {x e : Int} (h : e ≤ 3) : Builtin.divisionGoesByPylong x (256 ^ e.toNat) = false := by
  refine PyProof.noPylong_small ?_
  have : e.toNat ≤ 3 := by omega
  match e.toNat, this with
  | 0, _ => decide
  | 1, _ => decide
  | 2, _ => decide
  | 3, _ => decide
theorem four_at {x : Int} {i : Nat} (h0 : 0 ≤ x) (hi : i < 4) : some ((x.fdiv (256 ^ (3 - (0 + (i : Int))).toNat)).fmod 256) = (four x)[i]? := by
  match i, hi with
  | 0, _ => show some ((x.fdiv 16777216).fmod 256) = some (x / 256 / 256 / 256 % 256); rw [Int.fdiv_eq_ediv_of_nonneg _ (by decide), Int.fmod_eq_emod_of_nonneg _ (by decide), Int.ediv_ediv_of_nonneg (by decide), Int.ediv_ediv_of_nonneg (by decide)]; rfl
  | 1, _ => show some ((x.fdiv 65536).fmod 256) = some (x / 256 / 256 % 256); rw [Int.fdiv_eq_ediv_of_nonneg _ (by decide), Int.fmod_eq_emod_of_nonneg _ (by decide), Int.ediv_ediv_of_nonneg (by decide)]; rfl
  | 2, _ => show some ((x.fdiv 256).fmod 256) = some _; rw [Int.fdiv_eq_ediv_of_nonneg _ (by decide), Int.fmod_eq_emod_of_nonneg _ (by decide)]
  | 3, _ => show some ((x.fdiv 1).fmod 256) = some _; rw [Int.fdiv_eq_ediv_of_nonneg _ (by decide), Int.fmod_eq_emod_of_nonneg _ (by decide), Int.ediv_one]
section
local macro_rules | `(tactic| k_extra "gpy") => `(tactic| exact four_py (by omega))
local macro_rules | `(tactic| k_extra "gnz") => `(tactic| exact four_ne _)
theorem four_g {x : Int} {t : Tok} {K : Kt Value} (A : At w c sc 1) (h0 : 0 ≤ x) (h1 : x < 4294967296) (k : ∀ v τ, IsB v (four x) → K v ⟨τ, m, n⟩) : Go w c ⟨τ, m, n⟩ (call (.ref 677) [.int x t] []) K := by
  refine' go_defC (mp := []) (cs := fun L => [(Str.ofString "number", L + 1)]) (rs := fun L => [cellR (L + 1) (some (.int x t))]) (by with_reducible assumption) ?qho ?qhc ?qhb ?_ ?qcs ?qrs ?qmp ?qcn ?qkd ?qnd ?qco ?qge ?qhk
  case qho => k_is
  case qhc => k_is
  case qhb => rfl
  case qcs => intro _; rfl
  case qrs => intro _; rfl
  case qmp => intro _; rfl
  case qcn => intro _; constructor <;> simp <;> omega
  case qnd => decide +kernel
  case qkd => rfl
  case qco => rfl
  case qge => rfl
  case qhk => rfl
  intro c' τ' L' A' hx' hf' hcl' ha'
  dsimp only [List.cons_append, List.nil_append]
  repeat' k_extra "g"
  refine go_compR A' hcl' (fun c2 A2 hcl2 => ?_) (by rfl) (by decide) (by rfl) (by decide) (by rfl) (fun _ => rfl)
  repeat' k_extra "g"
  refine comp_R 4 (fun ys => IntsAre ys ((four x).take ys.length)) (.head _) rfl rfl (by decide) .nil (fun i τ t' r C ys hi hJ hl hr => ?_) fun D τ ys hJ hl => ?_
  · repeat' k_extra "g"
    with_reducible refine' elt_of ?_ .head ?_
    · exact ints_take hJ (by rw [hl]; exact (four_at h0 hi).symm)
    · k_extra "gs"
  · rw [hl] at hJ
    repeat' k_extra "g"
    with_reducible refine' go_bytesV mem_head hJ ?_ ?_ fun v τ hv => ?_
    · exact four_in x
    · simp only [List.length_take, four_len]; decide
    · exact out_ret (by k_extra "gs") (k _ _ hv)
end

end

-- g_puts.lean
section
/-- numbers as octets -/
noncomputable def puts (ks : List Int) : List Int := (ks.map fun k => four (k.fmod 4294967296)).flatten
theorem puts_len (ks : List Int) : (puts ks).length = 4 * ks.length := by
  unfold puts
  induction ks with
  | nil => rfl
  | cons k ks ih => rw [List.map_cons, List.flatten_cons, List.length_append, ih, four_len, List.length_cons]; omega
theorem putsT_g {D : Addr} {ks : List Int} {K : Kt Value} (A : At w c sc 1) (hz : ks.length ≤ 100) (h1 : ks.length ≠ 1) (k : ∀ v τ, IsB v (puts ks) → K v ⟨τ, m, tupI D ks :: n⟩) : Go w c ⟨τ, m, tupI D ks :: n⟩ (call (.ref 96) [.ref D] []) K := by
  refine go_openT fun vs hi => ?_
  have hl := hi.length
  refine' go_defX c.any (.inr rfl) (mp := [(Str.ofString "words", _)]) (by with_reducible assumption) ?qho ?qhc ?qhb ?_ ?qhl ?qco ?qge ?qhk ?qce
  case qho => k_is
  case qhc => k_is
  case qhb => rfl
  case qhl => rfl
  case qco => rfl
  case qge => rfl
  case qhk => rfl
  case qce => rfl
  intro c' τ' A' hx' hf' ha'
  try rw [hf] at hf'
  repeat' k_extra "g"
  refine go_compT A' (fun c2 A2 => ?_) (by rfl) (by decide) (by rfl) (by decide) (by rfl) (fun _ => rfl)
  repeat' k_extra "g"
  refine comp_T (fun ys => BsAre ys ((ks.map fun k => four (k.fmod 4294967296)).take ys.length)) mem_head (by omega) .nil (fun i τ v r C ys hi' hv hJ hl hr => ?_) fun D τ ys hJ hl => ?_
  · obtain ⟨x, t, rfl, hx⟩ := ints_get hi hv
    repeat' k_extra "g"
    with_reducible refine' elt_of ?_ .head ?_
    · exact bs_take hJ (by assumption) (by rw [hl, List.getElem?_map, hx]; rfl)
    · k_extra "gs"
  · rw [hl, List.take_of_length_le (by rw [List.length_map]; omega)] at hJ
    repeat' k_extra "g"
    with_reducible refine' go_join ?_ mem_head hJ ?_ ?_ fun v τ hv => ?_
    · assumption
    · omega
    · have := puts_len ks; unfold puts at this; omega
    · exact out_ret (.skip (.keep (fun l h => ⟨_, hi, h⟩) .refl)) (k _ _ hv)
theorem putsL_g {D : Addr} {vs : List Value} {kk : Nat} {ks : List Int} {K : Kt Value} (A : At w c sc 1) (hi : IntsAre vs ks) (hz : ks.length ≤ 100) (h1 : ks.length ≠ 1) (k : ∀ v τ, IsB v (puts ks) → K v ⟨τ, m, n⟩) : Go w c ⟨τ, m, ob D (listOf vs.toArray kk) :: n⟩ (call (.ref 96) [.ref D] []) K := by
  have hl := hi.length
  refine' go_defX c.any (.inr rfl) (mp := [(Str.ofString "words", _)]) (by with_reducible assumption) ?qho ?qhc ?qhb ?_ ?qhl ?qco ?qge ?qhk ?qce
  case qho => k_is
  case qhc => k_is
  case qhb => rfl
  case qhl => rfl
  case qco => rfl
  case qge => rfl
  case qhk => rfl
  case qce => rfl
  intro c' τ' A' hx' hf' ha'
  try rw [hf] at hf'
  repeat' k_extra "g"
  refine go_compL A' (fun c2 A2 => ?_) (by rfl) (by decide) (by rfl) (by decide) (by rfl) (fun _ => rfl)
  repeat' k_extra "g"
  refine comp_L (fun ys => BsAre ys ((ks.map fun k => four (k.fmod 4294967296)).take ys.length)) mem_head (by omega) .nil (fun i τ v r C ys hi' hv hJ hl hr => ?_) fun D τ ys hJ hl => ?_
  · obtain ⟨x, t, rfl, hx⟩ := ints_get hi hv
    repeat' k_extra "g"
    with_reducible refine' elt_of ?_ .head ?_
    · exact bs_take hJ (by assumption) (by rw [hl, List.getElem?_map, hx]; rfl)
    · k_extra "gs"
  · rw [hl, List.take_of_length_le (by rw [List.length_map]; omega)] at hJ
    repeat' k_extra "g"
    with_reducible refine' go_join ?_ mem_head hJ ?_ ?_ fun v τ hv => ?_
    · assumption
    · omega
    · have := puts_len ks; unfold puts at this; omega
    · exact out_ret (.skip (.skip .refl)) (k _ _ hv)
theorem putsT_p {D : Addr} {ks : List Int} {K : Kt Value} {p0 : List Res} (A : At w c sc 1) (hp0 : PickT D ks p0 n) (hz : ks.length ≤ 100) (h1 : ks.length ≠ 1) (k : ∀ v τ, IsB v (puts ks) → K v ⟨τ, m, tupI D ks :: n⟩) : Go w c ⟨τ, m, p0⟩ (call (.ref 96) [.ref D] []) K :=
  go_pickT hp0 <| putsT_g A hz h1 k
theorem putsL_p {D : Addr} {vs : List Value} {kk : Nat} {ks : List Int} {K : Kt Value} {p0 : List Res} (A : At w c sc 1) (hp0 : Pick (ob D (listOf vs.toArray kk)) p0 n) (hi : IntsAre vs ks) (hz : ks.length ≤ 100) (h1 : ks.length ≠ 1) (k : ∀ v τ, IsB v (puts ks) → K v ⟨τ, m, n⟩) : Go w c ⟨τ, m, p0⟩ (call (.ref 96) [.ref D] []) K :=
  go_pick (hp0) <| putsL_g A hi hz h1 k

end

-- g_gets.lean
section
theorem wd_mid {ks : List Int} {i : Nat} {a b : Int} (ha : a = 4 * (i : Int)) (hb : b = 4) (h1 : 4 * i + 4 ≤ ks.length) : KFB.value ((ks.drop a.toNat).take b.toNat) = wd ks i := by
  rw [ha, hb, show (4 * (i : Int)).toNat = 4 * i by omega, show (4 : Int).toNat = 4 from rfl]
  have d : ∀ j, j < 4 → (ks.drop (4 * i)).getD j 0 = ks.getD (4 * i + j) 0 := fun j _ => by
    rw [List.getD_eq_getElem?_getD, List.getD_eq_getElem?_getD, List.getElem?_drop]
  unfold wd
  rw [← d 1 (by decide), ← d 2 (by decide), ← d 3 (by decide), show ks.getD (4 * i) 0 = (ks.drop (4 * i)).getD 0 0 from (d 0 (by decide)).symm]
  have hl2 : 4 ≤ (ks.drop (4 * i)).length := by rw [List.length_drop]; omega
  generalize ks.drop (4 * i) = l at hl2
  match l, hl2 with
  | a :: b :: c :: e :: r, _ => simp [KFB.value, w4]
theorem gets_g {v : Value} {ks : List Int} {N : Nat} {t t' : Tok} {K : Kt Value} (A : At w c sc 1) (hv : IsB v ks) (hz : ks.length ≤ 100) (hN : 4 * N ≤ ks.length) (k : ∀ D τ, K (.ref D) ⟨τ, m, lstI D ((List.range N).map (wd ks)) :: n⟩) : Go w c ⟨τ, m, n⟩ (call (.ref 101) [v, .int 0 t, .int (N : Nat) t'] []) K := by
  refine' go_defC (mp := [(Str.ofString "many", .int (N : Nat) t')]) (cs := fun L => [(Str.ofString "at", L + 2), (Str.ofString "octets", L + 1)]) (rs := fun L => [cellR (L + 2) (some (.int 0 t)), cellR (L + 1) (some (v))]) (by with_reducible assumption) ?qho ?qhc ?qhb ?_ ?qcs ?qrs ?qmp ?qcn ?qkd ?qnd ?qco ?qge ?qhk
  case qho => k_is
  case qhc => k_is
  case qhb => rfl
  case qcs => intro _; rfl
  case qrs => intro _; rfl
  case qmp => intro _; rfl
  case qcn => intro _; constructor <;> simp <;> omega
  case qnd => decide +kernel
  case qkd => rfl
  case qco => rfl
  case qge => rfl
  case qhk => rfl
  intro c' τ' L' A' hx' hf' hcl' ha'
  dsimp only [List.cons_append, List.nil_append]
  repeat' k_extra "g"
  refine go_compR A' hcl' (fun c2 A2 hcl2 => ?_) (by rfl) (by decide) (by rfl) (by decide) (by rfl) (fun _ => rfl)
  repeat' k_extra "g"
  refine comp_R N (fun ys => IntsAre ys (((List.range N).map (wd ks)).take ys.length)) mem_head (small_one (by decide) (by decide) (by omega) (by omega)) (rangeSize_nat _ _) (by omega) .nil (fun i τ t' r C ys hi hJ hl hr => ?_) fun D τ ys hJ hl => ?_
  · repeat' k_extra "g"
    with_reducible refine' elt_of ?_ (.tail .head) ?_
    · exact ints_take hJ (by rw [hl, List.getElem?_map, List.getElem?_range hi, wd_mid (i := i) (by omega) (by omega) (by omega)]; rfl)
    · k_extra "gs"
  · rw [hl] at hJ
    repeat' k_extra "g"
    exact out_ret (.keep (fun l ⟨kk, h⟩ => ⟨ys, kk, by rw [List.take_of_length_le (by rw [List.length_map, List.length_range]; exact Nat.le_refl _)] at hJ; exact hJ, h⟩) (by k_extra "gs")) (k _ _)

end

-- g_check.lean
section
/-- both sums, as a list -/
noncomputable def sumsL (ks : List Int) (x y : Int) : List Int := [(sums ks (x, y)).1, (sums ks (x, y)).2]
theorem inv_cut {p : List Int} {x y a o t : Int} (h : Inv p x y a o t) (hlt : a < (p.length : Int)) :
    Inv p x y (a + 8) ((o + KFB.value ((p.drop a.toNat).take (a + 4 - a).toNat) + t).fmod 4294967296)
      ((t + KFB.value ((p.drop (a + 4).toNat).take (a + 8 - (a + 4)).toNat) + (o + KFB.value ((p.drop a.toNat).take (a + 4 - a).toNat) + t).fmod 4294967296).fmod 4294967296) := by
  obtain ⟨k, rfl⟩ := Int.eq_ofNat_of_zero_le h.lo
  obtain ⟨hk, h⟩ := inv_core h hlt
  rw [show (k : Int) + 4 - k = 4 by clear h hk hlt; omega, show (k : Int) + 8 - (k + 4) = 4 by clear h hk hlt; omega]
  exact h
theorem check_g {v : Value} {D : Addr} {ks : List Int} {x y : Int} {K : Kt Value} (A : At w c sc 1) (hv : IsB v ks) (hz : ks.length ≤ 100) (k : ∀ D' τ, K (.ref D') ⟨τ, m, tupI D' (sumsL ks x y) :: tupI D [x, y] :: n⟩) : Go w c ⟨τ, m, tupI D [x, y] :: n⟩ (call (.ref 108) [v, .ref D] []) K := by
  refine go_openT fun vs hi => ?_
  obtain ⟨t1, t2, rfl⟩ := ints2 hi
  refine' go_defX true (.inl rfl) (mp := [(Str.ofString "sums", _), (Str.ofString "octets", _)]) (by with_reducible assumption) ?qho ?qhc ?qhb ?_ ?qhl ?qco ?qge ?qhk ?qce
  case qho => k_is
  case qhc => k_is
  case qhb => rfl
  case qhl => rfl
  case qco => rfl
  case qge => rfl
  case qhk => rfl
  case qce => rfl
  intro c' τ' A' hx' hf' ha'
  try rw [hf] at hf'
  iterate 12 k_extra "g"
  refine go_ifJ (fun m' n' => ∃ v p s1 s2 s3, m' = [(Str.ofString "octets", v), (Str.ofString "size", .int (p.length : Nat) s1), (Str.ofString "one", .int x s2), (Str.ofString "two", .int y s3)] ∧ n' = ob D (tupO [.int x t1, .int y t2]) :: n ∧ IsB v p ∧ p = pad8 ks) ?_ ?_
  · repeat' k_extra "g"
    · exact join_of (by k_extra "gmap") .refl ⟨_, _, _, _, _, rfl, rfl, by assumption, pad8_of1 (by assumption)⟩
    · exact join_of (by k_extra "gmap") .refl ⟨_, _, _, _, _, rfl, rfl, hv, (pad8_of0 (by assumption)).symm⟩
  rintro τ m' n' ⟨v, p, s1, s2, s3, rfl, rfl, hv, hp⟩
  have hp8 : (p.length : Int) % 8 = 0 := hp ▸ pad8_mod ks
  have hpz : p.length ≤ 110 := by have := pad8_len ks; rw [hp]; omega
  iterate 3 k_extra "g"
  refine go_while hf' (fun k m' n' => ∃ a o t s1 s2 s3 s4, k = (200 - a).toNat ∧ m' = [(Str.ofString "at", .int a s1), (Str.ofString "octets", v), (Str.ofString "size", .int (p.length : Nat) s2), (Str.ofString "one", .int o s3), (Str.ofString "two", .int t s4)] ∧ n' = ob D (tupO [.int x t1, .int y t2]) :: n ∧ Inv p x y a o t) 200 ⟨_, _, _, _, _, _, _, rfl, rfl, rfl, inv0 hp8⟩ ?_
  rintro k' τ m' n' ⟨a, o, t, s1, s2, s3, s4, rfl, rfl, rfl, inv⟩
  have ⟨lo, hi', by8, len8, _⟩ := inv
  repeat' k_extra "g"
  · exact wturn (200 - (a + 8)).toNat (by omega) (by k_extra "gmap") (by k_extra "gs") ⟨a + 8, _, _, _, _, _, _, rfl, rfl, rfl, inv_cut inv (by assumption)⟩
  · have e : (o, t) = sums ks (x, y) := by subst hp; exact inv_end inv (by assumption)
    have e' : sumsL ks x y = [o, t] := by unfold sumsL; rw [← e]
    exact out_ret (.keep (fun l h => ⟨_, e' ▸ .cons _ _ (.cons _ _ .nil), h⟩) (.keep (fun l h => ⟨_, hi, h⟩) .refl)) (k _ _)
theorem check_p {v : Value} {D : Addr} {ks : List Int} {x y : Int} {K : Kt Value} {p0 : List Res} (A : At w c sc 1) (hp0 : PickT D [x, y] p0 n) (hv : IsB v ks) (hz : ks.length ≤ 100) (k : ∀ D' τ, K (.ref D') ⟨τ, m, tupI D' (sumsL ks x y) :: tupI D [x, y] :: n⟩) : Go w c ⟨τ, m, p0⟩ (call (.ref 108) [v, .ref D] []) K :=
  go_pickT hp0 <| check_g A hv hz k

end

-- g_words.lean
section
theorem wd_at {p : List Int} {i : Nat} {a : Int} (ha : a = 4 * (i : Int)) : wd p i = ((p.getD a.toNat 0 * 256 + p.getD (a + 1).toNat 0) * 256 + p.getD (a + 2).toNat 0) * 256 + p.getD (a + 3).toNat 0 := by
  unfold wd w4
  rw [show a.toNat = 4 * i by omega, show (a + 1).toNat = 4 * i + 1 by omega, show (a + 2).toNat = 4 * i + 2 by omega, show (a + 3).toNat = 4 * i + 3 by omega]
/-- the words of octets -/
noncomputable def words (ks : List Int) : List Int := (List.range ((pad8 ks).length / 4)).map (wd (pad8 ks))
theorem words_len (ks : List Int) : (words ks).length = (pad8 ks).length / 4 := by unfold words; rw [List.length_map, List.length_range]
section
local macro_rules | `(tactic| k_extra "gpy") => `(tactic| exact PyProof.noPylong_small (by decide))
theorem words_g {v : Value} {ks : List Int} {K : Kt Value} (A : At w c sc 1) (hf : c.any = false) (hv : IsB v ks) (hz : ks.length ≤ 100) (k : ∀ D τ, K (.ref D) ⟨τ, m, lstI D (words ks) :: n⟩) : Go w c ⟨τ, m, n⟩ (call (.ref 684) [v] []) K := by
  refine' go_defX c.any (.inr rfl) (mp := [(Str.ofString "octets", _)]) (by with_reducible assumption) ?qho ?qhc ?qhb ?_ ?qhl ?qco ?qge ?qhk ?qce
  case qho => k_is
  case qhc => k_is
  case qhb => rfl
  case qhl => rfl
  case qco => rfl
  case qge => rfl
  case qhk => rfl
  case qce => rfl
  intro c' τ' A' hx' hf' ha'
  try rw [hf] at hf'
  repeat' k_extra "g"
  refine go_addB hv (by assumption) (by have := pad8_len ks; unfold pad8 at this; rw [List.length_append] at this; omega) fun v2 τ2 hv2 => ?_
  change IsB v2 (pad8 ks) at hv2
  have hp8 := pad8_mod ks
  have hpz : (pad8 ks).length ≤ 110 := by have := pad8_len ks; omega
  generalize hp : pad8 ks = p at hv2 hp8 hpz
  obtain ⟨N, hN⟩ : ∃ N : Nat, p.length = 4 * N := ⟨p.length / 4, by omega⟩
  repeat' k_extra "g"
  rename_i D0 R0 _
  refine iter_range (N := N) (fun i m' n' => m' = [(Str.ofString "whole", v2), (Str.ofString "found", .ref D0)] ∧ n' = lstI D0 ((List.range i).map (wd p)) :: n) A' hx' hf' mem_head (by rw [hN]; exact small4 (by omega)) (by rw [hN]; exact size4 N) (by k_extra "gmap") (.skip (.keep (fun l h => ⟨[], 0, .nil, h⟩) .refl)) ⟨rfl, rfl⟩ ?_ ?_ rfl
  · rintro i t τ m' n' r hi ⟨rfl, rfl⟩
    refine go_pick (r := lstI D0 ((List.range i).map (wd p))) (.tail .head) ?_
    repeat' k_extra "g"
    exact turn_next (by k_extra "gmap") (.tail .head) (.keep (fun l h => by rw [List.range_succ, List.map_append, List.map_singleton, wd_at (i := i) (a := 0 + (i : Int) * 4) (by omega)]; exact h) .refl) ⟨rfl, rfl⟩
  · rintro τ m' n' ⟨rfl, rfl⟩
    repeat' k_extra "g"
    exact out_ret (by rw [show words ks = (List.range N).map (wd p) by unfold words; rw [hp, hN, Nat.mul_div_cancel_left _ (by decide)]]; exact .refl) (k _ _)
end

end

local macro_rules | `(tactic| k_extra "gk") => `(tactic| revert words_g)

-- g_sums.lean
section
/-- the two sums after i words, word by word -/
noncomputable def hs (p : List Int) (x y : Int) : Nat → Int × Int
  | 0 => (x, y)
  | i + 1 => if i % 2 = 0 then (((hs p x y i).1 + wd p i + (hs p x y i).2).fmod 4294967296, (hs p x y i).2) else ((hs p x y i).1, ((hs p x y i).2 + wd p i + (hs p x y i).1).fmod 4294967296)
theorem wd_drop (p : List Int) (i : Nat) : wd p (i + 2) = wd (p.drop 8) i := by
  have d : ∀ j, (p.drop 8).getD j 0 = p.getD (8 + j) 0 := fun j => by
    rw [List.getD_eq_getElem?_getD, List.getD_eq_getElem?_getD, List.getElem?_drop]
  unfold wd
  rw [d, d, d, d, show 4 * (i + 2) = 8 + 4 * i by omega, show 8 + 4 * i + 1 = 8 + (4 * i + 1) by omega, show 8 + 4 * i + 2 = 8 + (4 * i + 2) by omega, show 8 + 4 * i + 3 = 8 + (4 * i + 3) by omega]
theorem hs_shift (p : List Int) (x y : Int) : ∀ j, hs p x y (j + 2) = hs (p.drop 8) (hs p x y 2).1 (hs p x y 2).2 j
  | 0 => rfl
  | j + 1 => by
    have ih := hs_shift p x y j
    have e1 : hs p x y (j + 1 + 2) = if (j + 2) % 2 = 0 then (((hs p x y (j + 2)).1 + wd p (j + 2) + (hs p x y (j + 2)).2).fmod 4294967296, (hs p x y (j + 2)).2) else ((hs p x y (j + 2)).1, ((hs p x y (j + 2)).2 + wd p (j + 2) + (hs p x y (j + 2)).1).fmod 4294967296) := rfl
    have e2 : ∀ u v, hs (p.drop 8) u v (j + 1) = if j % 2 = 0 then (((hs (p.drop 8) u v j).1 + wd (p.drop 8) j + (hs (p.drop 8) u v j).2).fmod 4294967296, (hs (p.drop 8) u v j).2) else ((hs (p.drop 8) u v j).1, ((hs (p.drop 8) u v j).2 + wd (p.drop 8) j + (hs (p.drop 8) u v j).1).fmod 4294967296) := fun _ _ => rfl
    rw [e1, e2, ih, wd_drop, show (j + 2) % 2 = j % 2 by omega]
theorem hs_sum8 : ∀ (n : Nat) (p : List Int) (x y : Int), p.length = 8 * n → hs p x y (2 * n) = sum8 p x y
  | 0, p, x, y, h => by
    have : p = [] := List.length_eq_zero_iff.mp h
    subst this; rfl
  | n + 1, p, x, y, h => by
    obtain ⟨b0, b1, b2, b3, b4, b5, b6, b7, r, rfl⟩ := eight (l := p) (by omega)
    rw [show 2 * (n + 1) = 2 * n + 2 by omega, hs_shift]
    have hr : r.length = 8 * n := by simp at h; omega
    rw [show (b0 :: b1 :: b2 :: b3 :: b4 :: b5 :: b6 :: b7 :: r).drop 8 = r from rfl, hs_sum8 n r _ _ hr]
    rfl
theorem hs_sums {ks : List Int} {x y : Int} : hs (pad8 ks) x y ((pad8 ks).length / 4) = sums ks (x, y) := by
  have h := pad8_len ks
  rw [show (pad8 ks).length / 4 = 2 * (((ks.length : Int) + 7) / 8).toNat by omega]
  exact hs_sum8 _ _ _ _ h
noncomputable def SInv (p : List Int) (x y : Int) (i : Nat) (row : List Int) : Prop := row = [(hs p x y i).1, (hs p x y i).2]
theorem row_step {p : List Int} {x y a : Int} {i : Nat} {row : List Int} (ha : a = (i : Int)) (hi : i < p.length / 4) (h : SInv p x y i row) :
    SInv p x y (i + 1) (row.set (a.fmod 2).toNat ((row.getD (a.fmod 2).toNat 0 + (List.map (wd p) (List.range (p.length / 4))).getD a.toNat 0 + row.getD (1 - a.fmod 2).toNat 0).fmod (2 ^ Int.toNat 32))) := by
  unfold SInv at h ⊢
  subst h
  subst ha
  have e1 : (List.map (wd p) (List.range (p.length / 4))).getD ((i : Int)).toNat 0 = wd p i := by
    rw [show ((i : Int)).toNat = i by omega, List.getD_eq_getElem?_getD]
    simp [hi]
  have e2 : (2 : Int) ^ Int.toNat 32 = 4294967296 := by decide
  rw [e1, e2]
  have e3 : ((i : Int)).fmod 2 = ((i % 2 : Nat) : Int) := by rw [Int.fmod_eq_emod_of_nonneg _ (by decide)]; omega
  rw [e3]
  have e4 : hs p x y (i + 1) = if i % 2 = 0 then (((hs p x y i).1 + wd p i + (hs p x y i).2).fmod 4294967296, (hs p x y i).2) else ((hs p x y i).1, ((hs p x y i).2 + wd p i + (hs p x y i).1).fmod 4294967296) := rfl
  rw [e4]
  rcases (show i % 2 = 0 ∨ i % 2 = 1 by omega) with h | h
  · rw [h, if_pos rfl]
    rfl
  · rw [h, if_neg (by decide)]
    rfl
section
theorem sums_g {v : Value} {D : Addr} {ks : List Int} {x y : Int} {K : Kt Value} (A : At w c sc 2) (hf : c.any = false) (hv : IsB v ks) (hz : ks.length ≤ 100) (k : ∀ D' τ, K (.ref D') ⟨τ, m, tupI D' (sumsL ks x y) :: tupI D [x, y] :: n⟩) : Go w c ⟨τ, m, tupI D [x, y] :: n⟩ (call (.ref 691) [v, .ref D] []) K := by
  have hwl := words_len ks
  have hpz : (pad8 ks).length ≤ 110 := by rw [pad8_len]; omega
  refine' go_defX c.any (.inr rfl) (mp := [(Str.ofString "sums", _), (Str.ofString "octets", _)]) (by with_reducible assumption) ?qho ?qhc ?qhb ?_ ?qhl ?qco ?qge ?qhk ?qce
  case qho => k_is
  case qhc => k_is
  case qhb => rfl
  case qhl => rfl
  case qco => rfl
  case qge => rfl
  case qhk => rfl
  case qce => rfl
  intro c' τ' A' hx' hf' ha'
  try rw [hf] at hf'
  repeat' k_extra "g"
  rename_i R W _ T G _
  generalize hp : pad8 ks = p at hwl hpz
  have hW : words ks = (List.range (p.length / 4)).map (wd p) := by unfold words; rw [hp]
  refine iter_pick (r := lstI R _) (.tail (.tail (.tail .head))) ?_
  refine iter_range (N := p.length / 4) (fun i m' n' => m' = [(Str.ofString "row", .ref R), (Str.ofString "words", .ref W)] ∧ n' = lstI R [(hs p x y i).1, (hs p x y i).2] :: lstI W (words ks) :: tupI D [x, y] :: n) A' hx' hf' (mem_tail mem_head) (small_one (by decide) (by decide) (by omega) (by omega)) (by rw [rangeSize_nat, hwl]; omega) (by k_extra "gmap")
    (.keep (fun _ h => h) (.skip (.skip .refl))) ⟨rfl, rfl⟩ ?_ ?_ rfl
  · rintro i t τ m' n' r hi ⟨rfl, rfl⟩
    have f0 := Int.fmod_nonneg_of_pos (0 + (i : Int) * 1) (show (0 : Int) < 2 by decide)
    have f1 := Int.fmod_lt_of_pos (0 + (i : Int) * 1) (show (0 : Int) < 2 by decide)
    refine go_pick (r := lstI R _) (.tail .head) ?_
    repeat' k_extra "g"
    have e := row_step (p := p) (x := x) (y := y) (a := 0 + (i : Int) * 1) (i := i) (by omega) hi rfl
    unfold SInv at e
    exact turn_next (by k_extra "gmap") (.tail .head) (.keep (fun l h => by rw [hW] at h; rw [← e]; exact h) .refl) ⟨rfl, rfl⟩
  · rintro τ m' n' ⟨rfl, rfl⟩
    repeat' k_extra "g"
    have e : sumsL ks x y = [(hs p x y (p.length / 4)).1, (hs p x y (p.length / 4)).2] := by unfold sumsL; rw [← hs_sums, hp]
    exact out_ret (.keep (fun l h => ⟨_, e ▸ .cons _ _ (.cons _ _ .nil), h⟩) (.skip (.skip .refl))) (k _ _)
end
theorem sums_p {v : Value} {D : Addr} {ks : List Int} {x y : Int} {K : Kt Value} {p0 : List Res} (A : At w c sc 2) (hp0 : PickT D [x, y] p0 n) (hf : c.any = false) (hv : IsB v ks) (hz : ks.length ≤ 100) (k : ∀ D' τ, K (.ref D') ⟨τ, m, tupI D' (sumsL ks x y) :: tupI D [x, y] :: n⟩) : Go w c ⟨τ, m, p0⟩ (call (.ref 691) [v, .ref D] []) K :=
  go_pickT hp0 <| sums_g A hf hv hz k

end

local macro_rules | `(tactic| k_extra "gk") => `(tactic| revert four_g sums_p)

-- g_frame.lean
section
noncomputable def In32 (ks : List Int) : Prop := ∀ q ∈ ks, 0 ≤ q ∧ q < 4294967296
theorem iIn32 {ks : List Int} (h : In32 ks) : In32 ks := h
theorem in32_sums {ks : List Int} {x y : Int} (h : In32 [x, y]) : In32 (sumsL ks x y) := by
  have hx := h x (.head _)
  have hy := h y (.tail _ (.head _))
  have := sums_range (o := (sums ks (x, y)).1) (t := (sums ks (x, y)).2) rfl hx.1 hx.2 hy.1 hy.2
  intro q hq
  unfold sumsL at hq
  simp only [List.mem_cons, List.not_mem_nil, or_false] at hq
  rcases hq with rfl | rfl
  · exact ⟨this.1, this.2.1⟩
  · exact this.2.2
/-- words as octets -/
noncomputable def fours (ks : List Int) : List Int := (ks.map four).flatten
theorem fours_len (ks : List Int) : (fours ks).length = 4 * ks.length := by
  unfold fours
  induction ks with
  | nil => rfl
  | cons k ks ih => rw [List.map_cons, List.flatten_cons, List.length_append, ih, four_len, List.length_cons]; omega
/-- what the sums of a frame are drawn over; a frame's octets -/
noncomputable def overF (p q : Int) (ks : List Int) : List Int := four p ++ four q ++ ks
noncomputable def frameL (p q s0 s1 x y : Int) (ks : List Int) : List Int := fours [p, q, s0, s1, (sums (overF p q ks) (x, y)).1, (sums (overF p q ks) (x, y)).2] ++ ks
theorem in32_n : In32 [] := List.forall_mem_nil _
theorem in32_c {a : Int} {l : List Int} (h : 0 ≤ a ∧ a < 4294967296) (t : In32 l) : In32 (a :: l) := List.forall_mem_cons.mpr ⟨h, t⟩
section
local macro_rules | `(tactic| k_extra "gz") => `(tactic| ((with_reducible show (sumsL _ _ _).length ≤ _); exact Nat.le_of_ble_eq_true rfl))
theorem frame_g {v : Value} {S D : Addr} {ks : List Int} {p q s0 s1 x y : Int} {t t' : Tok} {K : Kt Value} (A : At w c sc 3) (hf : c.any = false) (hv : IsB v ks) (hz : ks.length ≤ 80) (h0 : In32 [p, q, s0, s1]) (h1 : In32 [x, y])
    (k : ∀ D' E v' τ, IsB v' (frameL p q s0 s1 x y ks) → K (.ref D') ⟨τ, m, ob D' (tupO [v', .ref E]) :: tupI E (sumsL (overF p q ks) x y) :: tupI D [x, y] :: tupI S [s0, s1] :: n⟩) :
    Go w c ⟨τ, m, tupI S [s0, s1] :: tupI D [x, y] :: n⟩ (call (.ref 696) [.int p t, .int q t', .ref S, v, .ref D] []) K := by
  have ⟨p0, p1⟩ := h0 p (.head _)
  have ⟨q0, q1⟩ := h0 q (.tail _ (.head _))
  refine' go_defX c.any (.inr rfl) (mp := [(Str.ofString "sums", _), (Str.ofString "octets", _), (Str.ofString "salts", _), (Str.ofString "count", _), (Str.ofString "page", _)]) (by with_reducible assumption) ?qho ?qhc ?qhb ?_ ?qhl ?qco ?qge ?qhk ?qce
  case qho => k_is
  case qhc => k_is
  case qhb => rfl
  case qhl => rfl
  case qco => rfl
  case qge => rfl
  case qhk => rfl
  case qce => rfl
  intro c' τ' A' hx' hf' ha'
  try rw [hf] at hf'
  repeat' k_extra "g"
  have h2 := in32_sums (ks := four p ++ four q ++ ks) h1
  refine go_compT A' (fun c2 A2 => ?_) (by rfl) (by decide) (by rfl) (by decide) (by rfl) (fun _ => rfl)
  repeat' k_extra "g"
  refine comp_T (fun ys => BsAre ys (([p, q, s0, s1, (sums (four p ++ four q ++ ks) (x, y)).1, (sums (four p ++ four q ++ ks) (x, y)).2].map four).take ys.length)) mem_head (Nat.le_of_ble_eq_true rfl) .nil (fun i τ v r C ys hi' hv' hJ hl hr => ?_) fun D τ ys hJ hl => ?_
  · obtain ⟨z, t, rfl, hx⟩ := ints_get (ks := [p, q, s0, s1, (sums (four p ++ four q ++ ks) (x, y)).1, (sums (four p ++ four q ++ ks) (x, y)).2]) (by k_extra "gi") hv'
    have hz' : 0 ≤ z ∧ z < 4294967296 := by
      have := List.mem_of_getElem? hx
      simp only [List.mem_cons, List.not_mem_nil, or_false] at this
      rcases this with rfl | rfl | rfl | rfl | rfl | rfl
      · exact h0 _ (.head _)
      · exact h0 _ (.tail _ (.head _))
      · exact h0 _ (.tail _ (.tail _ (.head _)))
      · exact h0 _ (.tail _ (.tail _ (.tail _ (.head _))))
      · exact h2 _ (.head _)
      · exact h2 _ (.tail _ (.head _))
    obtain ⟨z0, z1⟩ := hz'
    repeat' k_extra "g"
    with_reducible refine' elt_of ?_ .head ?_
    · exact bs_take hJ (by assumption) (by rw [hl, List.getElem?_map, hx]; rfl)
    · k_extra "gs"
  · rw [hl] at hJ
    have hJ : BsAre ys ([p, q, s0, s1, (sums (four p ++ four q ++ ks) (x, y)).1, (sums (four p ++ four q ++ ks) (x, y)).2].map four) := hJ
    repeat' k_extra "g"
    with_reducible refine' go_join ?_ mem_head hJ ?_ ?_ fun v τ hv2 => ?_
    · assumption
    · rw [hl]; exact fun e => nomatch e
    · have := fours_len [p, q, s0, s1, (sums (four p ++ four q ++ ks) (x, y)).1, (sums (four p ++ four q ++ ks) (x, y)).2]; unfold fours at this; rw [this]; exact Nat.le_of_ble_eq_true rfl
    change IsB v (fours [p, q, s0, s1, (sums (overF p q ks) (x, y)).1, (sums (overF p q ks) (x, y)).2]) at hv2
    have hl2 := fours_len [p, q, s0, s1, (sums (overF p q ks) (x, y)).1, (sums (overF p q ks) (x, y)).2]
    have hl3 : (fours [p, q, s0, s1, (sums (overF p q ks) (x, y)).1, (sums (overF p q ks) (x, y)).2]).length = 24 := hl2
    repeat' k_extra "g"
    exact out_ret (.keep (fun _ h => h) (.skip (.skip .refl))) (k _ _ _ _ (by unfold frameL; assumption))
end
theorem frame_p {v : Value} {S D : Addr} {ks : List Int} {p q s0 s1 x y : Int} {t t' : Tok} {K : Kt Value} {p0 p1 : List Res} (A : At w c sc 3) (hp0 : PickT D [x, y] p0 p1) (hp1 : PickT S [s0, s1] p1 n) (hf : c.any = false) (hv : IsB v ks) (hz : ks.length ≤ 80) (h0 : In32 [p, q, s0, s1]) (h1 : In32 [x, y]) (k : ∀ D' E v' τ, IsB v' (frameL p q s0 s1 x y ks) → K (.ref D') ⟨τ, m, ob D' (tupO [v', .ref E]) :: tupI E (sumsL (overF p q ks) x y) :: tupI D [x, y] :: tupI S [s0, s1] :: n⟩) : Go w c ⟨τ, m, p0⟩ (call (.ref 696) [.int p t, .int q t', .ref S, v, .ref D] []) K :=
  go_pickT hp0 <| go_pickT (pickT_tail <|  hp1) <| frame_g A hf hv hz h0 h1 k

end

-- g_headed.lean
section
noncomputable def headedL (ws : List Int) : List Int := fours ws ++ four (sums (fours ws) (0, 0)).1 ++ four (sums (fours ws) (0, 0)).2
theorem sums0 (ks : List Int) : 0 ≤ (sums ks (0, 0)).1 ∧ (sums ks (0, 0)).1 < 4294967296 ∧ 0 ≤ (sums ks (0, 0)).2 ∧ (sums ks (0, 0)).2 < 4294967296 := sums_range rfl (by decide) (by decide) (by decide) (by decide)
section
local macro_rules | `(tactic| k_extra "gn") => `(tactic| first | with_reducible exact (sums0 _).1 | with_reducible exact (sums0 _).2.1 | with_reducible exact (sums0 _).2.2.1 | with_reducible exact (sums0 _).2.2.2)
local macro_rules | `(tactic| k_extra "gz") => `(tactic| ((with_reducible show (sumsL _ _ _).length ≤ _); exact Nat.le_of_ble_eq_true rfl))
theorem headed_g {W : Addr} {ws : List Int} {K : Kt Value} (A : At w c sc 3) (hf : c.any = false) (hz : ws.length ≤ 20) (hn : ws.length ≠ 1) (h0 : In32 ws) (k : ∀ v τ, IsB v (headedL ws) → K v ⟨τ, m, tupI W ws :: n⟩) :
    Go w c ⟨τ, m, tupI W ws :: n⟩ (call (.ref 708) [.ref W] []) K := by
  refine go_openT fun vs hi => ?_
  have hvl := hi.length
  have hfl := fours_len ws
  have hfz : (fours ws).length ≤ 100 := by omega
  refine' go_defX c.any (.inr rfl) (mp := [(Str.ofString "words", _)]) (by with_reducible assumption) ?qho ?qhc ?qhb ?_ ?qhl ?qco ?qge ?qhk ?qce
  case qho => k_is
  case qhc => k_is
  case qhb => rfl
  case qhl => rfl
  case qco => rfl
  case qge => rfl
  case qhk => rfl
  case qce => rfl
  intro c' τ' A' hx' hf' ha'
  try rw [hf] at hf'
  repeat' k_extra "g"
  refine go_compT A' (fun c2 A2 => ?_) (by rfl) (by decide) (by rfl) (by decide) (by rfl) (fun _ => rfl)
  repeat' k_extra "g"
  refine comp_T (fun ys => BsAre ys ((ws.map four).take ys.length)) mem_head (by omega) .nil (fun i τ v r C ys hi' hv' hJ hl hr => ?_) fun D τ ys hJ hl => ?_
  · obtain ⟨z, t, rfl, hx⟩ := ints_get hi hv'
    obtain ⟨z0, z1⟩ := h0 z (List.mem_of_getElem? hx)
    repeat' k_extra "g"
    with_reducible refine' elt_of ?_ .head ?_
    · exact bs_take hJ (by assumption) (by rw [hl, List.getElem?_map, hx]; rfl)
    · k_extra "gs"
  · rw [hl, List.take_of_length_le (by rw [List.length_map]; omega)] at hJ
    repeat' k_extra "g"
    with_reducible refine' go_join ?_ mem_head hJ ?_ ?_ fun v τ hv2 => ?_
    · assumption
    · omega
    · exact Nat.le_trans hfz (Nat.le_of_ble_eq_true rfl)
    clear hfl hJ hl
    change IsB v (fours ws) at hv2
    repeat' k_extra "g"
    exact out_ret (.skip (.skip (.skip (.keep (fun l h => ⟨_, hi, h⟩) .refl)))) (k _ _ (by unfold headedL; assumption))
end
theorem headed_p {W : Addr} {ws : List Int} {K : Kt Value} {p0 : List Res} (A : At w c sc 3) (hp0 : PickT W ws p0 n) (hf : c.any = false) (hz : ws.length ≤ 20) (hn : ws.length ≠ 1) (h0 : In32 ws) (k : ∀ v τ, IsB v (headedL ws) → K v ⟨τ, m, tupI W ws :: n⟩) : Go w c ⟨τ, m, p0⟩ (call (.ref 708) [.ref W] []) K :=
  go_pickT hp0 <| headed_g A hf hz hn h0 k

end

-- g_head.lean
section
noncomputable def headL (number size s0 s1 : Int) : List Int := headedL [931071618, 3007000, size, number, s0, s1]
theorem head_g {S : Addr} {a b s0 s1 : Int} {t t' : Tok} {K : Kt Value} (A : At w c sc 4) (hf : c.any = false) (h0 : In32 [b, a, s0, s1]) (k : ∀ v τ, IsB v (headL a b s0 s1) → K v ⟨τ, m, tupI S [s0, s1] :: n⟩) :
    Go w c ⟨τ, m, tupI S [s0, s1] :: n⟩ (call (.ref 715) [.int a t, .ref S, .int b t'] []) K := by
  refine' go_defX c.any (.inr rfl) (mp := [(Str.ofString "size", _), (Str.ofString "salts", _), (Str.ofString "number", _)]) (by with_reducible assumption) ?qho ?qhc ?qhb ?_ ?qhl ?qco ?qge ?qhk ?qce
  case qho => k_is
  case qhc => k_is
  case qhb => rfl
  case qhl => rfl
  case qco => rfl
  case qge => rfl
  case qhk => rfl
  case qce => rfl
  intro c' τ' A' hx' hf' ha'
  try rw [hf] at hf'
  repeat' k_extra "g"
  (with_reducible refine' go_pick1o .head ?qi ?_)
  (case qi => k_extra "gi")
  (with_reducible refine' headed_g ?qA ?qhf ?qz ?qn ?q0 ?_)
  (case qA => k_extra "ga")
  (case qhf => with_reducible assumption)
  (case qz => exact Nat.le_of_ble_eq_true rfl)
  (case qn => exact fun e => nomatch e)
  case q0 =>
    intro q hq
    simp only [List.mem_cons, List.not_mem_nil, or_false] at hq
    rcases hq with rfl | rfl | hq
    · decide
    · decide
    · exact h0 q (by simp only [List.mem_cons, List.not_mem_nil, or_false]; exact hq)
  intro v τ hv
  exact out_ret (.skip .refl) (k _ _ hv)
theorem head_p {S : Addr} {a b s0 s1 : Int} {t t' : Tok} {K : Kt Value} {p0 : List Res} (A : At w c sc 4) (hp0 : PickT S [s0, s1] p0 n) (hf : c.any = false) (h0 : In32 [b, a, s0, s1]) (k : ∀ v τ, IsB v (headL a b s0 s1) → K v ⟨τ, m, tupI S [s0, s1] :: n⟩) : Go w c ⟨τ, m, p0⟩ (call (.ref 715) [.int a t, .ref S, .int b t'] []) K :=
  go_pickT hp0 <| head_g A hf h0 k

end

-- g_disk.lean
section
section
theorem lock_g {K : Kt Value} (A : At w c sc 3) (k : ∀ lk τ fs, K (.ref lk) ⟨τ, m, inst w lk 485 fs :: n⟩) : Go w c ⟨τ, m, n⟩ (call (.ref 485) [] []) K := by
  have ok485 : clsOk (Mine.hd.heap_39 w.params) 485 xsL = true := clsOk_mk (by k_is) (by k_is) (by k_is) (by k_is) (by (repeat (refine List.forall_mem_cons.mpr ⟨by k_is, ?_⟩)); exact List.forall_mem_nil _)
  refine' go_make c.any (.inr rfl) (mp := fun x => [(Str.ofString "self", .ref x)]) (by with_reducible assumption) ?qmk ?qhi ?qhf ?qho ?qhc ?qhb ?_ ?qhl ?qco ?qge ?qhk ?qce
  case qmk => k_is
  case qhi => k_is
  case qhf => k_is
  case qho => k_is
  case qhc => k_is
  case qhb => first | exact fun _ _ _ => BindsTo.of_eq rfl | exact fun _ _ X => binds_K X rfl (by k_is) rfl rfl rfl
  case qhl => intro _; rfl
  case qco => rfl
  case qge => rfl
  case qhk => rfl
  case qce => rfl
  intro c' τ' x A' hx' hf' ha'
  try rw [hf] at hf'
  repeat' k_extra "g"
  exact ⟨rfl, out_next (.keep (fun _ h => h) (.skip (.skip (.skip .refl)))) (k _ _ _)⟩
local macro_rules | `(tactic| k_extra "gc") => `(tactic| revert lock_g)
theorem disk_g {K : Kt Value} (A : At w c sc 6) (k : ∀ dk fs sh τ, K (.ref dk) ⟨τ, m, diskR w dk fs sh :: dct0 w sh :: dct0 w fs :: n⟩) : Go w c ⟨τ, m, n⟩ (call (.ref 633) [] []) K := by
  refine' go_make c.any (.inr rfl) (mp := fun x => [(Str.ofString "room", .none), (Str.ofString "sector", .int 8 957), (Str.ofString "self", .ref x)]) (by with_reducible assumption) ?qmk ?qhi ?qhf ?qho ?qhc ?qhb ?_ ?qhl ?qco ?qge ?qhk ?qce
  case qmk => k_is
  case qhi => k_is
  case qhf => k_is
  case qho => k_is
  case qhc => k_is
  case qhb => first | exact fun _ _ _ => BindsTo.of_eq rfl | exact fun _ _ X => binds_K X rfl (by k_is) rfl rfl rfl
  case qhl => intro _; rfl
  case qco => rfl
  case qge => rfl
  case qhk => rfl
  case qce => rfl
  intro c' τ' x A' hx' hf' ha'
  try rw [hf] at hf'
  repeat' k_extra "g"
  exact ⟨rfl, out_next (.keep (fun _ h => ⟨_, _, _, _, h⟩) (.skip .refl)) (k _ _ _ _)⟩
end

end

-- g_file.lean
section
section
local macro_rules | `(tactic| k_extra "gc") => `(tactic| revert go_newListV)
theorem file_g {dk : Addr} {nm : Value} {K : Kt Value} (A : At w c sc 3) (hf : c.any = false) (k : ∀ fl τ, K (.ref fl) ⟨τ, m, fileR w fl dk 0 [] :: n⟩) :
    Go w c ⟨τ, m, n⟩ (call (.ref 555) [.ref dk, nm] []) K := by
  refine' go_make c.any (.inr rfl) (mp := fun x => [(Str.ofString "name", nm), (Str.ofString "disk", .ref dk), (Str.ofString "self", .ref x)]) (by with_reducible assumption) ?qmk ?qhi ?qhf ?qho ?qhc ?qhb ?_ ?qhl ?qco ?qge ?qhk ?qce
  case qmk => k_is
  case qhi => k_is
  case qhf => k_is
  case qho => k_is
  case qhc => k_is
  case qhb => first | exact fun _ _ _ => BindsTo.of_eq rfl | exact fun _ _ X => binds_K X rfl (by k_is) rfl rfl rfl
  case qhl => intro _; rfl
  case qco => rfl
  case qge => rfl
  case qhk => rfl
  case qce => rfl
  intro c' τ' x A' hx' hf' ha'
  try rw [hf] at hf'
  repeat' k_extra "g"
  exact ⟨rfl, out_next (.fold (.cons .head (.cons (.tail .head) (.cons .head .nil))) (file_of rfl) .refl) (k _ _)⟩
end

end

-- g_index.lean
section
theorem index_g {K : Kt Value} (A : At w c sc 3) (k : ∀ ix fr pl cu su t1 t2 t3 τ, K (.ref ix) ⟨τ, m, inst w ix 174 (fsI fr pl cu 90 su (.int 0 t1) (.int 0 t2) (.int 0 t3) (.bool true) (.bool false)) :: n⟩) :
    Go w c ⟨τ, m, n⟩ (call (.ref 174) [] []) K := by
  refine' go_make c.any (.inr rfl) (mp := fun x => [(Str.ofString "self", .ref x)]) (by with_reducible assumption) ?qmk ?qhi ?qhf ?qho ?qhc ?qhb ?_ ?qhl ?qco ?qge ?qhk ?qce
  case qmk => k_is
  case qhi => k_is
  case qhf => k_is
  case qho => k_is
  case qhc => k_is
  case qhb => first | exact fun _ _ _ => BindsTo.of_eq rfl | exact fun _ _ X => binds_K X rfl (by k_is) rfl rfl rfl
  case qhl => intro _; rfl
  case qco => rfl
  case qge => rfl
  case qhk => rfl
  case qce => rfl
  intro c' τ' x A' hx' hf' ha'
  try rw [hf] at hf'
  repeat' k_extra "g"
  exact ⟨rfl, out_next (.keep (fun _ h => h) (.skip (.skip (.skip (.skip .refl))))) (k _ _ _ _ _ _ _ _ _)⟩

end

-- g_wal.lean
section
section
local macro_rules | `(tactic| k_extra "gc") => `(tactic| ((with_reducible refine' go_addS (z := Str.ofString "a-wal") ?qe ?qz ?_); (case qe => decide +kernel); (case qz => decide +kernel); intro _ _))
theorem walnew_g {dk : Addr} {size : Int} {t tn : Tok} {K : Kt Value} (A : At w c sc 3) (k : ∀ wl t1 t2 t3 τ, K (.ref wl) ⟨τ, m, inst w wl 350 (fsW dk (.str (Str.ofString "a") t1) (.int size t2) (.str (Str.ofString "a-wal") t3) .none .none) :: n⟩) :
    Go w c ⟨τ, m, n⟩ (call (.ref 350) [.ref dk, .str (Str.ofString "a") tn, .int size t] []) K := by
  refine' go_make c.any (.inr rfl) (mp := fun x => [(Str.ofString "page_size", .int size t), (Str.ofString "name", .str (Str.ofString "a") tn), (Str.ofString "disk", .ref dk), (Str.ofString "self", .ref x)]) (by with_reducible assumption) ?qmk ?qhi ?qhf ?qho ?qhc ?qhb ?_ ?qhl ?qco ?qge ?qhk ?qce
  case qmk => k_is
  case qhi => k_is
  case qhf => k_is
  case qho => k_is
  case qhc => k_is
  case qhb => first | exact fun _ _ _ => BindsTo.of_eq rfl | exact fun _ _ X => binds_K X rfl (by k_is) rfl rfl rfl
  case qhl => intro _; rfl
  case qco => rfl
  case qge => rfl
  case qhk => rfl
  case qce => rfl
  intro c' τ' x A' hx' hf' ha'
  try rw [hf] at hf'
  repeat' k_extra "g"
  exact ⟨rfl, out_next .refl (k _ _ _ _ _)⟩
end

end

-- g_dopen.lean
section
section
local macro_rules | `(tactic| k_extra "gc") => `(tactic| revert file_g)
theorem dopen_g {dk fs sh : Addr} {t : Tok} {K : Kt Value} (A : At w c sc 6) (hf : c.any = false) (k : ∀ fl τ, K (.ref fl) ⟨τ, m, fileR w fl dk 0 [] :: diskR w dk fs sh :: n⟩) :
    Go w c ⟨τ, m, diskR w dk fs sh :: dctS w fs [] :: n⟩ (call (.ref 609) [.ref dk, .str (Str.ofString "a-wal") t] []) K := by
  refine' go_defX c.any (.inr rfl) (mp := [(Str.ofString "name", _), (Str.ofString "self", _)]) (by with_reducible assumption) ?qho ?qhc ?qhb ?_ ?qhl ?qco ?qge ?qhk ?qce
  case qho => k_is
  case qhc => k_is
  case qhb => rfl
  case qhl => rfl
  case qco => rfl
  case qge => rfl
  case qhk => rfl
  case qce => rfl
  intro c' τ' A' hx' hf' ha'
  try rw [hf] at hf'
  refine go_diskR fun s1 st t' lk => ?_
  repeat' k_extra "g"
  exact out_ret (.skip (.keep (fun _ h => h) (.keep (fun _ h => ⟨_, _, _, _, h⟩) .refl))) (k _ _)
end
theorem dopen_p {dk fs sh : Addr} {t : Tok} {K : Kt Value} {p0 p1 : List Res} (A : At w c sc 6) (hp0 : Pick (dctS w fs []) p0 p1) (hp1 : Pick (diskR w dk fs sh) p1 n) (hf : c.any = false) (k : ∀ fl τ, K (.ref fl) ⟨τ, m, fileR w fl dk 0 [] :: diskR w dk fs sh :: n⟩) : Go w c ⟨τ, m, p0⟩ (call (.ref 609) [.ref dk, .str (Str.ofString "a-wal") t] []) K :=
  go_pick (hp0) <| go_pick (.tail (hp1)) <| dopen_g A hf k

end

-- g_fops.lean
section
theorem size_g {fl dk : Addr} {q : Nat} {ks : List Int} {K : Kt Value} (A : At w c sc 2) (hz : ks.length ≤ 16777216) (k : ∀ t τ, K (.int (ks.length : Nat) t) ⟨τ, m, fileR w fl dk q ks :: n⟩) :
    Go w c ⟨τ, m, fileR w fl dk q ks :: n⟩ (call (.ref 510) [.ref fl] []) K := by
  refine' go_defX c.any (.inr rfl) (mp := [(Str.ofString "self", _)]) (by with_reducible assumption) ?qho ?qhc ?qhb ?_ ?qhl ?qco ?qge ?qhk ?qce
  case qho => k_is
  case qhc => k_is
  case qhb => rfl
  case qhl => rfl
  case qco => rfl
  case qge => rfl
  case qhk => rfl
  case qce => rfl
  intro c' τ' A' hx' hf' ha'
  try rw [hf] at hf'
  refine go_fileR fun pn nw nm sy vs hv => ?_
  repeat' k_extra "g"
  exact out_ret (.fold (.cons .head (.cons .head (.cons .head .nil))) (file_of hv) .refl) (k _ _)
theorem read_g {fl dk : Addr} {q : Nat} {ks : List Int} {a b : Int} {t t' : Tok} {K : Kt Value} (A : At w c sc 2) (hz : ks.length ≤ 16777216) (k : ∀ v τ, IsB v (sl ks (some a) (some (a + b))) → K v ⟨τ, m, fileR w fl dk q ks :: n⟩) :
    Go w c ⟨τ, m, fileR w fl dk q ks :: n⟩ (call (.ref 517) [.ref fl, .int a t, .int b t'] []) K := by
  refine' go_defX c.any (.inr rfl) (mp := [(Str.ofString "size", _), (Str.ofString "at", _), (Str.ofString "self", _)]) (by with_reducible assumption) ?qho ?qhc ?qhb ?_ ?qhl ?qco ?qge ?qhk ?qce
  case qho => k_is
  case qhc => k_is
  case qhb => rfl
  case qhl => rfl
  case qco => rfl
  case qge => rfl
  case qhk => rfl
  case qce => rfl
  intro c' τ' A' hx' hf' ha'
  try rw [hf] at hf'
  refine go_fileR fun pn nw nm sy vs hv => ?_
  have hz2 : (sl ks (some a) (some (a + b))).length ≤ 16777216 := Nat.le_trans sl_len hz
  repeat' k_extra "g"
  exact out_ret (.skip (.fold (.cons .head (.cons .head (.cons .head .nil))) (file_of hv) .refl)) (k _ _ (by assumption))
theorem put_g {nw : Addr} {v : Value} {ks cs : List Int} {a : Int} {t : Tok} {K : Kt Value} (A : At w c sc 2) (hf : c.any = false) (hv : IsB v cs) (hz : ks.length ≤ 1000) (hz2 : cs.length ≤ 100) (h0 : 0 ≤ a) (h1 : a ≤ (ks.length : Int))
    (k : ∀ τ, K .none ⟨τ, m, baR nw (ks.take a.toNat ++ cs ++ ks.drop (a.toNat + cs.length)) :: n⟩) : Go w c ⟨τ, m, baR nw ks :: n⟩ (call (.ref 644) [.ref nw, .int a t, v] []) K := by
  refine' go_defX c.any (.inr rfl) (mp := [(Str.ofString "octets", _), (Str.ofString "at", _), (Str.ofString "target", _)]) (by with_reducible assumption) ?qho ?qhc ?qhb ?_ ?qhl ?qco ?qge ?qhk ?qce
  case qho => k_is
  case qhc => k_is
  case qhb => rfl
  case qhl => rfl
  case qco => rfl
  case qge => rfl
  case qhk => rfl
  case qce => rfl
  intro c' τ' A' hx' hf' ha'
  try rw [hf] at hf'
  repeat' k_extra "g"
  · exfalso; omega
  · exact out_next .refl (k _)
section
theorem crash_g {dk fs sh : Addr} {sc' st lk : Value} {K : Kt Value} (A : At w c sc 2) (hm : inst w dk 633 (fsD fs sh sc' st lk) ∈ n) (k : ∀ τ, K .none ⟨τ, m, n⟩) : Go w c ⟨τ, m, n⟩ (call (.ref 581) [.ref dk] []) K := by
  refine' go_defX c.any (.inr rfl) (mp := [(Str.ofString "self", _)]) (by with_reducible assumption) ?qho ?qhc ?qhb ?_ ?qhl ?qco ?qge ?qhk ?qce
  case qho => k_is
  case qhc => k_is
  case qhb => rfl
  case qhl => rfl
  case qco => rfl
  case qge => rfl
  case qhk => rfl
  case qce => rfl
  intro c' τ' A' hx' hf' ha'
  try rw [hf] at hf'
  repeat' k_extra "g"
  exact out_next .refl (k _)
theorem room_g {dk fs sh : Addr} {sc' st lk u v : Value} {K : Kt Value} (A : At w c sc 2) (hm : inst w dk 633 (fsD fs sh sc' st lk) ∈ n) (k : ∀ τ, K .none ⟨τ, m, n⟩) : Go w c ⟨τ, m, n⟩ (call (.ref 595) [.ref dk, u, v] []) K := by
  refine' go_defX c.any (.inr rfl) (mp := [(Str.ofString "size", _), (Str.ofString "file", _), (Str.ofString "self", _)]) (by with_reducible assumption) ?qho ?qhc ?qhb ?_ ?qhl ?qco ?qge ?qhk ?qce
  case qho => k_is
  case qhc => k_is
  case qhb => rfl
  case qhl => rfl
  case qco => rfl
  case qge => rfl
  case qhk => rfl
  case qce => rfl
  intro c' τ' A' hx' hf' ha'
  try rw [hf] at hf'
  repeat' k_extra "g"
  exact out_ret .refl (k _)
local macro_rules | `(tactic| k_extra "gc") => `(tactic| revert crash_g room_g)
theorem step_g {dk fs sh : Addr} {sc' lk : Value} {st : Int} {t : Tok} {K : Kt Value} (A : At w c sc 4) (k : ∀ t τ, K .none ⟨τ, m, inst w dk 633 (fsD fs sh sc' (.int (st + 1) t) lk) :: n⟩) : Go w c ⟨τ, m, inst w dk 633 (fsD fs sh sc' (.int st t) lk) :: n⟩ (call (.ref 588) [.ref dk] []) K := by
  refine' go_defX c.any (.inr rfl) (mp := [(Str.ofString "self", _)]) (by with_reducible assumption) ?qho ?qhc ?qhb ?_ ?qhl ?qco ?qge ?qhk ?qce
  case qho => k_is
  case qhc => k_is
  case qhb => rfl
  case qhl => rfl
  case qco => rfl
  case qge => rfl
  case qhk => rfl
  case qce => rfl
  intro c' τ' A' hx' hf' ha'
  try rw [hf] at hf'
  repeat' k_extra "g"
  exact out_next .refl (k _ _)
theorem step_p {dk fs sh : Addr} {sc' lk : Value} {st : Int} {t : Tok} {K : Kt Value} {p0 : List Res} (A : At w c sc 4) (hp0 : Pick (inst w dk 633 (fsD fs sh sc' (.int st t) lk)) p0 n) (k : ∀ t τ, K .none ⟨τ, m, inst w dk 633 (fsD fs sh sc' (.int (st + 1) t) lk) :: n⟩) : Go w c ⟨τ, m, p0⟩ (call (.ref 588) [.ref dk] []) K :=
  go_pick (hp0) <| step_g A k
theorem put_p {nw : Addr} {v : Value} {ks cs : List Int} {a : Int} {t : Tok} {K : Kt Value} {p0 : List Res} (A : At w c sc 2) (hp0 : Pick (baR nw ks) p0 n) (hf : c.any = false) (hv : IsB v cs) (hz : ks.length ≤ 1000) (hz2 : cs.length ≤ 100) (h0 : 0 ≤ a) (h1 : a ≤ (ks.length : Int)) (k : ∀ τ, K .none ⟨τ, m, baR nw (ks.take a.toNat ++ cs ++ ks.drop (a.toNat + cs.length)) :: n⟩) : Go w c ⟨τ, m, p0⟩ (call (.ref 644) [.ref nw, .int a t, v] []) K :=
  go_pick (hp0) <| put_g A hf hv hz hz2 h0 h1 k
local macro_rules | `(tactic| k_extra "gc") => `(tactic| revert step_p put_p)
theorem write_g {fl dk fs sh : Addr} {v : Value} {q : Nat} {ks cs : List Int} {a : Int} {t : Tok} {K : Kt Value} (A : At w c sc 6) (hf : c.any = false) (hv : IsB v cs) (hz : ks.length ≤ 1000) (hz2 : cs.length ≤ 100) (h0 : 0 ≤ a) (h1 : a ≤ (ks.length : Int)) (hq : q ≤ 100)
    (k : ∀ τ, K .none ⟨τ, m, fileR w fl dk (q + 1) (ks.take a.toNat ++ cs ++ ks.drop (a.toNat + cs.length)) :: diskR w dk fs sh :: n⟩) : Go w c ⟨τ, m, fileR w fl dk q ks :: diskR w dk fs sh :: n⟩ (call (.ref 524) [.ref fl, .int a t, v] []) K := by
  refine' go_defX c.any (.inr rfl) (mp := [(Str.ofString "octets", _), (Str.ofString "at", _), (Str.ofString "self", _)]) (by with_reducible assumption) ?qho ?qhc ?qhb ?_ ?qhl ?qco ?qge ?qhk ?qce
  case qho => k_is
  case qhc => k_is
  case qhb => rfl
  case qhl => rfl
  case qco => rfl
  case qge => rfl
  case qhk => rfl
  case qce => rfl
  intro c' τ' A' hx' hf' ha'
  try rw [hf] at hf'
  refine go_fileR fun pn nw nm sy vs hv' => go_pick (.tail (.tail (.tail .head))) (go_diskR fun s1 st t' lk => ?_)
  repeat' k_extra "g"
  exact out_next (.fold (.cons (.tail (.tail (.tail (.tail .head)))) (.cons (.tail .head) (.cons .head .nil))) (file_of (by rw [List.length_append, hv']; rfl)) (.keep (fun _ h => h) (.skip (.keep (fun _ h => ⟨_, _, _, _, h⟩) .refl)))) (k _)
end
theorem write_p {fl dk fs sh : Addr} {v : Value} {q : Nat} {ks cs : List Int} {a : Int} {t : Tok} {K : Kt Value} {p0 p1 : List Res} (A : At w c sc 6) (hp0 : Pick (diskR w dk fs sh) p0 p1) (hp1 : Pick (fileR w fl dk q ks) p1 n) (hf : c.any = false) (hv : IsB v cs) (hz : ks.length ≤ 1000) (hz2 : cs.length ≤ 100) (h0 : 0 ≤ a) (h1 : a ≤ (ks.length : Int)) (hq : q ≤ 100) (k : ∀ τ, K .none ⟨τ, m, fileR w fl dk (q + 1) (ks.take a.toNat ++ cs ++ ks.drop (a.toNat + cs.length)) :: diskR w dk fs sh :: n⟩) : Go w c ⟨τ, m, p0⟩ (call (.ref 524) [.ref fl, .int a t, v] []) K :=
  go_pick (hp0) <| go_pick (.tail (hp1)) <| write_g A hf hv hz hz2 h0 h1 hq k
theorem size_p {fl dk : Addr} {q : Nat} {ks : List Int} {K : Kt Value} {p0 : List Res} (A : At w c sc 2) (hp0 : Pick (fileR w fl dk q ks) p0 n) (hz : ks.length ≤ 16777216) (k : ∀ t τ, K (.int (ks.length : Nat) t) ⟨τ, m, fileR w fl dk q ks :: n⟩) : Go w c ⟨τ, m, p0⟩ (call (.ref 510) [.ref fl] []) K :=
  go_pick (hp0) <| size_g A hz k

end

-- g_small.lean
section
theorem fsize_g {wl dk fl ix : Addr} {size : Int} {K : Kt Value} (A : At w c sc 2) (hm : walR w wl dk fl ix size ∈ n) (k : ∀ t τ, K (.int (24 + size) t) ⟨τ, m, n⟩) : Go w c ⟨τ, m, n⟩ (call (.ref 199) [.ref wl] []) K := by
  refine' go_defX c.any (.inr rfl) (mp := [(Str.ofString "self", _)]) (by with_reducible assumption) ?qho ?qhc ?qhb ?_ ?qhl ?qco ?qge ?qhk ?qce
  case qho => k_is
  case qhc => k_is
  case qhb => rfl
  case qhl => rfl
  case qco => rfl
  case qge => rfl
  case qhk => rfl
  case qce => rfl
  intro c' τ' A' hx' hf' ha'
  try rw [hf] at hf'
  repeat' k_extra "g"
  exact out_ret .refl (k _ _)
section
local macro_rules | `(tactic| k_extra "gc") => `(tactic| revert fsize_g)
theorem frameat_g {wl dk fl ix : Addr} {size k' : Int} {t : Tok} {K : Kt Value} (A : At w c sc 4) (hm : walR w wl dk fl ix size ∈ n) (g0 : 0 ≤ size) (g1 : size ≤ 41) (g2 : 0 ≤ k') (g3 : k' ≤ 100) (k : ∀ t τ, K (.int (32 + (k' - 1) * (24 + size)) t) ⟨τ, m, n⟩) : Go w c ⟨τ, m, n⟩ (call (.ref 206) [.ref wl, .int k' t] []) K := by
  refine' go_defX c.any (.inr rfl) (mp := [(Str.ofString "number", _), (Str.ofString "self", _)]) (by with_reducible assumption) ?qho ?qhc ?qhb ?_ ?qhl ?qco ?qge ?qhk ?qce
  case qho => k_is
  case qhc => k_is
  case qhb => rfl
  case qhl => rfl
  case qco => rfl
  case qge => rfl
  case qhk => rfl
  case qce => rfl
  intro c' τ' A' hx' hf' ha'
  try rw [hf] at hf'
  repeat' k_extra "g"
  exact out_ret .refl (k _ _)
local macro_rules | `(tactic| k_extra "gc") => `(tactic| revert frameat_g)
theorem eol_g {wl dk fl ix : Addr} {size : Int} {I : Ix} {K : Kt Value} (A : At w c sc 6) (g0 : 0 ≤ size) (g1 : size ≤ 41) (g2 : 0 ≤ I.last) (g3 : I.last ≤ 20) (k : ∀ t τ, K (.int (32 + (I.last + 1 - 1) * (24 + size)) t) ⟨τ, m, walR w wl dk fl ix size :: ixR w ix I :: n⟩) : Go w c ⟨τ, m, walR w wl dk fl ix size :: ixR w ix I :: n⟩ (call (.ref 213) [.ref wl] []) K := by
  refine' go_defX c.any (.inr rfl) (mp := [(Str.ofString "self", _)]) (by with_reducible assumption) ?qho ?qhc ?qhb ?_ ?qhl ?qco ?qge ?qhk ?qce
  case qho => k_is
  case qhc => k_is
  case qhb => rfl
  case qhl => rfl
  case qco => rfl
  case qge => rfl
  case qhk => rfl
  case qce => rfl
  intro c' τ' A' hx' hf' ha'
  try rw [hf] at hf'
  repeat' k_extra "g"
  exact out_ret .refl (k _ _)
end
theorem eol_p {wl dk fl ix : Addr} {size : Int} {I : Ix} {K : Kt Value} {p0 p1 : List Res} (A : At w c sc 6) (hp0 : Pick (ixR w ix I) p0 p1) (hp1 : Pick (walR w wl dk fl ix size) p1 n) (g0 : 0 ≤ size) (g1 : size ≤ 41) (g2 : 0 ≤ I.last) (g3 : I.last ≤ 20) (k : ∀ t τ, K (.int (32 + (I.last + 1 - 1) * (24 + size)) t) ⟨τ, m, walR w wl dk fl ix size :: ixR w ix I :: n⟩) : Go w c ⟨τ, m, p0⟩ (call (.ref 213) [.ref wl] []) K :=
  go_pick (hp0) <| go_pick (.tail (hp1)) <| eol_g A g0 g1 g2 g3 k

end

-- g_octets.lean
section
theorem sumsL_len {ks : List Int} {x y : Int} : (sumsL ks x y).length = 2 := rfl
theorem prR_some {D : Addr} {p : Int × Int} : prR D (some p) = tupI D [p.1, p.2] := rfl
theorem puts_fours {ks : List Int} (h : In32 ks) : puts ks = fours ks := by
  unfold puts fours
  congr 1
  refine List.map_congr_left fun k hk => ?_
  have := h k hk
  rw [Int.fmod_eq_emod_of_nonneg _ (by decide), Int.emod_eq_of_lt this.1 this.2]
theorem fours_app (a b : List Int) : fours (a ++ b) = fours a ++ fours b := by
  unfold fours
  rw [List.map_append, List.flatten_append]
theorem in32_2 {a b : Int} (h0 : 0 ≤ a) (h1 : a < 4294967296) (h2 : 0 ≤ b) (h3 : b < 4294967296) : In32 [a, b] := fun q hq => by
  simp only [List.mem_cons, List.not_mem_nil, or_false] at hq
  rcases hq with rfl | rfl
  · exact ⟨h0, h1⟩
  · exact ⟨h2, h3⟩
theorem in32_app {a b : List Int} (h1 : In32 a) (h2 : In32 b) : In32 (a ++ b) := fun q hq => by
  rcases List.mem_append.mp hq with h | h
  · exact h1 q h
  · exact h2 q h
theorem over_eq {p q : Int} {ks : List Int} (h : In32 [p, q]) : puts [p, q] ++ ks = overF p q ks := by
  rw [puts_fours h]
  unfold overF fours
  simp
theorem frame_eq {p q s0 s1 x y : Int} {ks : List Int} (h0 : In32 [p, q, s0, s1]) (h1 : In32 [x, y]) : puts [p, q] ++ puts [s0, s1, (sums (overF p q ks) (x, y)).1, (sums (overF p q ks) (x, y)).2] ++ ks = frameL p q s0 s1 x y ks := by
  have a : In32 [p, q] := fun z hz => h0 z (by simp at hz ⊢; rcases hz with rfl | rfl <;> simp)
  have b : In32 [s0, s1] := fun z hz => h0 z (by simp at hz ⊢; rcases hz with rfl | rfl <;> simp)
  have c : In32 [(sums (overF p q ks) (x, y)).1, (sums (overF p q ks) (x, y)).2] := in32_sums h1
  have e := puts_fours (in32_app b c)
  rw [puts_fours a, show ([s0, s1, (sums (overF p q ks) (x, y)).1, (sums (overF p q ks) (x, y)).2] : List Int) = [s0, s1] ++ [(sums (overF p q ks) (x, y)).1, (sums (overF p q ks) (x, y)).2] from rfl, e, ← fours_app]
  rfl
section
local macro_rules | `(tactic| k_extra "gz") => `(tactic| first | ((with_reducible show (sumsL _ _ _).length ≤ _); exact Nat.le_of_ble_eq_true rfl) | ((simp only [List.length_append, puts_len, sumsL_len, List.length_cons, List.length_nil]); omega))
local macro_rules | `(tactic| k_extra "gc") => `(tactic| revert putsL_p check_p)
theorem foctets_g {wl dk fl ix D : Addr} {size p q s0 s1 x y : Int} {I : Ix} {ks : List Int} {v : Value} {t t' : Tok} {K : Kt Value} (A : At w c sc 4) (hv : IsB v ks) (hz : ks.length ≤ 80) (hs : I.salts = some (s0, s1)) (h0 : In32 [p, q, s0, s1]) (h1 : In32 [x, y])
    (k : ∀ D' E v' τ, IsB v' (frameL p q s0 s1 x y ks) → K (.ref D') ⟨τ, m, ixR w ix I :: ob D' (tupO [v', .ref E]) :: tupI E (sumsL (overF p q ks) x y) :: tupI D [x, y] :: walR w wl dk fl ix size :: n⟩) :
    Go w c ⟨τ, m, tupI D [x, y] :: walR w wl dk fl ix size :: ixR w ix I :: n⟩ (call (.ref 311) [.ref wl, .int p t, v, .int q t', .ref D] []) K := by
  refine' go_defX c.any (.inr rfl) (mp := [(Str.ofString "sums", _), (Str.ofString "count", _), (Str.ofString "octets", _), (Str.ofString "page", _), (Str.ofString "self", _)]) (by with_reducible assumption) ?qho ?qhc ?qhb ?_ ?qhl ?qco ?qge ?qhk ?qce
  case qho => k_is
  case qhc => k_is
  case qhb => rfl
  case qhl => rfl
  case qco => rfl
  case qge => rfl
  case qhk => rfl
  case qce => rfl
  intro c' τ' A' hx' hf' ha'
  try rw [hf] at hf'
  obtain ⟨nf, la, nu, sl, su'⟩ := I
  have hs : sl = some (s0, s1) := hs
  subst hs
  refine go_pick (.tail (.tail .head)) (go_ixR fun fr pl cu sa su t1 t2 v1 v2 v3 vs kvs hvs hkv => ?_)
  rw [prR_some]
  dsimp only
  repeat' k_extra "g"
  have hpq : In32 [p, q] := fun z hz => h0 z (by simp at hz ⊢; rcases hz with rfl | rfl <;> simp)
  rw [over_eq hpq]
  have hb : ∀ v, IsB v (puts [p, q] ++ puts [s0, s1, (sums (puts [p, q] ++ ks) (x, y)).1, (sums (puts [p, q] ++ ks) (x, y)).2] ++ ks) → IsB v (frameL p q s0 s1 x y ks) := fun v h => by rw [over_eq (ks := ks) hpq, frame_eq h0 h1] at h; exact h
  exact out_ret (.fold (pick6 (.tail (.tail (.tail .head))) (.tail (.tail (.tail .head))) (.tail (.tail (.tail .head))) (.tail (.tail (.tail .head))) (.tail (.tail (.tail .head))) (.tail (.tail (.tail .head)))) (ix_of (I := ⟨nf, la, nu, some (s0, s1), su'⟩) hvs hkv) .refl) (k _ _ _ _ (hb _ (by assumption)))
/-- a log's head as it tells it -/
theorem head_eq {a b s0 s1 : Int} (h : In32 [b, a, s0, s1]) : puts [931071618, 3007000, a, b, s0, s1] ++ puts [(sums (puts [931071618, 3007000, a, b, s0, s1]) (0, 0)).1, (sums (puts [931071618, 3007000, a, b, s0, s1]) (0, 0)).2] = headL b a s0 s1 := by
  have h6 : In32 [931071618, 3007000, a, b, s0, s1] := fun z hz => by
    simp only [List.mem_cons, List.not_mem_nil, or_false] at hz
    rcases hz with rfl | rfl | rfl | rfl | rfl | rfl
    · decide
    · decide
    · exact h _ (.tail _ (.head _))
    · exact h _ (.head _)
    · exact h _ (.tail _ (.tail _ (.head _)))
    · exact h _ (.tail _ (.tail _ (.tail _ (.head _))))
  have s := sums0 (fours [931071618, 3007000, a, b, s0, s1])
  have e2 : puts [(sums (fours [931071618, 3007000, a, b, s0, s1]) (0, 0)).1, (sums (fours [931071618, 3007000, a, b, s0, s1]) (0, 0)).2] = fours [(sums (fours [931071618, 3007000, a, b, s0, s1]) (0, 0)).1, (sums (fours [931071618, 3007000, a, b, s0, s1]) (0, 0)).2] := puts_fours (in32_2 s.1 s.2.1 s.2.2.1 s.2.2.2)
  rw [puts_fours h6, e2]
  show fours [931071618, 3007000, a, b, s0, s1] ++ (four _ ++ (four _ ++ [])) = fours [931071618, 3007000, a, b, s0, s1] ++ four _ ++ four _
  rw [List.append_nil, List.append_assoc]
local macro_rules | `(tactic| k_extra "gc") => `(tactic| revert putsL_p putsT_p check_p)
theorem hoctets_g {wl dk fl ix : Addr} {size s0 s1 : Int} {I : Ix} {K : Kt Value} (A : At w c sc 4) (hs : I.salts = some (s0, s1)) (h0 : In32 [I.number, size, s0, s1])
    (k : ∀ v τ, IsB v (headL I.number size s0 s1) → K v ⟨τ, m, ixR w ix I :: walR w wl dk fl ix size :: n⟩) :
    Go w c ⟨τ, m, walR w wl dk fl ix size :: ixR w ix I :: n⟩ (call (.ref 227) [.ref wl] []) K := by
  refine' go_defX c.any (.inr rfl) (mp := [(Str.ofString "self", _)]) (by with_reducible assumption) ?qho ?qhc ?qhb ?_ ?qhl ?qco ?qge ?qhk ?qce
  case qho => k_is
  case qhc => k_is
  case qhb => rfl
  case qhl => rfl
  case qco => rfl
  case qge => rfl
  case qhk => rfl
  case qce => rfl
  intro c' τ' A' hx' hf' ha'
  try rw [hf] at hf'
  obtain ⟨nf, la, nu, sl, su'⟩ := I
  have hs : sl = some (s0, s1) := hs
  subst hs
  dsimp only at h0 k
  refine go_pick (.tail .head) (go_ixR fun fr pl cu sa su t1 t2 v1 v2 v3 vs kvs hvs hkv => ?_)
  rw [prR_some]
  dsimp only
  repeat' k_extra "g"
  have hb : ∀ v, IsB v (puts [931071618, 3007000, size, nu, s0, s1] ++ puts (sumsL (puts [931071618, 3007000, size, nu, s0, s1]) 0 0)) → IsB v (headL nu size s0 s1) := fun v h => by rw [← head_eq h0]; exact h
  exact out_ret (.skip (.skip (.fold (pick6 .head .head .head .head .head .head) (ix_of (I := ⟨nf, la, nu, some (s0, s1), su'⟩) hvs hkv) .refl))) (k _ _ (hb _ (by assumption)))
end
theorem foctets_p {wl dk fl ix D : Addr} {size p q s0 s1 x y : Int} {I : Ix} {ks : List Int} {v : Value} {t t' : Tok} {K : Kt Value} {p0 p1 p2 : List Res} (A : At w c sc 4) (hp0 : Pick (ixR w ix I) p0 p1) (hp1 : Pick (walR w wl dk fl ix size) p1 p2) (hp2 : PickT D [x, y] p2 n) (hv : IsB v ks) (hz : ks.length ≤ 80) (hs : I.salts = some (s0, s1)) (h0 : In32 [p, q, s0, s1]) (h1 : In32 [x, y]) (k : ∀ D' E v' τ, IsB v' (frameL p q s0 s1 x y ks) → K (.ref D') ⟨τ, m, ixR w ix I :: ob D' (tupO [v', .ref E]) :: tupI E (sumsL (overF p q ks) x y) :: tupI D [x, y] :: walR w wl dk fl ix size :: n⟩) : Go w c ⟨τ, m, p0⟩ (call (.ref 311) [.ref wl, .int p t, v, .int q t', .ref D] []) K :=
  go_pick (hp0) <| go_pick (.tail (hp1)) <| go_pickT (pickT_tail <| pickT_tail <|  hp2) <| foctets_g A hv hz hs h0 h1 k
theorem hoctets_p {wl dk fl ix : Addr} {size s0 s1 : Int} {I : Ix} {K : Kt Value} {p0 p1 : List Res} (A : At w c sc 4) (hp0 : Pick (ixR w ix I) p0 p1) (hp1 : Pick (walR w wl dk fl ix size) p1 n) (hs : I.salts = some (s0, s1)) (h0 : In32 [I.number, size, s0, s1]) (k : ∀ v τ, IsB v (headL I.number size s0 s1) → K v ⟨τ, m, ixR w ix I :: walR w wl dk fl ix size :: n⟩) : Go w c ⟨τ, m, p0⟩ (call (.ref 227) [.ref wl] []) K :=
  go_pick (hp0) <| go_pick (.tail (hp1)) <| hoctets_g A hs h0 k

end

-- g_told.lean
section
/-- what is told of a frame, with what it owns -/
noncomputable def toldR (v : Value) (r : Option (Int × Int × Int × Int)) : Res := fun l => match r with
  | none => v = .none ∧ l = []
  | some z => ∃ D E t1 t2, v = .ref D ∧ Holds [ob D (tupO [.int z.1 t1, .int z.2.1 t2, .ref E]), tupI E [z.2.2.1, z.2.2.2]] l
theorem told_none {r : Option (Int × Int × Int × Int)} (h : r = none) : ∀ l, Holds [] l → toldR .none r l := by
  subst h
  rintro l rfl
  exact ⟨rfl, rfl⟩
theorem told_some {r : Option (Int × Int × Int × Int)} {D E : Addr} {t1 t2 : Tok} {a b o t : Int} (h : r = some (a, b, o, t)) : ∀ l, Holds [ob D (tupO [.int a t1, .int b t2, .ref E]), tupI E [o, t]] l → toldR (.ref D) r l := by
  subst h
  intro l hl
  exact ⟨D, E, t1, t2, rfl, hl⟩
section
variable {ks z : List Int} {size s1 s2 x y : Int}
theorem told_d2 (h : ¬ (ks.length : Int) < 24 + size) (hz : z = ks.take 8 ++ (ks.drop 24).take size.toNat) (h2 : (wd ks 4 == (sums z (x, y)).1 && wd ks 5 == (sums z (x, y)).2) = false) : toldIs ks size s1 s2 x y = none := by
  subst hz
  unfold toldIs
  rw [if_neg h, h2]
  split
  · rfl
  · split <;> rfl
theorem told_c2 (h : ¬ (ks.length : Int) < 24 + size) (hz : z = ks.take 8 ++ (ks.drop 24).take size.toNat) (h0 : wd ks 0 ≠ 0) (h1 : (wd ks 2 == s1 && wd ks 3 == s2) = true) (h2 : (wd ks 4 == (sums z (x, y)).1 && wd ks 5 == (sums z (x, y)).2) = true) : toldIs ks size s1 s2 x y = some (wd ks 0, wd ks 1, (sums z (x, y)).1, (sums z (x, y)).2) := by
  subst hz
  unfold toldIs
  rw [if_neg h, if_neg h0, if_pos h1, if_pos h2]
end
theorem words_24 {ks : List Int} (h : 24 ≤ ks.length) : words (ks.take 24) = [wd ks 0, wd ks 1, wd ks 2, wd ks 3, wd ks 4, wd ks 5] := by
  have hl : (ks.take 24).length = 24 := by rw [List.length_take]; omega
  unfold words
  rw [pad8_of0 (by rw [hl]; decide), hl]
  show [wd (ks.take 24) 0, wd (ks.take 24) 1, wd (ks.take 24) 2, wd (ks.take 24) 3, wd (ks.take 24) 4, wd (ks.take 24) 5] = _
  rw [wd_take (by decide), wd_take (by decide), wd_take (by decide), wd_take (by decide), wd_take (by decide), wd_take (by decide)]
theorem data_sums {D : Addr} {ks : List Int} {x y : Int} (hm : tupI D (sumsL ks x y) ∈ n) : Data n (.ref D) (.tuple [.int (sums ks (x, y)).1, .int (sums ks (x, y)).2]) := data_tupI hm
theorem swap2 {a b : Res} {n n' : List Res} (h : Less n' (b :: a :: n)) : Less n' (a :: b :: n) := .fold (.cons (.tail .head) .nil) (fun l ⟨_, _, e, h, hn⟩ => by subst hn; rw [e, List.append_nil]; exact h) h
theorem of_nt {b : Bool} (h : (!b) = true) : b = false := by simpa using h
theorem of_nf {b : Bool} (h : (!b) = false) : b = true := by simpa using h
section
theorem told_g {S D : Addr} {v : Value} {ks : List Int} {size s0 s1 x y : Int} {t : Tok} {K : Kt Value} (A : At w c sc 3) (hf : c.any = false) (hv : IsB v ks) (hz : ks.length ≤ 80) (g0 : 1 ≤ size) (g1 : size ≤ 41)
    (k : ∀ v τ, K v ⟨τ, m, toldR v (toldIs ks size s0 s1 x y) :: tupI D [x, y] :: tupI S [s0, s1] :: n⟩) : Go w c ⟨τ, m, tupI S [s0, s1] :: tupI D [x, y] :: n⟩ (call (.ref 703) [v, .int size t, .ref S, .ref D] []) K := by
  refine' go_defX c.any (.inr rfl) (mp := [(Str.ofString "sums", _), (Str.ofString "salts", _), (Str.ofString "size", _), (Str.ofString "octets", _)]) (by with_reducible assumption) ?qho ?qhc ?qhb ?_ ?qhl ?qco ?qge ?qhk ?qce
  case qho => k_is
  case qhc => k_is
  case qhb => rfl
  case qhl => rfl
  case qco => rfl
  case qge => rfl
  case qhk => rfl
  case qce => rfl
  intro c' τ' A' hx' hf' ha'
  try rw [hf] at hf'
  repeat' k_extra "g"
  · exact out_ret (.fold .nil (told_none (told_a (by assumption))) (.keep (fun _ h => h) (swap2 .refl))) (k _ _)
  have hlt : ¬ (ks.length : Int) < 24 + size := by assumption
  rw [show Int.toNat 24 = 24 from rfl, words_24 (by omega)]
  generalize hZ : List.take (Int.toNat 8) ks ++ List.take (24 + size - 24).toNat (List.drop 24 ks) = Z
  have hZ' : Z = ks.take 8 ++ (ks.drop 24).take size.toNat := by rw [← hZ, show 24 + size - 24 = size by omega]; rfl
  repeat' k_extra "g"
  · exact out_ret (.skip (.fold .nil (told_none (told_b hlt (by assumption))) (.keep (fun _ h => h) (.keep (fun _ h => h) (.skip .refl))))) (k _ _)
  · exact out_ret (.skip (.skip (.fold .nil (told_none (told_e hlt (of_nt (by assumption)))) (.keep (fun _ h => h) (.keep (fun _ h => h) (.skip .refl)))))) (k _ _)
  · exact out_ret (.skip (.skip (.skip (.fold .nil (told_none (told_d2 hlt hZ' (of_nt (by assumption)))) (.keep (fun _ h => h) (.keep (fun _ h => h) (.skip .refl))))))) (k _ _)
  · exact out_ret (.fold (.cons .head (.cons (.tail (.tail .head)) .nil)) (told_some (told_c2 hlt hZ' (by assumption) (of_nf (by assumption)) (of_nf (by assumption)))) (.keep (fun _ h => h) (.skip (.skip (.keep (fun _ h => h) (.skip .refl)))))) (k _ _)
end
theorem told_p {S D : Addr} {v : Value} {ks : List Int} {size s0 s1 x y : Int} {t : Tok} {K : Kt Value} {p0 p1 : List Res} (A : At w c sc 3) (hp0 : PickT D [x, y] p0 p1) (hp1 : PickT S [s0, s1] p1 n) (hf : c.any = false) (hv : IsB v ks) (hz : ks.length ≤ 80) (g0 : 1 ≤ size) (g1 : size ≤ 41) (k : ∀ v τ, K v ⟨τ, m, toldR v (toldIs ks size s0 s1 x y) :: tupI D [x, y] :: tupI S [s0, s1] :: n⟩) : Go w c ⟨τ, m, p0⟩ (call (.ref 703) [v, .int size t, .ref S, .ref D] []) K :=
  go_pickT hp0 <| go_pickT (pickT_tail <|  hp1) <| told_g A hf hv hz g0 g1 k

end

-- g_rframe.lean
section
theorem readc_g {fl dk : Addr} {q : Nat} {ks cs : List Int} {a b : Int} {t t' : Tok} {K : Kt Value} (A : At w c sc 2) (hz : ks.length ≤ 1000) (hc : sl ks (some a) (some (a + b)) = cs) (k : ∀ v τ, IsB v cs → K v ⟨τ, m, fileR w fl dk q ks :: n⟩) :
    Go w c ⟨τ, m, fileR w fl dk q ks :: n⟩ (call (.ref 517) [.ref fl, .int a t, .int b t'] []) K := by
  subst hc
  exact read_g A (by omega) k
section
theorem readc_p {fl dk : Addr} {q : Nat} {ks cs : List Int} {a b : Int} {t t' : Tok} {K : Kt Value} {p0 : List Res} (A : At w c sc 2) (hp0 : Pick (fileR w fl dk q ks) p0 n) (hz : ks.length ≤ 1000) (hc : sl ks (some a) (some (a + b)) = cs) (k : ∀ v τ, IsB v cs → K v ⟨τ, m, fileR w fl dk q ks :: n⟩) : Go w c ⟨τ, m, p0⟩ (call (.ref 517) [.ref fl, .int a t, .int b t'] []) K :=
  go_pick (hp0) <| readc_g A hz hc k
local macro_rules | `(tactic| k_extra "gc") => `(tactic| revert fsize_g frameat_g readc_p check_p)
local macro_rules | `(tactic| k_extra "gc") => `(tactic| ((with_reducible show Go _ _ _ (call (Value.ref 101) _ _) _); apply (gets_g (N := 6)); k_extra "t"))
theorem rframe_g {wl dk fl ix D : Addr} {q : Nat} {size number s0 s1 x y : Int} {I : Ix} {ks cs : List Int} {t : Tok} {K : Kt Value} (A : At w c sc 6) (hz : ks.length ≤ 1000) (g0 : 1 ≤ size) (g1 : size ≤ 41) (g2 : 0 ≤ number) (g3 : number ≤ 100) (hs : I.salts = some (s0, s1))
    (hc : sl ks (some (32 + (number - 1) * (24 + size))) (some (32 + (number - 1) * (24 + size) + (24 + size))) = cs) (hcl : (cs.length : Int) ≤ 24 + size)
    (k : ∀ v τ, K v ⟨τ, m, toldR v (toldIs cs size s0 s1 x y) :: ixR w ix I :: tupI D [x, y] :: fileR w fl dk q ks :: walR w wl dk fl ix size :: n⟩) :
    Go w c ⟨τ, m, tupI D [x, y] :: walR w wl dk fl ix size :: ixR w ix I :: fileR w fl dk q ks :: n⟩ (call (.ref 241) [.ref wl, .int number t, .ref D] []) K := by
  refine' go_defX c.any (.inr rfl) (mp := [(Str.ofString "sums", _), (Str.ofString "number", _), (Str.ofString "self", _)]) (by with_reducible assumption) ?qho ?qhc ?qhb ?_ ?qhl ?qco ?qge ?qhk ?qce
  case qho => k_is
  case qhc => k_is
  case qhb => rfl
  case qhl => rfl
  case qco => rfl
  case qge => rfl
  case qhk => rfl
  case qce => rfl
  intro c' τ' A' hx' hf' ha'
  try rw [hf] at hf'
  obtain ⟨nf, la, nu, sl, su'⟩ := I
  have hs : sl = some (s0, s1) := hs
  subst hs
  refine go_pick (.tail (.tail .head)) (go_ixR fun fr pl cu sa su t1 t2 v1 v2 v3 vs kvs hvs hkv => ?_)
  rw [prR_some]
  dsimp only
  repeat' k_extra "g"
  · exact out_ret (less_fold .nil (told_none (told_a (by assumption))) (less_fold (pick6 (.tail .head) (.tail .head) (.tail .head) (.tail .head) (.tail .head) (.tail .head)) (ix_of (I := ⟨nf, la, nu, some (s0, s1), su'⟩) hvs hkv) (by k_extra "gl"))) (k _ _)
  all_goals (have hlt : ¬ (cs.length : Int) < 24 + size := by assumption)
  · exact out_ret (less_fold .nil (told_none (told_b hlt (by assumption))) (less_fold (pick6 (.tail (.tail .head)) (.tail (.tail .head)) (.tail (.tail .head)) (.tail (.tail .head)) (.tail (.tail .head)) (.tail (.tail .head))) (ix_of (I := ⟨nf, la, nu, some (s0, s1), su'⟩) hvs hkv) (by k_extra "gl"))) (k _ _)
  · exact out_ret (less_fold .nil (told_none (told_e hlt (of_nt (by assumption)))) (less_fold (pick6 (.tail (.tail (.tail .head))) (.tail (.tail (.tail .head))) (.tail (.tail (.tail .head))) (.tail (.tail (.tail .head))) (.tail (.tail (.tail .head))) (.tail (.tail (.tail .head)))) (ix_of (I := ⟨nf, la, nu, some (s0, s1), su'⟩) hvs hkv) (by k_extra "gl"))) (k _ _)
  all_goals (have hZ : List.take (Int.toNat 8) cs ++ List.drop (Int.toNat 24) cs = cs.take 8 ++ (cs.drop 24).take size.toNat := by rw [List.take_of_length_le (i := size.toNat) (by rw [List.length_drop]; omega)]; rfl)
  · exact out_ret (less_fold .nil (told_none (told_d2 hlt hZ (of_nt (by assumption)))) (less_fold (pick6 (.tail (.tail (.tail (.tail (.tail (.tail .head)))))) (.tail (.tail (.tail (.tail (.tail (.tail .head)))))) (.tail (.tail (.tail (.tail (.tail (.tail .head)))))) (.tail (.tail (.tail (.tail (.tail (.tail .head)))))) (.tail (.tail (.tail (.tail (.tail (.tail .head)))))) (.tail (.tail (.tail (.tail (.tail (.tail .head))))))) (ix_of (I := ⟨nf, la, nu, some (s0, s1), su'⟩) hvs hkv) (by k_extra "gl"))) (k _ _)
  · exact out_ret (less_fold (.cons .head (.cons (.tail .head) .nil)) (told_some (told_c2 hlt hZ (by assumption) (of_nf (by assumption)) (of_nf (by assumption)))) (less_fold (pick6 (.tail (.tail (.tail (.tail (.tail .head))))) (.tail (.tail (.tail (.tail (.tail .head))))) (.tail (.tail (.tail (.tail (.tail .head))))) (.tail (.tail (.tail (.tail (.tail .head))))) (.tail (.tail (.tail (.tail (.tail .head))))) (.tail (.tail (.tail (.tail (.tail .head)))))) (ix_of (I := ⟨nf, la, nu, some (s0, s1), su'⟩) hvs hkv) (by k_extra "gl"))) (k _ _)
end
theorem rframe_p {wl dk fl ix D : Addr} {q : Nat} {size number s0 s1 x y : Int} {I : Ix} {ks cs : List Int} {t : Tok} {K : Kt Value} {p0 p1 p2 p3 : List Res} (A : At w c sc 6) (hp0 : Pick (fileR w fl dk q ks) p0 p1) (hp1 : Pick (ixR w ix I) p1 p2) (hp2 : Pick (walR w wl dk fl ix size) p2 p3) (hp3 : PickT D [x, y] p3 n) (hz : ks.length ≤ 1000) (g0 : 1 ≤ size) (g1 : size ≤ 41) (g2 : 0 ≤ number) (g3 : number ≤ 100) (hs : I.salts = some (s0, s1)) (hc : sl ks (some (32 + (number - 1) * (24 + size))) (some (32 + (number - 1) * (24 + size) + (24 + size))) = cs) (hcl : (cs.length : Int) ≤ 24 + size) (k : ∀ v τ, K v ⟨τ, m, toldR v (toldIs cs size s0 s1 x y) :: ixR w ix I :: tupI D [x, y] :: fileR w fl dk q ks :: walR w wl dk fl ix size :: n⟩) : Go w c ⟨τ, m, p0⟩ (call (.ref 241) [.ref wl, .int number t, .ref D] []) K :=
  go_pick (hp0) <| go_pick (.tail (hp1)) <| go_pick (.tail (.tail (hp2))) <| go_pickT (pickT_tail <| pickT_tail <| pickT_tail <|  hp3) <| rframe_g A hz g0 g1 g2 g3 hs hc hcl k

end

-- g_page.lean
section
section
local macro_rules | `(tactic| k_extra "gc") => `(tactic| revert go_swap2C asg2C)
theorem page_g {r : Addr} {size : Int} {t : Tok} {K : Kt Value} (A : At w c sc 3) (g0 : 0 ≤ size) (g1 : size ≤ 100) (k : ∀ v ks τ, IsB v ks → (ks.length : Int) = size → K v ⟨τ, m, Src r :: n⟩) : Go w c ⟨τ, m, Src r :: n⟩ (call (.ref 727) [.ref r, .int size t] []) K := by
  refine' go_defC (mp := [(Str.ofString "size", .int size t), (Str.ofString "source", .ref r)]) (cs := fun L => [(Str.ofString "step", L + 2), (Str.ofString "first", L + 1)]) (rs := fun L => [cellR (L + 2) none, cellR (L + 1) none]) (by with_reducible assumption) ?qho ?qhc ?qhb ?_ ?qcs ?qrs ?qmp ?qcn ?qkd ?qnd ?qco ?qge ?qhk
  case qho => k_is
  case qhc => k_is
  case qhb => rfl
  case qcs => intro _; rfl
  case qrs => intro _; rfl
  case qmp => intro _; rfl
  case qcn => intro _; constructor <;> simp <;> omega
  case qnd => decide +kernel
  case qkd => rfl
  case qco => rfl
  case qge => rfl
  case qhk => rfl
  intro c' τ' L' A' hx' hf' hcl' ha'
  dsimp only [List.cons_append, List.nil_append]
  repeat' k_extra "g"
  obtain ⟨N, rfl⟩ : ∃ N : Nat, size = (N : Int) := ⟨size.toNat, by omega⟩
  refine go_compR A' hcl' (fun c2 A2 hcl2 => ?_) (by rfl) (by decide) (by rfl) (by decide) (by rfl) (fun _ => rfl)
  repeat' k_extra "g"
  refine comp_R N (fun ys => ∃ ks, IntsAre ys ks ∧ KBa.In ks ∧ ks.length = ys.length) mem_head (small_one (by decide) (by decide) (by omega) (by omega)) (rangeSize_nat _ _) (by omega) ⟨[], .nil, (fun _ h => nomatch h), rfl⟩ (fun i τ t' r C ys hi hJ hl hr => ?_) fun D τ ys hJ hl => ?_
  · repeat' k_extra "g"
    with_reducible refine' elt_of ?_ .head ?_
    · obtain ⟨ks, h1, h2, h3⟩ := hJ
      refine ⟨ks ++ [_], ints_snoc h1, fun q hq => ?_, by rw [List.length_append, List.length_append, h3]; rfl⟩
      rcases List.mem_append.mp hq with hq | hq
      · exact h2 q hq
      · obtain rfl := List.mem_singleton.mp hq
        exact ⟨Int.fmod_nonneg_of_pos _ (by decide), Int.fmod_lt_of_pos _ (by decide)⟩
    · k_extra "gs"
  · obtain ⟨ks, h1, h2, h3⟩ := hJ
    repeat' k_extra "g"
    with_reducible refine' go_bytesV mem_head h1 h2 ?_ fun v τ hv => ?_
    · rw [h3, hl]; omega
    · exact out_ret (by k_extra "gl") (k _ _ _ hv (by rw [h3, hl]))
end
theorem page_p {r : Addr} {size : Int} {t : Tok} {K : Kt Value} {p0 : List Res} (A : At w c sc 3) (hp0 : Pick (Src r) p0 n) (g0 : 0 ≤ size) (g1 : size ≤ 100) (k : ∀ v ks τ, IsB v ks → (ks.length : Int) = size → K v ⟨τ, m, Src r :: n⟩) : Go w c ⟨τ, m, p0⟩ (call (.ref 727) [.ref r, .int size t] []) K :=
  go_pick (hp0) <| page_g A g0 g1 k

end

-- g_add.lean
section
theorem note_g {ix su' : Addr} {nf : Nat} {la nu : Int} {sl : Option (Int × Int)} {p : Int × Int} {cnt : Int} {t : Tok} {K : Kt Value} (A : At w c sc 2) (hn : nf ≤ 100) (k : ∀ τ, K .none ⟨τ, m, ixR w ix ⟨nf, (nf : Int), nu, sl, none⟩ :: n⟩) : Go w c ⟨τ, m, ixR w ix ⟨nf, la, nu, sl, some p⟩ :: n⟩ (call (.ref 150) [.ref ix, .int cnt t, .ref su'] []) K := by
  refine' go_defX c.any (.inr rfl) (mp := [(Str.ofString "sums", _), (Str.ofString "page_count", _), (Str.ofString "self", _)]) (by with_reducible assumption) ?qho ?qhc ?qhb ?_ ?qhl ?qco ?qge ?qhk ?qce
  case qho => k_is
  case qhc => k_is
  case qhb => rfl
  case qhl => rfl
  case qco => rfl
  case qge => rfl
  case qhk => rfl
  case qce => rfl
  intro c' τ' A' hx' hf' ha'
  try rw [hf] at hf'
  refine go_ixR fun fr pl cu sa su t1 t2 v1 v2 v3 vs kvs hvs hkv => ?_
  dsimp only at hvs hkv
  dsimp only
  have hkv' : kvs.length ≤ 10 := hkv
  clear hkv
  repeat' k_extra "g"
  subst hvs
  exact out_next (.fold (pick5 .head (.tail .head) (.tail .head) .head .head) (ix_of0 rfl (Nat.le_trans (stored_length_le _ _ _) (Nat.succ_le_succ hkv'))) (.keep (fun _ h => h) (.skip .refl))) (k _)
section
local macro_rules | `(tactic| k_extra "gc") => `(tactic| revert go_newListV go_plNotIn go_plSet go_plItem)
theorem add_g {ix : Addr} {nf : Nat} {la nu : Int} {sl su' : Option (Int × Int)} {pg : Int} {t : Tok} {K : Kt Value} (A : At w c sc 2) (hn : nf ≤ 100) (k : ∀ τ, K .none ⟨τ, m, ixR w ix ⟨nf + 1, la, nu, sl, su'⟩ :: n⟩) : Go w c ⟨τ, m, ixR w ix ⟨nf, la, nu, sl, su'⟩ :: n⟩ (call (.ref 143) [.ref ix, .int pg t] []) K := by
  refine' go_defX c.any (.inr rfl) (mp := [(Str.ofString "page", _), (Str.ofString "self", _)]) (by with_reducible assumption) ?qho ?qhc ?qhb ?_ ?qhl ?qco ?qge ?qhk ?qce
  case qho => k_is
  case qhc => k_is
  case qhb => rfl
  case qhl => rfl
  case qco => rfl
  case qge => rfl
  case qhk => rfl
  case qce => rfl
  intro c' τ' A' hx' hf' ha'
  try rw [hf] at hf'
  refine go_ixR fun fr pl cu sa su t1 t2 v1 v2 v3 vs kvs hvs hkv => ?_
  dsimp only at hvs hkv
  dsimp only
  repeat' k_extra "g"
  all_goals exact out_next (.fold (.cons (.tail .head) (.cons .head .nil)) (pl_close (q := nf + 1) (by omega) (by omega) (by rw [List.length_append]; exact Nat.add_le_add_right (by assumption) 1)) (.fold (pick6 (.tail (.tail .head)) (.tail .head) .head .head .head .head) (ix_of (I := ⟨nf + 1, la, nu, sl, su'⟩) (by rw [List.length_append, hvs]; rfl) hkv) .refl)) (k _)
end
theorem note_p {ix su' : Addr} {nf : Nat} {la nu : Int} {sl : Option (Int × Int)} {p : Int × Int} {cnt : Int} {t : Tok} {K : Kt Value} {p0 : List Res} (A : At w c sc 2) (hp0 : Pick (ixR w ix ⟨nf, la, nu, sl, some p⟩) p0 n) (hn : nf ≤ 100) (k : ∀ τ, K .none ⟨τ, m, ixR w ix ⟨nf, (nf : Int), nu, sl, none⟩ :: n⟩) : Go w c ⟨τ, m, p0⟩ (call (.ref 150) [.ref ix, .int cnt t, .ref su'] []) K :=
  go_pick (hp0) <| note_g A hn k
theorem add_p {ix : Addr} {nf : Nat} {la nu : Int} {sl su' : Option (Int × Int)} {pg : Int} {t : Tok} {K : Kt Value} {p0 : List Res} (A : At w c sc 2) (hp0 : Pick (ixR w ix ⟨nf, la, nu, sl, su'⟩) p0 n) (hn : nf ≤ 100) (k : ∀ τ, K .none ⟨τ, m, ixR w ix ⟨nf + 1, la, nu, sl, su'⟩ :: n⟩) : Go w c ⟨τ, m, p0⟩ (call (.ref 143) [.ref ix, .int pg t] []) K :=
  go_pick (hp0) <| add_g A hn k

end

local macro_rules | `(tactic| k_extra "gk") => `(tactic| revert changed_g frame_p)

-- g_bent.lean
section
theorem frameL_len {p q s0 s1 x y : Int} {ks : List Int} : (frameL p q s0 s1 x y ks).length = 24 + ks.length := by
  unfold frameL
  rw [List.length_append, fours_len]
  rfl
section
theorem bent_g {r S D : Addr} {v : Value} {ks : List Int} {size s0 s1 x y : Int} {t : Tok} {K : Kt Value} (A : At w c sc 5) (hf : c.any = false) (hv : IsB v ks) (hz : ks.length ≤ 80) (hz2 : 24 < ks.length) (h0 : In32 [0, 3, s0, s1]) (h1 : In32 [x, y])
    (k : ∀ v ks' τ, IsB v ks' → ks'.length ≤ ks.length → K v ⟨τ, m, Src r :: tupI D [x, y] :: tupI S [s0, s1] :: n⟩) : Go w c ⟨τ, m, Src r :: tupI S [s0, s1] :: tupI D [x, y] :: n⟩ (call (.ref 741) [.ref r, v, .int size t, .ref S, .ref D] []) K := by
  refine' go_defX c.any (.inr rfl) (mp := [(Str.ofString "sums", _), (Str.ofString "salts", _), (Str.ofString "size", _), (Str.ofString "octets", _), (Str.ofString "source", _)]) (by with_reducible assumption) ?qho ?qhc ?qhb ?_ ?qhl ?qco ?qge ?qhk ?qce
  case qho => k_is
  case qhc => k_is
  case qhb => rfl
  case qhl => rfl
  case qco => rfl
  case qge => rfl
  case qhk => rfl
  case qce => rfl
  intro c' τ' A' hx' hf' ha'
  try rw [hf] at hf'
  repeat' k_extra "g"
  all_goals exact out_ret (by k_extra "gl") (k _ _ _ (by with_reducible assumption) (by first | exact Nat.le_refl _ | ((simp only [frameL_len, List.length_append, List.length_take, List.length_drop, four_len, List.length_cons, List.length_nil]); omega)))
end
theorem bent_p {r S D : Addr} {v : Value} {ks : List Int} {size s0 s1 x y : Int} {t : Tok} {K : Kt Value} {p0 p1 p2 : List Res} (A : At w c sc 5) (hp0 : PickT D [x, y] p0 p1) (hp1 : PickT S [s0, s1] p1 p2) (hp2 : Pick (Src r) p2 n) (hf : c.any = false) (hv : IsB v ks) (hz : ks.length ≤ 80) (hz2 : 24 < ks.length) (h0 : In32 [0, 3, s0, s1]) (h1 : In32 [x, y]) (k : ∀ v ks' τ, IsB v ks' → ks'.length ≤ ks.length → K v ⟨τ, m, Src r :: tupI D [x, y] :: tupI S [s0, s1] :: n⟩) : Go w c ⟨τ, m, p0⟩ (call (.ref 741) [.ref r, v, .int size t, .ref S, .ref D] []) K :=
  go_pickT hp0 <| go_pickT (pickT_tail <|  hp1) <| go_pick (.tail (.tail (hp2))) <| bent_g A hf hv hz hz2 h0 h1 k

end

-- g_pool.lean
section
theorem ite01b {b : Bool} : (0 : Int) ≤ (if b then 1 else 0) ∧ (if b then (1 : Int) else 0) < 4294967296 := by cases b <;> decide
section
local macro_rules | `(tactic| k_extra "gmul") => `(tactic| first | exact IntMulOk.of_right (fm_bits (by omega) (by omega)) | exact IntMulOk.of_right (fm_bits ite01b.1 ite01b.2) | mul_fits)
local macro_rules | `(tactic| k_extra "gc") => `(tactic| revert go_lenG go_itemG)
theorem pool_g {l : Addr} {ks : List Int} {i : Int} {t : Tok} {K : Kt Value} (A : At w c sc 2) (ha : c.arg = (l, ks)) (hz : ks.length ≤ 1000) (h0 : 0 ≤ i) (h1 : i < 2) (k : ∀ r τ, K (.ref r) ⟨τ, m, Src r :: n⟩) : Go w c ⟨τ, m, n⟩ (call (.ref 658) [.ref l, .int i t] []) K := by
  refine' go_defX c.any (.inr rfl) (mp := [(Str.ofString "k", _), (Str.ofString "script", _)]) (by with_reducible assumption) ?qho ?qhc ?qhb ?_ ?qhl ?qco ?qge ?qhk ?qce
  case qho => k_is
  case qhc => k_is
  case qhb => rfl
  case qhl => rfl
  case qco => rfl
  case qge => rfl
  case qhk => rfl
  case qce => rfl
  intro c' τ' A' hx' hf' ha'
  try rw [hf] at hf'
  rw [ha] at ha'
  repeat' k_extra "g"
  all_goals exact out_ret (.keep (fun l h => ⟨_, _, ⟨_, 0, .cons _ _ (.cons _ _ .nil), h⟩, Int.mul_nonneg (by split <;> omega) ite01b.1, Int.fmod_nonneg_of_pos _ (by decide), Int.fmod_lt_of_pos _ (by decide)⟩) .refl) (k _ _)
end

end

-- g_rhead.lean
section
theorem hk_d2 {c z : List Int} (hz : z = c.take 24) (h : (wd c 6 == (sums z (0, 0)).1 && wd c 7 == (sums z (0, 0)).2) = false) : headOk c = false := by
  subst hz
  unfold headOk
  rw [h]; simp
theorem hk_e2 {c z : List Int} (hz : z = c.take 24) (hl : ¬ (c.length : Int) < 32) (h0 : wd c 0 = 931071618) (h1 : wd c 1 = 3007000) (h : (wd c 6 == (sums z (0, 0)).1 && wd c 7 == (sums z (0, 0)).2) = true) : headOk c = true := by
  subst hz
  unfold headOk
  rw [h, h0, h1, decide_eq_true (by omega)]; rfl
/-- an index after its log's head was read -/
noncomputable def Ix.read (I : Ix) (cs : List Int) : Ix := ⟨I.nf, I.last, wd cs 3, some (wd cs 4, wd cs 5), some (Mine.sums (cs.take 24) (0, 0))⟩
section
local macro_rules | `(tactic| k_extra "gc") => `(tactic| revert readc_p check_p)
local macro_rules | `(tactic| k_extra "gc") => `(tactic| ((with_reducible show Go _ _ _ (call (Value.ref 101) _ _) _); apply (gets_g (N := 8)); k_extra "t"))
theorem rhead_g {wl dk fl ix : Addr} {q : Nat} {size : Int} {I : Ix} {ks cs : List Int} {K : Kt Value} (A : At w c sc 6) (hz : ks.length ≤ 1000)
    (hc : sl ks (some 0) (some (0 + 32)) = cs) (hcl : (cs.length : Int) ≤ 32) (hno : headOk cs = true → wd cs 2 = size) (hsu : cnB I.sums = 10)
    (k0 : headOk cs = false → ∀ τ, K (.bool false) ⟨τ, m, ixR w ix I :: fileR w fl dk q ks :: walR w wl dk fl ix size :: n⟩)
    (k1 : headOk cs = true → ∀ τ, K (.bool true) ⟨τ, m, ixR w ix (I.read cs) :: fileR w fl dk q ks :: walR w wl dk fl ix size :: n⟩) :
    Go w c ⟨τ, m, walR w wl dk fl ix size :: ixR w ix I :: fileR w fl dk q ks :: n⟩ (call (.ref 234) [.ref wl] []) K := by
  refine' go_defX c.any (.inr rfl) (mp := [(Str.ofString "self", _)]) (by with_reducible assumption) ?qho ?qhc ?qhb ?_ ?qhl ?qco ?qge ?qhk ?qce
  case qho => k_is
  case qhc => k_is
  case qhb => rfl
  case qhl => rfl
  case qco => rfl
  case qge => rfl
  case qhk => rfl
  case qce => rfl
  intro c' τ' A' hx' hf' ha'
  try rw [hf] at hf'
  refine go_pick (.tail .head) (go_ixR fun fr pl cu sa su t1 t2 v1 v2 v3 vs kvs hvs hkv => ?_)
  repeat' k_extra "g"
  · exact out_ret (less_fold (pick6 (.tail .head) (.tail .head) (.tail .head) (.tail .head) (.tail .head) (.tail .head)) (ix_of (I := I) hvs hkv) (by k_extra "gl")) (k0 (hk_a (by assumption)) _)
  · exact out_ret (less_fold (pick6 (.tail (.tail (.tail (.tail .head)))) (.tail (.tail (.tail (.tail .head)))) (.tail (.tail (.tail (.tail .head)))) (.tail (.tail (.tail (.tail .head)))) (.tail (.tail (.tail (.tail .head)))) (.tail (.tail (.tail (.tail .head))))) (ix_of (I := I) hvs hkv) (by k_extra "gl")) (k0 (hk_b (by assumption)) _)
  · exact out_ret (less_fold (pick6 (.tail (.tail (.tail (.tail .head)))) (.tail (.tail (.tail (.tail .head)))) (.tail (.tail (.tail (.tail .head)))) (.tail (.tail (.tail (.tail .head)))) (.tail (.tail (.tail (.tail .head)))) (.tail (.tail (.tail (.tail .head))))) (ix_of (I := I) hvs hkv) (by k_extra "gl")) (k0 (hk_c (by assumption)) _)
  all_goals (have hZ : List.take (Int.toNat 24) cs = cs.take 24 := rfl)
  · exact out_ret (less_fold (pick6 (.tail (.tail (.tail (.tail (.tail .head))))) (.tail (.tail (.tail (.tail (.tail .head))))) (.tail (.tail (.tail (.tail (.tail .head))))) (.tail (.tail (.tail (.tail (.tail .head))))) (.tail (.tail (.tail (.tail (.tail .head))))) (.tail (.tail (.tail (.tail (.tail .head)))))) (ix_of (I := I) hvs hkv) (by k_extra "gl")) (k0 (hk_d2 hZ (of_nt (by assumption))) _)
  all_goals (have hok := hk_e2 hZ (by assumption) (by assumption) (by assumption) (of_nf (by assumption)))
  · exact absurd (hno hok) (by assumption)
  · exact out_ret (.fold (.cons (.tail .head) .nil) (hold1 (r' := prR _ (some (wd cs 4, wd cs 5))) (fun l h => ⟨_, .cons _ _ (.cons _ _ .nil), h⟩)) (less_fold (pick6 (.tail .head) (.tail (.tail (.tail (.tail (.tail (.tail .head)))))) (.tail (.tail (.tail (.tail (.tail (.tail .head)))))) (.tail (.tail (.tail (.tail (.tail (.tail .head)))))) .head (.tail .head)) (ix_of (I := I.read cs) hvs (by rw [hsu] at hkv; exact hkv)) (by k_extra "gl"))) (k1 hok _)
end

end

-- g_recover.lean
section
section
local macro_rules | `(tactic| k_extra "gc") => `(tactic| revert go_newListV)
theorem clear_g {ix fr pl cu sa su : Addr} {v0 v1 v2 v3 v4 : Value} {K : Kt Value} (A : At w c sc 2) (k : ∀ fr pl cu su t1 t2 τ, K .none ⟨τ, m, inst w ix 174 (fsI fr pl cu sa su (.int 0 t1) (.int 0 t2) v2 v3 v4) :: tupI su [0, 0] :: dct0 w cu :: dct0 w pl :: lstV fr [] :: n⟩) :
    Go w c ⟨τ, m, inst w ix 174 (fsI fr pl cu sa su v0 v1 v2 v3 v4) :: n⟩ (call (.ref 136) [.ref ix] []) K := by
  refine' go_defX c.any (.inr rfl) (mp := [(Str.ofString "self", _)]) (by with_reducible assumption) ?qho ?qhc ?qhb ?_ ?qhl ?qco ?qge ?qhk ?qce
  case qho => k_is
  case qhc => k_is
  case qhb => rfl
  case qhl => rfl
  case qco => rfl
  case qge => rfl
  case qhk => rfl
  case qce => rfl
  intro c' τ' A' hx' hf' ha'
  try rw [hf] at hf'
  repeat' k_extra "g"
  exact out_next (.keep (fun _ h => h) (.keep (fun l h => ⟨_, .cons _ _ (.cons _ _ .nil), h⟩) .refl)) (k _ _ _ _ _ _ _)
theorem clear_p {ix fr pl cu sa su : Addr} {v0 v1 v2 v3 v4 : Value} {K : Kt Value} {p0 : List Res} (A : At w c sc 2) (hp0 : Pick (inst w ix 174 (fsI fr pl cu sa su v0 v1 v2 v3 v4)) p0 n) (k : ∀ fr pl cu su t1 t2 τ, K .none ⟨τ, m, inst w ix 174 (fsI fr pl cu sa su (.int 0 t1) (.int 0 t2) v2 v3 v4) :: tupI su [0, 0] :: dct0 w cu :: dct0 w pl :: lstV fr [] :: n⟩) : Go w c ⟨τ, m, p0⟩ (call (.ref 136) [.ref ix] []) K :=
  go_pick (hp0) <| clear_g A k
local macro_rules | `(tactic| k_extra "gc") => `(tactic| revert clear_p)
local macro_rules | `(tactic| k_extra "gc") => `(tactic| revert size_p ite_bf)
theorem recover_g {wl dk fl ix fr pl cu sa su : Addr} {size : Int} {v0 v1 v2 v3 v4 : Value} {K : Kt Value} (A : At w c sc 8) (k : ∀ τ, K .none ⟨τ, m, ixR w ix ⟨0, 0, 0, none, some (0, 0)⟩ :: fileR w fl dk 0 [] :: walR w wl dk fl ix size :: n⟩) :
    Go w c ⟨τ, m, walR w wl dk fl ix size :: inst w ix 174 (fsI fr pl cu sa su v0 v1 v2 v3 v4) :: fileR w fl dk 0 [] :: n⟩ (call (.ref 248) [.ref wl] []) K := by
  refine' go_defX c.any (.inr rfl) (mp := [(Str.ofString "self", _)]) (by with_reducible assumption) ?qho ?qhc ?qhb ?_ ?qhl ?qco ?qge ?qhk ?qce
  case qho => k_is
  case qhc => k_is
  case qhb => rfl
  case qhl => rfl
  case qco => rfl
  case qge => rfl
  case qhk => rfl
  case qce => rfl
  intro c' τ' A' hx' hf' ha'
  try rw [hf] at hf'
  repeat' k_extra "g"
  refine go_fold (r := prR 90 none) .nil (fun l h => h) ?_
  refine go_fold (r := plR w _ 0) (.cons (.tail (.tail (.tail (.tail .head)))) .nil) (hold1 fun l => pl_0) ?_
  refine go_fold (r := dctI w _ []) (.cons (.tail (.tail (.tail (.tail .head)))) .nil) (hold1 fun l => dct_I) ?_
  refine go_fold (r := ixR w ix ⟨0, 0, 0, none, some (0, 0)⟩) (pick6 (.tail (.tail (.tail .head))) (.tail (.tail (.tail (.tail .head)))) (.tail .head) .head .head .head) (ix_of (I := ⟨0, 0, 0, none, some (0, 0)⟩) (vs := []) (kvs := []) rfl (Nat.zero_le _)) ?_
  refine go_pick (r := walR w wl dk fl ix size) (.tail .head) (go_pick (r := ixR w ix _) (.tail .head) (go_pick (r := walR w wl dk fl ix size) (.tail .head) ?_))
  refine rhead_g (A'.mono) (Nat.zero_le _) (cs := []) rfl (by decide) (fun h => absurd h (by decide)) rfl (fun _ τ => ?_) (fun h => absurd h (by decide))
  refine go_ixR fun fr pl cu sa su t1 t2 v1 v2 v3 vs kvs hvs hkv => ?_
  dsimp only at hvs hkv
  dsimp only
  repeat' k_extra "g"
  exact out_next (less_fold (pick6 (.tail .head) (.tail .head) (.tail .head) (.tail .head) (.tail .head) (.tail .head)) (ix_of (I := ⟨0, 0, 0, none, some (0, 0)⟩) hvs hkv) (by k_extra "gl")) (k _)
end

end

-- g_walopen.lean
section
section
local macro_rules | `(tactic| k_extra "gc") => `(tactic| revert go_dShared go_wDisk go_wName index_g dopen_p)
theorem walopen_g {wl dk fs sh : Addr} {size : Int} {t1 t2 t3 : Tok} {K : Kt Value} (A : At w c sc 10) (hf : c.any = false) (k : ∀ fl ix τ, K .none ⟨τ, m, ixR w ix ⟨0, 0, 0, none, some (0, 0)⟩ :: fileR w fl dk 0 [] :: walR w wl dk fl ix size :: diskR w dk fs sh :: n⟩) :
    Go w c ⟨τ, m, inst w wl 350 (fsW dk (.str (Str.ofString "a") t1) (.int size t2) (.str (Str.ofString "a-wal") t3) .none .none) :: diskR w dk fs sh :: dctS w fs [] :: dctS w sh [] :: n⟩ (call (.ref 220) [.ref wl] []) K := by
  refine' go_defX c.any (.inr rfl) (mp := [(Str.ofString "self", _)]) (by with_reducible assumption) ?qho ?qhc ?qhb ?_ ?qhl ?qco ?qge ?qhk ?qce
  case qho => k_is
  case qhc => k_is
  case qhb => rfl
  case qhl => rfl
  case qco => rfl
  case qge => rfl
  case qhk => rfl
  case qce => rfl
  intro c' τ' A' hx' hf' ha'
  try rw [hf] at hf'
  repeat' k_extra "g"
  rename_i fl _ ix _ _ _ _ _ _ _ _
  refine go_see (r' := walR w wl dk fl ix size) (fun l h => ⟨_, _, _, h⟩) ?_
  refine go_pick (r := fileR w fl dk 0 []) (.tail (.tail .head)) (go_pick (r := inst w ix 174 _) (.tail (.tail .head)) (go_pick (r := walR w wl dk fl ix size) (.tail (.tail .head)) ?_))
  refine recover_g A'.mono fun τ => ?_
  repeat' k_extra "g"
  exact out_next (.skip .refl) (k _ _ _)
theorem walopen0_g {wl dk fs sh : Addr} {size : Int} {t1 t2 t3 : Tok} {K : Kt Value} (A : At w c sc 10) (hf : c.any = false) (k : ∀ fl ix τ, K .none ⟨τ, m, ixR w ix ⟨0, 0, 0, none, some (0, 0)⟩ :: fileR w fl dk 0 [] :: walR w wl dk fl ix size :: diskR w dk fs sh :: n⟩) :
    Go w c ⟨τ, m, inst w wl 350 (fsW dk (.str (Str.ofString "a") t1) (.int size t2) (.str (Str.ofString "a-wal") t3) .none .none) :: diskR w dk fs sh :: dct0 w sh :: dct0 w fs :: n⟩ (call (.ref 220) [.ref wl] []) K :=
  go_less (.keep (fun _ h => h) (.keep (fun _ h => h) (swap2 (.keep (fun _ => dct_S) (.keep (fun _ => dct_S) .refl))))) (walopen_g A hf k)
end

end

local macro_rules | `(tactic| k_extra "gk") => `(tactic| revert head_p disk_g walopen0_g walnew_g write_p)

-- g_log.lean
section
theorem headL_eq {a b s0 s1 : Int} : headL a b s0 s1 = headOf 931071618 3007000 b a s0 s1 := by
  have e : fours [931071618, 3007000, b, a, s0, s1] = toldOf 931071618 3007000 b a s0 s1 := by
    unfold fours toldOf
    simp only [List.map_cons, List.map_nil, List.flatten_cons, List.flatten_nil, List.append_nil, List.append_assoc]
  unfold headL headedL headOf
  rw [e]
theorem headL_len {a b s0 s1 : Int} : (headL a b s0 s1).length = 32 := by rw [headL_eq]; exact head_len
theorem headL_wd {a b s0 s1 : Int} (h : In32 [a, b, s0, s1]) : headOk (headL a b s0 s1) = true ∧ wd (headL a b s0 s1) 2 = b ∧ wd (headL a b s0 s1) 3 = a ∧ wd (headL a b s0 s1) 4 = s0 ∧ wd (headL a b s0 s1) 5 = s1 := by
  have h1 := h a (.head _)
  have h2 := h b (.tail _ (.head _))
  have h3 := h s0 (.tail _ (.tail _ (.head _)))
  have h4 := h s1 (.tail _ (.tail _ (.tail _ (.head _))))
  obtain ⟨_, _, e2, e3, e4, e5, _⟩ := head_wd (x1 := 931071618) (x2 := 3007000) (x3 := b) (x4 := a) (x5 := s0) (x6 := s1) (by decide) (by decide) (by decide) (by decide) h2.1 h2.2 h1.1 h1.2 h3.1 h3.2 h4.1 h4.2
  rw [headL_eq]
  exact ⟨head_ok h2.1 h2.2 h1.1 h1.2 h3.1 h3.2 h4.1 h4.2, e2, e3, e4, e5⟩
theorem put0 {cs : List Int} : ([] : List Int).take (Int.toNat 0) ++ cs ++ ([] : List Int).drop (Int.toNat 0 + cs.length) = cs := by simp
section
local macro_rules | `(tactic| k_extra "gz") => `(tactic| (rw [headL_len]; decide))
theorem log_g {S : Addr} {size number s0 s1 : Int} {t t' : Tok} {K : Kt Value} (A : At w c sc 12) (hf : c.any = false) (h0 : In32 [number, size, s0, s1]) (h1 : In32 [size, number, s0, s1])
    (k : ∀ wl dk fl ix fs sh p τ, K (.ref wl) ⟨τ, m, ixR w ix ⟨0, 0, number, some (s0, s1), some p⟩ :: fileR w fl dk 1 (headL number size s0 s1) :: walR w wl dk fl ix size :: diskR w dk fs sh :: tupI S [s0, s1] :: n⟩) :
    Go w c ⟨τ, m, tupI S [s0, s1] :: n⟩ (call (.ref 722) [.int size t, .int number t', .ref S] []) K := by
  refine' go_defX c.any (.inr rfl) (mp := [(Str.ofString "salts", _), (Str.ofString "number", _), (Str.ofString "size", _)]) (by with_reducible assumption) ?qho ?qhc ?qhb ?_ ?qhl ?qco ?qge ?qhk ?qce
  case qho => k_is
  case qhc => k_is
  case qhb => rfl
  case qhl => rfl
  case qco => rfl
  case qge => rfl
  case qhk => rfl
  case qce => rfl
  intro c' τ' A' hx' hf' ha'
  try rw [hf] at hf'
  repeat' k_extra "g"
  rename_i dk fs sh _ wl _ _ _ _ fl ix _ _ _ _ _
  rw [put0]
  have hl := headL_len (a := number) (b := size) (s0 := s0) (s1 := s1)
  obtain ⟨e1, e2, e3, e4, e5⟩ := headL_wd h0
  have hc : sl (headL number size s0 s1) (some 0) (some (0 + 32)) = headL number size s0 s1 := by
    rw [sl_mid (by decide) (by decide) (by rw [hl]; decide)]
    exact List.take_of_length_le (by rw [List.length_drop, hl]; decide)
  refine go_pick (r := fileR w fl dk _ _) .head (go_pick (r := ixR w ix _) (.tail (.tail (.tail .head))) (go_pick (r := walR w wl dk fl ix size) (.tail (.tail (.tail (.tail .head)))) ?_))
  refine rhead_g A'.mono (by rw [hl]; decide) hc (by rw [hl]; decide) (fun _ => e2) rfl (fun h => absurd (e1.symm.trans h) (by decide)) (fun _ τ => ?_)
  repeat' k_extra "g"
  have hr : Ix.read ⟨0, 0, 0, none, some (0, 0)⟩ (headL number size s0 s1) = ⟨0, 0, number, some (s0, s1), some (sums ((headL number size s0 s1).take 24) (0, 0))⟩ := by
    unfold Ix.read
    rw [e3, e4, e5]
  exact out_ret (by rw [hr]; exact .refl) (k _ _ _ _ _ _ _ _)
end
theorem log_p {S : Addr} {size number s0 s1 : Int} {t t' : Tok} {K : Kt Value} {p0 : List Res} (A : At w c sc 12) (hp0 : PickT S [s0, s1] p0 n) (hf : c.any = false) (h0 : In32 [number, size, s0, s1]) (h1 : In32 [size, number, s0, s1]) (k : ∀ wl dk fl ix fs sh p τ, K (.ref wl) ⟨τ, m, ixR w ix ⟨0, 0, number, some (s0, s1), some p⟩ :: fileR w fl dk 1 (headL number size s0 s1) :: walR w wl dk fl ix size :: diskR w dk fs sh :: tupI S [s0, s1] :: n⟩) : Go w c ⟨τ, m, p0⟩ (call (.ref 722) [.int size t, .int number t', .ref S] []) K :=
  go_pickT hp0 <| log_g A hf h0 h1 k

end

-- g_toldd.lean
section
/-- what is told, as a datum -/
noncomputable def dOf : Option (Int × Int × Int × Int) → PyData
  | none => .none
  | some z => .tuple [.int z.1, .int z.2.1, .tuple [.int z.2.2.1, .int z.2.2.2]]
theorem data_told {v : Value} {r : Option (Int × Int × Int × Int)} (hm : toldR v r ∈ n) : Data n v (dOf r) := fun l hl h hh => by
  obtain ⟨a, ha, hs⟩ := holds_mem hl hm
  cases r with
  | none => obtain ⟨rfl, _⟩ := ha; exact ⟨_, .none⟩
  | some z =>
    obtain ⟨D, E, t1, t2, rfl, a1, b1, e1, h1, a2, b2, e2, ⟨vs, hi, h2⟩, hn⟩ := ha
    subst hn h2 e2 h1 e1
    obtain ⟨t3, t4, rfl⟩ := ints2 hi
    have r1 : PySem.Reads h (.ref E) (.tuple [.int z.2.2.1, .int z.2.2.2]) _ := .tuple (hh _ (hs _ (.tail _ (.head _)))) rfl rfl (.cons (.int _ t3) (.cons (.int _ t4) .nil))
    exact ⟨_, .tuple (hh _ (hs _ (.head _))) rfl rfl (.cons (.int _ t1) (.cons (.int _ t2) (.cons r1 .nil)))⟩
theorem shaped_told {r : Option (Int × Int × Int × Int)} : PySem.SeqAt.shaped (dOf r) = true := by cases r <;> rfl
theorem eqv_told {r : Option (Int × Int × Int × Int)} : PyData.eqv (dOf r) (dOf r) = true := by
  cases r with
  | none => rfl
  | some z => simp [dOf, PyData.eqv, PyData.eqvAll]
theorem go_neTold {u v : Value} {r : Option (Int × Int × Int × Int)} {K : Kt Value} (A : At w c sc d) (h1 : Data n u (dOf r)) (h2 : Data n v (dOf r)) (k : K (.bool false) ⟨τ, m, n⟩) : Go w c ⟨τ, m, n⟩ (compareOp .NotEq u v) K :=
  go_neD A h1 h2 shaped_told shaped_told (by rw [eqv_told]; exact k)
theorem frameL_eq {p q s0 s1 x y : Int} {ks : List Int} : frameL p q s0 s1 x y ks = frameOf p q s0 s1 x y ks := by
  unfold frameL frameOf fours overF sumsOf
  simp only [List.map_cons, List.map_nil, List.flatten_cons, List.flatten_nil, List.append_nil, List.append_assoc]
theorem sl_written {ks cs : List Int} {a b : Int} (h0 : 0 ≤ a) (h1 : a ≤ (ks.length : Int)) (hb : 0 ≤ b) (h : (cs.length : Int) = b ∨ ((ks.length : Int) = a ∧ (cs.length : Int) ≤ b)) : sl (ks.take a.toNat ++ cs ++ ks.drop (a.toNat + cs.length)) (some a) (some (a + b)) = cs := cut_written h0 h1 hb h
theorem go_neFS {D D' E E' : Addr} {v v' : Value} {ks z : List Int} {x y : Int} {K : Kt Value} (A : At w c sc d) (h1 : ob D (tupO [v, .ref E]) ∈ n) (h2 : ob D' (tupO [v', .ref E']) ∈ n) (h3 : tupI E (sumsL z x y) ∈ n) (h4 : tupI E' (sumsL z x y) ∈ n) (hb : IsB v ks) (hb' : IsB v' ks) (k : K (.bool false) ⟨τ, m, n⟩) :
    Go w c ⟨τ, m, n⟩ (compareOp .NotEq (.ref D) (.ref D')) K := go_neF A h1 h2 h3 h4 hb hb' k
theorem go_toldNone {v : Value} {α : Type} {t : Sem α} {K : Kt α} (h : v = .none → Go w c ⟨τ, m, n⟩ t K) : Go w c ⟨τ, m, toldR v none :: n⟩ t K := fun h' g dr os Q E ⟨mm, S, F, l, ⟨a, b, e, ⟨hv, ha⟩, hb⟩, N, hd⟩ k =>
  h hv h' g dr os Q E ⟨mm, S, F, l, by subst ha e; exact hb, N, hd⟩ k

end

local macro_rules | `(tactic| k_extra "gk") => `(tactic| revert log_p foctets_p rframe_p headed_p)

-- g_tright.lean
section
theorem headed_bad {a b x y z u : Int} (ha : 0 ≤ a ∧ a < 4294967296) (hb : 0 ≤ b ∧ b < 4294967296) (hx : 0 ≤ x ∧ x < 4294967296) (hy : 0 ≤ y ∧ y < 4294967296) (hz : 0 ≤ z ∧ z < 4294967296) (hu : 0 ≤ u ∧ u < 4294967296) (h : a ≠ 931071618 ∨ b ≠ 3007000) : (headedL [a, b, x, y, z, u]).length = 32 ∧ headOk (headedL [a, b, x, y, z, u]) = false := by
  have e : headedL [a, b, x, y, z, u] = headOf a b x y z u := by
    have e : fours [a, b, x, y, z, u] = toldOf a b x y z u := by
      unfold fours toldOf
      simp only [List.map_cons, List.map_nil, List.flatten_cons, List.flatten_nil, List.append_nil, List.append_assoc]
    unfold headedL headOf
    rw [e]
  obtain ⟨e0, e1, _⟩ := head_wd ha.1 ha.2 hb.1 hb.2 hx.1 hx.2 hy.1 hy.2 hz.1 hz.2 hu.1 hu.2
  rw [e]
  refine ⟨head_len, ?_⟩
  rcases h with h | h
  · exact hk_b (by rw [e0]; exact h)
  · exact hk_c (by rw [e1]; exact h)
section
local macro_rules | `(tactic| k_extra "gc") => `(tactic| revert go_neFS)
local macro_rules | `(tactic| k_extra "gz") => `(tactic| (rw [frameL_len, List.length_replicate]; decide))
theorem tright_g {K : Kt Value} (A : At w c sc 14) (hf : c.any = false) (k : ∀ τ, K (.bool true) ⟨τ, m, n⟩) : Go w c ⟨τ, m, n⟩ (call (.ref 769) [] []) K := by
  refine' go_defX c.any (.inr rfl) (mp := []) (by with_reducible assumption) ?qho ?qhc ?qhb ?_ ?qhl ?qco ?qge ?qhk ?qce
  case qho => k_is
  case qhc => k_is
  case qhb => rfl
  case qhl => rfl
  case qco => rfl
  case qge => rfl
  case qhk => rfl
  case qce => rfl
  intro c' τ' A' hx' hf' ha'
  try rw [hf] at hf'
  repeat' k_extra "g"
  rename_i D7 wl dk fl ix fs sh p _ D6 D5 _ _ _ _ _ _ _ _ D4 _ _ _ _ _ _ _ _ D1 D2 D3 Dl
  unfold Iter
  refine go_seeT (.tail (.tail (.tail .head))) (.cons _ _ (.cons _ _ .nil)) (go_seeT (.tail (.tail (.tail .head))) (.cons _ _ (.cons _ _ .nil)) (go_seeT (.tail (.tail (.tail .head))) (.cons _ _ (.cons _ _ .nil)) ?_))
  generalize hL : ([(D1, 3, 2), (D2, 1, 3), (D3, 1, 2)] : List (Addr × Int × Int)) = L
  have hLp : ∀ e ∈ L, Pick3 e.2.1 e.2.2 := by
    subst hL
    intro e he
    simp only [List.mem_cons, List.not_mem_nil, or_false] at he
    rcases he with rfl | rfl | rfl
    · exact .inl ⟨rfl, rfl⟩
    · exact .inr (.inl ⟨rfl, rfl⟩)
    · exact .inr (.inr ⟨rfl, rfl⟩)
  refine iter_list (vs := L.map fun e => Value.ref e.1) (fun i m' n' => m' = [(Str.ofString "sums", Value.ref D6), (Str.ofString "log", Value.ref wl)] ∧ ∃ q ks, n' = ob Dl (listOf (L.map fun e => Value.ref e.1).toArray 0) :: tupI D6 [0, 0] :: ixR w ix ⟨0, 0, 5, some (1, 2), some p⟩ :: walR w wl dk fl ix 8 :: fileR w fl dk q ks :: diskR w dk fs sh :: ((L.drop i).map (fun e => tupI e.1 [e.2.1, e.2.2]) ++ n) ∧ q = 1 + i ∧ 32 ≤ ks.length ∧ ks.length ≤ 64)
    hf' (.inl ⟨_, _, rfl⟩) (by rintro i m' n' ⟨_, q, ks, rfl, _⟩; exact .head _) ml_refl (n0 := ob Dl (listOf (L.map fun e => Value.ref e.1).toArray 0) :: tupI D6 [0, 0] :: ixR w ix ⟨0, 0, 5, some (1, 2), some p⟩ :: walR w wl dk fl ix 8 :: fileR w fl dk 1 (headL 5 8 1 2) :: diskR w dk fs sh :: ((L.drop 0).map (fun e => tupI e.1 [e.2.1, e.2.2]) ++ n)) (by subst hL; show Less (ob Dl (listOf [Value.ref D1, Value.ref D2, Value.ref D3].toArray 0) :: tupI D6 [0, 0] :: ixR w ix ⟨0, 0, 5, some (1, 2), some p⟩ :: walR w wl dk fl ix 8 :: fileR w fl dk 1 (headL 5 8 1 2) :: diskR w dk fs sh :: tupI D1 [3, 2] :: tupI D2 [1, 3] :: tupI D3 [1, 2] :: n) _; k_extra "gl")
    ⟨rfl, 1, _, rfl, rfl, by rw [headL_len]; decide, by rw [headL_len]; decide⟩ ?_ ?_
  · rintro i v τ m' n' r hv ⟨rfl, q, ks, rfl, hq, h1, h2⟩
    have hi : i < L.length := by have := (List.getElem?_eq_some_iff.mp hv).1; rwa [List.length_map] at this
    have hL3 : L.length = 3 := by subst hL; rfl
    obtain ⟨⟨D, a, b⟩, he, rfl⟩ : ∃ e, L[i]? = some e ∧ Value.ref e.1 = v := by
      rw [List.getElem?_map] at hv
      cases h : L[i]? with
      | none => rw [h] at hv; cases hv
      | some e => rw [h] at hv; exact ⟨e, rfl, by simpa using hv⟩
    have hp3 := hLp _ (List.mem_of_getElem? he)
    have hr := pick_range hp3
    dsimp only at hp3 hr
    rw [drop_of he, List.map_cons, List.cons_append]
    dsimp only
    generalize hR : (L.drop (i + 1)).map (fun e => tupI e.1 [e.2.1, e.2.2]) ++ n = R
    generalize (listOf (L.map fun e => Value.ref e.1).toArray 0) = oL
    refine go_asgName A'.any hx' ?_ rfl
    generalize hz : List.replicate (Int.toNat 8) (0 : Int) = z
    have hzl : z.length = 8 := by rw [← hz, List.length_replicate]; rfl
    have hl32 : (frameL 3 4 a b 0 0 z).length = 32 := by rw [frameL_len, hzl]
    have ht : toldIs (frameL 3 4 a b 0 0 z) 8 1 2 0 0 = if a = 1 ∧ b = 2 then some (3, 4, (sums (overF 3 4 z) (0, 0)).1, (sums (overF 3 4 z) (0, 0)).2) else none := by
      rw [frameL_eq, told_frame (by rw [hzl]; rfl) (by decide) (by decide) (by decide) (by decide) hr.1 hr.2.1 hr.2.2.1 hr.2.2.2 (by decide) (by decide) (by decide) (by decide), if_neg (by decide)]
      rfl
    repeat' k_extra "g"
    subst hz
    have hcl : ((frameL 3 4 a b 0 0 (List.replicate (Int.toNat 8) 0)).length : Int) ≤ 24 + 8 := by rw [hl32]; decide
    have hc : sl (List.take (Int.toNat 32) ks ++ frameL 3 4 a b 0 0 (List.replicate (Int.toNat 8) 0) ++ List.drop (Int.toNat 32 + (frameL 3 4 a b 0 0 (List.replicate (Int.toNat 8) 0)).length) ks) (some (32 + (1 - 1) * (24 + 8))) (some (32 + (1 - 1) * (24 + 8) + (24 + 8))) = frameL 3 4 a b 0 0 (List.replicate (Int.toNat 8) 0) := by
      rw [show (32 + (1 - 1) * (24 + 8) : Int) = 32 by decide]
      exact sl_written (by decide) (by omega) (by decide) (.inl (by rw [hl32]; decide))
    have hl64 : (List.take (Int.toNat 32) ks ++ frameL 3 4 a b 0 0 (List.replicate (Int.toNat 8) 0) ++ List.drop (Int.toNat 32 + (frameL 3 4 a b 0 0 (List.replicate (Int.toNat 8) 0)).length) ks).length = 64 := written_eq h1 (by rw [hl32]; exact h2) (by rw [hl32]; rfl)
    generalize (List.take (Int.toNat 32) ks ++ frameL 3 4 a b 0 0 (List.replicate (Int.toNat 8) 0) ++ List.drop (Int.toNat 32 + (frameL 3 4 a b 0 0 (List.replicate (Int.toNat 8) 0)).length) ks) = ks' at hc hl64 ⊢
    repeat' k_extra "g"
    all_goals subst hR
    · have hab : a = 1 ∧ b = 2 := by have h : (a == 1 && b == 2) = true := by assumption
                                     simpa using h
      rw [if_pos hab] at ht
      refine go_neTold A' (data_told (by k_extra "gm")) (by rw [ht]; exact data_tupO (by k_extra "gm") (datas_cons data_int (datas_cons data_int (datas_cons (data_sums (by k_extra "gm")) datas_nil)))) ?_
      repeat' k_extra "g"
      exact turn_next (by k_extra "gmap") (by k_extra "gp") (by k_extra "gl") ⟨rfl, q + 1, ks', rfl, by omega, by omega, by omega⟩
    · have hab : ¬ (a = 1 ∧ b = 2) := by
        have h : (a == 1 && b == 2) = false := by assumption
        rintro ⟨rfl, rfl⟩
        cases h
      rw [if_neg hab] at ht
      refine go_neTold A' (data_told (by k_extra "gm")) (by rw [ht]; exact data_none) ?_
      repeat' k_extra "g"
      exact turn_next (by k_extra "gmap") (by k_extra "gp") (by k_extra "gl") ⟨rfl, q + 1, ks', rfl, by omega, by omega, by omega⟩
  · rintro τ m' n' ⟨rfl, q, ks, rfl, _⟩
    rw [List.length_map, List.drop_length, List.map_nil, List.nil_append]
    repeat' k_extra "g"
    rename_i Da Db De
    unfold Iter
    refine go_seeT (.tail (.tail .head)) (.cons _ _ (.cons _ _ .nil)) (go_seeT (.tail (.tail .head)) (.cons _ _ (.cons _ _ .nil)) ?_)
    clear hLp
    generalize hL2 : ([(Da, 931071619, 3007000), (Db, 931071618, 3007001)] : List (Addr × Int × Int)) = L2
    have hLp : ∀ e ∈ L2, ((0 ≤ e.2.1 ∧ e.2.1 < 4294967296) ∧ (0 ≤ e.2.2 ∧ e.2.2 < 4294967296)) ∧ (e.2.1 ≠ 931071618 ∨ e.2.2 ≠ 3007000) := by
      subst hL2
      intro e he
      simp only [List.mem_cons, List.not_mem_nil, or_false] at he
      rcases he with rfl | rfl <;> (dsimp only; decide)
    refine iter_list (vs := L2.map fun e => Value.ref e.1) (fun i m' n' => m' = [] ∧ n' = ob De (listOf (L2.map fun e => Value.ref e.1).toArray 0) :: ((L2.drop i).map (fun e => tupI e.1 [e.2.1, e.2.2]) ++ n))
      hf' (.inr ⟨⟨_, _, _, rfl⟩, fun i v h => by
        rw [List.getElem?_map] at h
        cases h' : L2[i]? with
        | none => rw [h'] at h; cases h
        | some e => rw [h'] at h; exact ⟨e.1, by simpa using h.symm⟩⟩) (by rintro i m' n' ⟨_, rfl⟩; exact .head _) ml_nil (n0 := ob De (listOf (L2.map fun e => Value.ref e.1).toArray 0) :: ((L2.drop 0).map (fun e => tupI e.1 [e.2.1, e.2.2]) ++ n)) (by subst hL2; show Less (ob De (listOf [Value.ref Da, Value.ref Db].toArray 0) :: tupI Da [931071619, 3007000] :: tupI Db [931071618, 3007001] :: n) _; k_extra "gl")
      ⟨rfl, rfl⟩ ?_ ?_
    · rintro i v τ m' n' r hv ⟨rfl, rfl⟩
      obtain ⟨⟨D, a, b⟩, he, rfl⟩ : ∃ e, L2[i]? = some e ∧ Value.ref e.1 = v := by
        rw [List.getElem?_map] at hv
        cases h : L2[i]? with
        | none => rw [h] at hv; cases hv
        | some e => rw [h] at hv; exact ⟨e, rfl, by simpa using hv⟩
      obtain ⟨⟨ra, rb⟩, hbad⟩ := hLp _ (List.mem_of_getElem? he)
      dsimp only at ra rb hbad
      obtain ⟨hl32, hbadX⟩ := headed_bad ra rb (x := 8) (y := 5) (z := 1) (u := 2) (by decide) (by decide) (by decide) (by decide) hbad
      rw [drop_of he, List.map_cons, List.cons_append]
      dsimp only
      generalize hR : (L2.drop (i + 1)).map (fun e => tupI e.1 [e.2.1, e.2.2]) ++ n = R
      generalize (listOf (L2.map fun e => Value.ref e.1).toArray 0) = oL
      refine go_pick (r := tupI D [a, b]) (.tail (.tail .head)) (go_openT fun vs hvs => ?_)
      obtain ⟨ta, tb, rfl⟩ := ints2 hvs
      refine go_unpack mem_head rfl rfl (go_inOrder (go_asgName A'.any hx' (go_inOrder (go_asgName A'.any hx' (go_pure ?_) rfl)) rfl))
      repeat' k_extra "g"
      rw [put0]
      have hc : sl (headedL [a, b, 8, 5, 1, 2]) (some 0) (some (0 + 32)) = headedL [a, b, 8, 5, 1, 2] := by
        rw [sl_mid (by decide) (by decide) (by rw [hl32]; decide)]
        exact List.take_of_length_le (by rw [List.length_drop, hl32]; decide)
      refine go_pick (r := fileR w _ _ _ _) .head (go_pick (r := ixR w _ _) (by k_extra "gp") (go_pick (r := walR w _ _ _ _ 8) (by k_extra "gp") ?_))
      refine rhead_g A'.mono (by rw [hl32]; decide) hc (by rw [hl32]; decide) (fun h => absurd (h.symm.trans hbadX) (by decide)) rfl (fun _ τ => ?_) (fun h => absurd (h.symm.trans hbadX) (by decide))
      repeat' k_extra "g"
      exact turn_next (by k_extra "gmap") (by k_extra "gp") (by k_extra "gl") ⟨rfl, rfl⟩
    · rintro τ m' n' ⟨rfl, rfl⟩
      rw [List.length_map, List.drop_length, List.map_nil, List.nil_append]
      repeat' k_extra "g"
      exact out_ret (by k_extra "gl") (k _)
end

end

local macro_rules | `(tactic| k_extra "gk") => `(tactic| revert page_p one_p hoctets_p bent_p frameat_g eol_p fsize_g told_p add_p note_p)

-- g_fright.lean
section
section
local macro_rules | `(tactic| k_extra "gc") => `(tactic| revert go_newListI go_neFS go_neTold)
local macro_rules | `(tactic| k_extra "gd") => `(tactic| ((with_reducible apply data_told); k_extra "gm"))
local macro_rules | `(tactic| k_extra "gz") => `(tactic| (rw [frameL_len]; omega))
local macro_rules | `(tactic| k_extra "gc") => `(tactic| ((with_reducible show Go _ _ _ (eval (Expr.IfExp _ _ _ _) _) _); with_reducible refine' stop_of ?_))
theorem sl_past {ks : List Int} {a : Int} {hi : Option Int} (h : (ks.length : Int) ≤ a) : sl ks (some a) hi = [] := by
  show (ks.drop (clipAt ks.length a)).take _ = []
  rw [clip_max h, List.drop_length, List.take_nil]
theorem fright_g {r : Addr} {size : Int} {t : Tok} {K : Kt Value} (A : At w c sc 15) (hf : c.any = false) (g0 : 8 ≤ size) (g1 : size ≤ 40) (k : ∀ τ, K (.bool true) ⟨τ, m, Src r :: n⟩) : Go w c ⟨τ, m, Src r :: n⟩ (call (.ref 748) [.ref r, .int size t] []) K := by
  refine' go_defX c.any (.inr rfl) (mp := [(Str.ofString "size", _), (Str.ofString "source", _)]) (by with_reducible assumption) ?qho ?qhc ?qhb ?_ ?qhl ?qco ?qge ?qhk ?qce
  case qho => k_is
  case qhc => k_is
  case qhb => rfl
  case qhl => rfl
  case qco => rfl
  case qge => rfl
  case qhk => rfl
  case qce => rfl
  intro c' τ' A' hx' hf' ha'
  try rw [hf] at hf'
  repeat' k_extra "g"
  rename_i d5 _ _ a12 a11 d4 _ _ a10 a9 D5 d3 _ _ a8 D4 d2 _ _ a7 a6 d1 _ _ a5 a4 D3 D2 wl dk fl ix fs sh p _ dm _ _ a3 a2 D1 v1 _ hv1 v2 _ hv2 Dr _
  have i2 : In32 [d5, d3] := in32_c (by omega) (in32_c (by omega) in32_n)
  clear a12 a11 a10 a9 a8 a7 a6
  have key : ∀ j : Nat, j ≤ 3 → 32 ≤ 32 + (1 + (j : Int) * 1 - 1) * (24 + size) ∧ 32 + (1 + (j : Int) * 1 - 1) * (24 + size) ≤ 300 := by
    intro j hj
    rcases (by omega : j = 0 ∨ j = 1 ∨ j = 2 ∨ j = 3) with rfl | rfl | rfl | rfl <;> (constructor <;> omega)
  have step : ∀ j : Nat, 32 + (1 + (j : Int) * 1 - 1) * (24 + size) + 24 + size = 32 + (1 + ((j + 1 : Nat) : Int) * 1 - 1) * (24 + size) := by
    intro j
    rw [show (1 + ((j + 1 : Nat) : Int) * 1 - 1) = (1 + (j : Int) * 1 - 1) + 1 by omega, Int.add_mul, Int.one_mul]
    omega
  have hNs : Builtin.Range.small 1 (1 + dm + 1) 1 = true ∧ Builtin.Range.rangeSize 1 (1 + dm + 1) 1 = (((1 + dm).toNat : Nat) : Int) := by
    rcases (by omega : dm = 0 ∨ dm = 1 ∨ dm = 2) with rfl | rfl | rfl <;> decide
  have hN3 : (1 + dm).toNat ≤ 3 := by omega
  generalize hNe : (1 + dm).toNat = N at hNs hN3
  refine go_seeT (D := D3) (by k_extra "gp") (.cons _ _ (.cons _ _ .nil)) ?_
  refine iter_range (N := N) (fun i m' n' => ∃ tm ta at' Ds x y q ks, m' = [(Str.ofString "many", .int (1 + dm) tm), (Str.ofString "log", .ref wl), (Str.ofString "at", .int at' ta), (Str.ofString "sums", .ref Ds), (Str.ofString "salts", .ref D4), (Str.ofString "size", .int size t), (Str.ofString "source", .ref r)] ∧
      n' = tupI D4 [d5, d3] :: ixR w ix ⟨i, 0, d2, some (d5, d3), some p⟩ :: walR w wl dk fl ix size :: Src r :: fileR w fl dk q ks :: diskR w dk fs sh :: tupI Ds [x, y] :: n ∧ at' = 32 + (1 + (i : Int) * 1 - 1) * (24 + size) ∧ q = 1 + i ∧ In32 [x, y] ∧ (ks.length : Int) ≤ at' ∧ (i < N → (ks.length : Int) = at'))
    A' hx' hf' (by k_extra "gm") hNs.1 hNs.2 (by k_extra "gmap") (by k_extra "gl") ⟨_, _, 32, D3, d1, 7, 1, _, rfl, rfl, by omega, rfl, in32_2 a5 a4 (by decide) (by decide), by rw [headL_len]; decide, fun _ => by rw [headL_len]; rfl⟩ ?_ ?_ rfl
  · rintro i t' τ m' n' rr hi ⟨tm, ta, at', Ds, x, y, q, ks, rfl, rfl, he, hq, hxy, hle, heq⟩
    clear a5 a4 hNs
    have heq := heq hi
    have hk := key i (by omega)
    rw [← he] at hk
    have hat0 : 0 ≤ at' := by omega
    have hat1 : at' ≤ (ks.length : Int) := by omega
    repeat' k_extra "g"
    · exact absurd he.symm (by assumption)
    rename_i pg _ _ p1 p2 DL cn _ _ cq vo oks _ hvo hol DT D' E v' _ hv' D2' E2 v2' _ hv2' Dp _ _ heq2
    unfold Stop
    refine go_ifexpJ (fun v n2 => ∃ cs, IsB v cs ∧ (cs.length : Int) ≤ 24 + size ∧ (i + 1 < N → (cs.length : Int) = 24 + size) ∧ n2 = ixR w ix ⟨i, 0, d2, some (d5, d3), some p⟩ :: tupI E (sumsL (overF (1 + pg) cn oks) x y) :: tupI Ds [x, y] :: walR w wl dk fl ix size :: tupI D4 [d5, d3] :: Src r :: rr :: fileR w fl dk q ks :: diskR w dk fs sh :: n) ?_ ?_
    · repeat' k_extra "g"
      · exact ⟨rfl, _, by k_extra "gl", _, hv', by rw [frameL_len]; omega, fun _ => by rw [frameL_len]; omega, rfl⟩
      · rename_i hge _ _ _ hvb hlb
        exact ⟨rfl, _, by k_extra "gl", _, hvb, by rw [frameL_len] at hlb; omega, fun h => by omega, rfl⟩
    · rintro v τ n2 ⟨cs, hcs, hc1, hc2, rfl⟩
      repeat' k_extra "g"
      have hc : sl (ks.take at'.toNat ++ cs ++ ks.drop (at'.toNat + cs.length)) (some (32 + (1 + (i : Int) * 1 - 1) * (24 + size))) (some (32 + (1 + (i : Int) * 1 - 1) * (24 + size) + (24 + size))) = cs := by
        rw [← he]
        exact sl_written hat0 hat1 (by omega) (.inr ⟨heq, hc1⟩)
      have hlen : ((ks.take at'.toNat ++ cs ++ ks.drop (at'.toNat + cs.length)).length : Int) = at' + cs.length := by
        rw [List.length_append, List.length_append, List.length_take, List.length_drop]
        omega
      generalize ks.take at'.toNat ++ cs ++ ks.drop (at'.toNat + cs.length) = ks' at hc hlen ⊢
      repeat' k_extra "g"
      exact turn_next (n2 := tupI D4 [d5, d3] :: ixR w ix ⟨i + 1, 0, d2, some (d5, d3), some p⟩ :: walR w wl dk fl ix size :: Src r :: fileR w fl dk (q + 1) ks' :: diskR w dk fs sh :: tupI E (sumsL (overF (1 + pg) cn oks) x y) :: n) (by k_extra "gmap") (by k_extra "gp") (by k_extra "gl")
        ⟨tm, _, _, E, _, _, q + 1, ks', rfl, rfl, by rw [he]; exact step i, by omega, in32_sums hxy, by omega, fun h => by have := hc2 h; omega⟩
  · rintro τ m' n' ⟨tm, ta, at', Ds, x, y, q, ks, rfl, rfl, he, hq, hxy, hle, _⟩
    have hk := key N hN3
    rw [← he] at hk
    repeat' k_extra "g"
    · exfalso
      dsimp only at *
      omega
    have hc : sl ks (some (32 + (1 + dm + 1 - 1) * (24 + size))) (some (32 + (1 + dm + 1 - 1) * (24 + size) + (24 + size))) = [] := sl_past (by rw [show (1 + dm + 1 - 1) = (1 + (N : Int) * 1 - 1) by omega, ← he]; exact hle)
    refine go_pick (r := fileR w fl dk q ks) (by k_extra "gp") (go_pick (r := ixR w ix _) (by k_extra "gp") (go_pick (r := walR w wl dk fl ix size) (by k_extra "gp") ?_))
    (with_reducible refine' go_pick3t ?qpk ?_)
    case qpk => k_extra "gp"
    refine rframe_g A'.mono (by omega) (by omega) (by omega) (by omega) (by omega) rfl hc (by show ((0 : Nat) : Int) ≤ _; omega) (fun v τ => ?_)
    rw [told_a (by show ((0 : Nat) : Int) < _; omega)]
    refine go_toldNone fun hv => ?_
    subst hv
    repeat' k_extra "g"
    · rw [beq_self_eq_true]
      exact out_ret (by k_extra "gl") (k _)
    · exfalso
      have h : 32 + ((N : Int) + 1 - 1) * (24 + size) ≠ at' := by assumption
      apply h
      rw [he, show (1 + (N : Int) * 1 - 1) = ((N : Int) + 1 - 1) by omega]
end
theorem fright_p {r : Addr} {size : Int} {t : Tok} {K : Kt Value} {p0 : List Res} (A : At w c sc 15) (hp0 : Pick (Src r) p0 n) (hf : c.any = false) (g0 : 8 ≤ size) (g1 : size ≤ 40) (k : ∀ τ, K (.bool true) ⟨τ, m, Src r :: n⟩) : Go w c ⟨τ, m, p0⟩ (call (.ref 748) [.ref r, .int size t] []) K :=
  go_pick (hp0) <| fright_g A hf g0 g1 k

end

-- g_heard.lean
section
section
/-- CorruptError's class called -/
theorem corrupt_g {s : Str} {t : Tok} {K : Kt Value} (A : At w c sc 4) (hf : c.any = true) (k : ∀ e τ, K (.ref e) ⟨τ, m, rawR e 51 :: n⟩) : Go w c ⟨τ, m, n⟩ (call (.ref 51) [.str s t] []) K := by
  refine' go_exc (mp := fun x => [(Str.ofString "message", _), (Str.ofString "self", .ref x)]) (d := 2) A hf PySem.F.excBase_Exception (cls51 w) ?qhi ?qhf ?qho ?qhc ?qhb ?_ (Nat.le_of_ble_eq_true rfl) ?qhl ?qco ?qge ?qhk ?qce
  case qhi => k_is
  case qhf => k_is
  case qho => k_is
  case qhc => k_is
  case qhb => intro _; rfl
  case qhl => intro _; rfl
  case qco => rfl
  case qge => rfl
  case qhk => rfl
  case qce => rfl
  intro c' τ' x A' hx' hf' ha'
  repeat' k_extra "g"
  refine go_setExc A' .head (cls51 w) (by k_is) (by k_is) fun τ => ?_
  repeat' k_extra "g"
  exact ⟨rfl, out_next .refl (k _ _)⟩
local macro_rules | `(tactic| k_extra "gc") => `(tactic| revert corrupt_g readc_p check_p)
local macro_rules | `(tactic| k_extra "gc") => `(tactic| ((with_reducible show Go _ _ _ (call (Value.ref 101) _ _) _); apply (gets_g (N := 8)); k_extra "t"))
theorem rheadE_g {wl dk fl ix : Addr} {q : Nat} {size : Int} {I : Ix} {ks cs : List Int} {ls : Fms} {K KE : Kt Value} (A : At w c sc 6) (ok : FrsOk c.outer ls) (hz : ks.length ≤ 1000)
    (hc : sl ks (some 0) (some (0 + 32)) = cs) (hcl : (cs.length : Int) ≤ 32) (hsu : cnB I.sums = 10)
    (k0 : headOk cs = false → ∀ τ, K (.bool false) ⟨τ, m, frsR ls :: ixR w ix I :: fileR w fl dk q ks :: walR w wl dk fl ix size :: n⟩)
    (k1 : headOk cs = true → wd cs 2 = size → ∀ τ, K (.bool true) ⟨τ, m, frsR ls :: ixR w ix (I.read cs) :: fileR w fl dk q ks :: walR w wl dk fl ix size :: n⟩)
    (k2 : headOk cs = true → wd cs 2 ≠ size → ∀ e τ, KE (.ref e) ⟨τ, m, frsR ls :: exR e 51 .none :: ixR w ix I :: fileR w fl dk q ks :: walR w wl dk fl ix size :: n⟩) :
    GoE w c ⟨τ, m, frsR ls :: walR w wl dk fl ix size :: ixR w ix I :: fileR w fl dk q ks :: n⟩ (call (.ref 234) [.ref wl] []) K KE := by
  refine' goE_defF true (.inl rfl) (mp := [(Str.ofString "self", _)]) (by with_reducible assumption) (by with_reducible assumption) ?qho ?qhc ?qhb ?_ ?qhl ?qco ?qge ?qhk ?qce
  case qho => k_is
  case qhc => k_is
  case qhb => rfl
  case qhl => rfl
  case qco => rfl
  case qge => rfl
  case qhk => rfl
  case qce => rfl
  intro c' τ' F' A' hx' hf' ha' ok'
  try rw [hf] at hf'
  refine goE_5 (go_pick (.tail (.tail .head)) (go_ixR fun fr pl cu sa su t1 t2 v1 v2 v3 vs kvs hvs hkv => ?_))
  repeat' k_extra "g"
  · exact thenE_ret (outF_ret (by k_extra "gp") (less_fold (pick6 (.tail .head) (.tail .head) (.tail .head) (.tail .head) (.tail .head) (.tail .head)) (ix_of (I := I) hvs hkv) (by k_extra "gl")) (k0 (hk_a (by assumption)) _))
  · exact thenE_ret (outF_ret (by k_extra "gp") (less_fold (pick6 (.tail (.tail (.tail (.tail .head)))) (.tail (.tail (.tail (.tail .head)))) (.tail (.tail (.tail (.tail .head)))) (.tail (.tail (.tail (.tail .head)))) (.tail (.tail (.tail (.tail .head)))) (.tail (.tail (.tail (.tail .head))))) (ix_of (I := I) hvs hkv) (by k_extra "gl")) (k0 (hk_b (by assumption)) _))
  · exact thenE_ret (outF_ret (by k_extra "gp") (less_fold (pick6 (.tail (.tail (.tail (.tail .head)))) (.tail (.tail (.tail (.tail .head)))) (.tail (.tail (.tail (.tail .head)))) (.tail (.tail (.tail (.tail .head)))) (.tail (.tail (.tail (.tail .head)))) (.tail (.tail (.tail (.tail .head))))) (ix_of (I := I) hvs hkv) (by k_extra "gl")) (k0 (hk_c (by assumption)) _))
  all_goals (have hZ : List.take (Int.toNat 24) cs = cs.take 24 := rfl)
  · exact thenE_ret (outF_ret (by k_extra "gp") (less_fold (pick6 (.tail (.tail (.tail (.tail (.tail .head))))) (.tail (.tail (.tail (.tail (.tail .head))))) (.tail (.tail (.tail (.tail (.tail .head))))) (.tail (.tail (.tail (.tail (.tail .head))))) (.tail (.tail (.tail (.tail (.tail .head))))) (.tail (.tail (.tail (.tail (.tail .head)))))) (ix_of (I := I) hvs hkv) (by k_extra "gl")) (k0 (hk_d2 hZ (of_nt (by assumption))) _))
  have hok := hk_e2 hZ (by assumption) (by assumption) (by assumption) (of_nf (by assumption))
  refine thenE_next (goE_if ?_)
  repeat' k_extra "g"
  · refine goE_seq (goE_raise A' hf' (cls51 w) rfl ?_)
    repeat' k_extra "g"
    exact ⟨_, _, rfl, .head, outE_of (.cons .head (.cons (by k_extra "gp") .nil)) (less_fold (pick6 (.tail (.tail (.tail (.tail (.tail .head))))) (.tail (.tail (.tail (.tail (.tail .head))))) (.tail (.tail (.tail (.tail (.tail .head))))) (.tail (.tail (.tail (.tail (.tail .head))))) (.tail (.tail (.tail (.tail (.tail .head))))) (.tail (.tail (.tail (.tail (.tail .head)))))) (ix_of (I := I) hvs hkv) (by k_extra "gl")) (k2 hok (by assumption) _ _)⟩
  · refine thenE_next (Go.toE ?_)
    repeat' k_extra "g"
    refine' outF_ret ?hp ?hl (k1 hok (by assumption) _)
    case hp => k_extra "gp"
    exact (.fold (.cons (.tail .head) .nil) (hold1 (r' := prR _ (some (wd cs 4, wd cs 5))) (fun l h => ⟨_, .cons _ _ (.cons _ _ .nil), h⟩)) (less_fold (pick6 (.tail .head) (.tail (.tail (.tail (.tail (.tail (.tail .head)))))) (.tail (.tail (.tail (.tail (.tail (.tail .head)))))) (.tail (.tail (.tail (.tail (.tail (.tail .head)))))) .head (.tail .head)) (ix_of (I := I.read cs) hvs (by rw [hsu] at hkv; exact hkv)) (by k_extra "gl")))
/-- _law_heard: what read_head answers, None where it raises -/
theorem heard_g {wl dk fl ix : Addr} {q : Nat} {size : Int} {I : Ix} {ks cs : List Int} {ls : Fms} {K : Kt Value} (A : At w c sc 8) (ok : FrsOk c.outer ls) (hz : ks.length ≤ 1000)
    (hc : sl ks (some 0) (some (0 + 32)) = cs) (hcl : (cs.length : Int) ≤ 32) (hsu : cnB I.sums = 10)
    (k0 : headOk cs = false → ∀ τ, K (.bool false) ⟨τ, m, frsR ls :: ixR w ix I :: fileR w fl dk q ks :: walR w wl dk fl ix size :: n⟩)
    (k1 : headOk cs = true → wd cs 2 = size → ∀ τ, K (.bool true) ⟨τ, m, frsR ls :: ixR w ix (I.read cs) :: fileR w fl dk q ks :: walR w wl dk fl ix size :: n⟩)
    (k2 : headOk cs = true → wd cs 2 ≠ size → ∀ τ, K .none ⟨τ, m, frsR ls :: ixR w ix I :: fileR w fl dk q ks :: walR w wl dk fl ix size :: n⟩) :
    Go w c ⟨τ, m, frsR ls :: walR w wl dk fl ix size :: ixR w ix I :: fileR w fl dk q ks :: n⟩ (call (.ref 755) [.ref wl] []) K := by
  refine' go_defF true (.inl rfl) (mp := [(Str.ofString "log", _)]) (by with_reducible assumption) (by with_reducible assumption) ?qho ?qhc ?qhb ?_ ?qhl ?qco ?qge ?qhk ?qce
  case qho => k_is
  case qhc => k_is
  case qhb => rfl
  case qhl => rfl
  case qco => rfl
  case qge => rfl
  case qhk => rfl
  case qce => rfl
  intro c' τ' F' A' hx' hf' ha' ok'
  try rw [hf] at hf'
  refine go_try A' hf' ok' (by k_is) (cls51 w) (goE_return (goE_method ?_))
  repeat' k_extra "g"
  refine goE_callWithM A' (by k_is) ?_
  repeat' k_extra "g"
  refine rheadE_g A'.mono ok' hz hc hcl hsu (fun h τ => ?_) (fun h h2 τ => ?_) (fun h h2 e τ => ?_)
  · exact ⟨(fun e => nomatch e), outF_ret .head .refl (k0 h _)⟩
  · exact ⟨(fun e => nomatch e), outF_ret .head .refl (k1 h h2 _)⟩
  · exact ⟨e, _, rfl, .cons (.tail .head) (.cons .head .nil), outF_ret .head .refl (k2 h h2 _)⟩
end

end

-- g_hright.lean
section
theorem words_8 {cs : List Int} (h : cs.length = 32) : words cs = [wd cs 0, wd cs 1, wd cs 2, wd cs 3, wd cs 4, wd cs 5, wd cs 6, wd cs 7] := by
  have e2 : pad8 cs = cs := pad8_of0 (by rw [h]; decide)
  unfold words
  rw [e2, h]
  rfl
/-- the octets are a whole head with right sums -/
noncomputable def wholeB (cs : List Int) : Bool := decide (cs.length = 32) && (wd cs 6 == (sums (cs.take 24) (0, 0)).1 && wd cs 7 == (sums (cs.take 24) (0, 0)).2)
theorem headOk_whole {cs : List Int} (h : cs.length ≤ 32) : headOk cs = (wholeB cs && (wd cs 0 == 931071618 && wd cs 1 == 3007000)) := by
  unfold headOk wholeB
  by_cases h1 : cs.length = 32
  · rw [decide_eq_true (show 32 ≤ cs.length by omega), decide_eq_true h1]
    cases wd cs 0 == 931071618 <;> cases wd cs 1 == 3007000 <;> cases wd cs 6 == (sums (cs.take 24) (0, 0)).1 <;> cases wd cs 7 == (sums (cs.take 24) (0, 0)).2 <;> rfl
  · rw [decide_eq_false (show ¬ 32 ≤ cs.length by omega), decide_eq_false h1]
    rfl
theorem eqv_kept {a b x y z : Int} : PyData.eqv (.tuple [.int a, .tuple [.int b, .int x], .tuple [.int y, .int z]]) (.tuple [.int a, .tuple [.int b, .int x], .tuple [.int y, .int z]]) = true := by simp [PyData.eqv, PyData.eqvAll]
section
local macro_rules | `(tactic| k_extra "gc") => `(tactic| revert go_tupleL go_newListI go_eqL2 go_neBool cutL_from cutL_upto ite_bt ite_bf)
local macro_rules | `(tactic| k_extra "gc") => `(tactic| first
  | ((with_reducible show Go _ _ _ (execs (Stmt.If _ _ _ _ :: _) _) _); with_reducible refine' stop_of ?_)
  | ((with_reducible show Go _ _ _ (eval (Expr.BoolOp BoolOp.And _ _) _) _); with_reducible refine' stop_of ?_)
  | ((with_reducible show Go _ _ _ (eval (Expr.Subscript (Expr.Name (Str.ofString "words") _) (Expr.Slice _ _ _ _) _) _) _); with_reducible refine' go_sliceL ?_))
theorem hright_g {r : Addr} {size : Int} {t : Tok} {K : Kt Value} (A : At w c sc 15) (hf : c.any = false) (hout : c.outer = []) (hs0 : 8 ≤ size) (hs1 : size ≤ 40) (k : ∀ τ, K (.bool true) ⟨τ, m, Src r :: n⟩) : Go w c ⟨τ, m, Src r :: n⟩ (call (.ref 762) [.ref r, .int size t] []) K := by
  have ok : FrsOk c.outer [] := by rw [hout]; exact .nil
  refine go_post (go_fold (r := frsR []) .nil frs_nil ?_)
  refine' go_defF c.any (.inr rfl) (mp := [(Str.ofString "size", _), (Str.ofString "source", _)]) (by with_reducible assumption) (by with_reducible assumption) ?qho ?qhc ?qhb ?_ ?qhl ?qco ?qge ?qhk ?qce
  case qho => k_is
  case qhc => k_is
  case qhb => rfl
  case qhl => rfl
  case qco => rfl
  case qge => rfl
  case qhk => rfl
  case qce => rfl
  intro c' τ' F' A' hx' hf' ha' ok'
  try rw [hf] at hf'
  repeat' k_extra "g"
  rename_i nu tnu _ nu0 nu1 s0 ts0 _ s00 s01 s1 ts1 _ s10 s11 S D dk fs sh _ wl _ _ _ _ fl ix _ wy twy _ wy0 wy1 v0 _ hv0 _
  have hI : In32 [nu, s0, s1] := in32_c (by omega) (in32_c (by omega) (in32_c (by omega) in32_n))
  clear nu0 nu1 s00 s01 s10 s11
  generalize hhl : headL nu size s0 s1 = h0 at hv0
  have hl0 : h0.length = 32 := by rw [← hhl]; exact headL_len
  unfold Stop
  refine go_ifJ (fun m' n' => ∃ v cs, m' = [(Str.ofString "told", v), (Str.ofString "way", Value.int wy twy), (Str.ofString "log", Value.ref wl), (Str.ofString "salts", Value.ref S), (Str.ofString "number", Value.int nu tnu), (Str.ofString "size", Value.int size t), (Str.ofString "source", Value.ref r)] ∧ n' = Src r :: tupI S [s0, s1] :: ixR w ix ⟨0, 0, 0, none, some (0, 0)⟩ :: fileR w fl dk 0 [] :: walR w wl dk fl ix size :: diskR w dk fs sh :: frsR [(c.L, F')] :: n ∧ IsB v cs ∧ cs.length ≤ 32) ?_ ?_
  · repeat' k_extra "g"
    · exact join_of (by k_extra "gmap") (by k_extra "gl") ⟨_, _, rfl, rfl, by with_reducible assumption, by simp only [List.length_append, List.length_take, List.length_drop, List.length_cons, List.length_nil]; omega⟩
    · exact join_of (by k_extra "gmap") (by k_extra "gl") ⟨_, _, rfl, rfl, hv0, by omega⟩
  clear hv0 hl0 hhl
  rintro τ m' n' ⟨v, cs, rfl, rfl, hv, hcs⟩
  refine go_ifJ (fun m' n' => ∃ v cs, m' = [(Str.ofString "told", v), (Str.ofString "way", Value.int wy twy), (Str.ofString "log", Value.ref wl), (Str.ofString "salts", Value.ref S), (Str.ofString "number", Value.int nu tnu), (Str.ofString "size", Value.int size t), (Str.ofString "source", Value.ref r)] ∧ n' = Src r :: tupI S [s0, s1] :: ixR w ix ⟨0, 0, 0, none, some (0, 0)⟩ :: fileR w fl dk 0 [] :: walR w wl dk fl ix size :: diskR w dk fs sh :: frsR [(c.L, F')] :: n ∧ IsB v cs ∧ cs.length ≤ 32) ?_ ?_
  · repeat' k_extra "g"
    · exact join_of (by k_extra "gmap") (by k_extra "gl") ⟨_, _, rfl, rfl, by with_reducible assumption, by rw [headL_len]; exact Nat.le_refl _⟩
    · exact join_of (by k_extra "gmap") (by k_extra "gl") ⟨_, _, rfl, rfl, hv, hcs⟩
  clear hv hcs v cs
  rintro τ m' n' ⟨v, cs, rfl, rfl, hv, hcs⟩
  refine go_ifJ (fun m' n' => ∃ v cs, m' = [(Str.ofString "told", v), (Str.ofString "log", Value.ref wl), (Str.ofString "size", Value.int size t)] ∧ n' = Src r :: ixR w ix ⟨0, 0, 0, none, some (0, 0)⟩ :: fileR w fl dk 0 [] :: walR w wl dk fl ix size :: diskR w dk fs sh :: frsR [(c.L, F')] :: n ∧ IsB v cs ∧ cs.length ≤ 32) ?_ ?_
  · repeat' k_extra "g"
    · exact join_of (by k_extra "gmap") (by k_extra "gl") ⟨_, _, rfl, rfl, by with_reducible assumption, by rw [sl_part]; simp only [List.length_take, List.length_drop]; omega⟩
    · exact join_of (by k_extra "gmap") (by k_extra "gl") ⟨_, _, rfl, rfl, hv, hcs⟩
  clear hv hcs v cs
  rintro τ m' n' ⟨v, cs, rfl, rfl, hv, hcs⟩
  clear wy0 wy1
  repeat' k_extra "g"
  rename_i DW _
  rw [put0]
  unfold Stop
  refine go_evJ (fun v' n' => v' = .bool (wholeB cs) ∧ n' = lstI DW (words cs) :: fileR w fl dk (0 + 1) cs :: Src r :: ixR w ix ⟨0, 0, 0, none, some (0, 0)⟩ :: walR w wl dk fl ix size :: frsR [(c.L, F')] :: n) ?_ ?_
  · by_cases h32 : cs.length = 32
    · have hb : ((cs.length : Int) == 32) = true := by rw [h32]; rfl
      rw [words_8 h32]
      refine go_and2 ?_
      repeat' k_extra "g"
      rw [show List.drop (Int.toNat 6) [wd cs 0, wd cs 1, wd cs 2, wd cs 3, wd cs 4, wd cs 5, wd cs 6, wd cs 7] = [wd cs 6, wd cs 7] from rfl]
      repeat' k_extra "g"
      exact ⟨rfl, _, by k_extra "gl", by unfold wholeB; rw [decide_eq_true h32]; rfl, rfl⟩
    · have hb : ((cs.length : Int) == 32) = false := beq_eq_false_iff_ne.mpr (by omega)
      refine go_and2 ?_
      repeat' k_extra "g"
      exact ⟨rfl, _, by k_extra "gl", by rw [hb]; unfold wholeB; rw [decide_eq_false h32]; rfl, rfl⟩
  rintro v' τ n' ⟨rfl, rfl⟩
  repeat' k_extra "g"
  unfold Stop
  refine go_evJ (fun v' n' => v' = .bool (headOk cs) ∧ n' = lstI DW (words cs) :: fileR w fl dk (0 + 1) cs :: Src r :: ixR w ix ⟨0, 0, 0, none, some (0, 0)⟩ :: walR w wl dk fl ix size :: frsR [(c.L, F')] :: n) ?_ ?_
  · cases hW : wholeB cs with
    | false =>
      refine go_and2 ?_
      repeat' k_extra "g"
      exact ⟨rfl, _, by k_extra "gl", by rw [headOk_whole hcs, hW]; rfl, rfl⟩
    | true =>
      have h32 : cs.length = 32 := by unfold wholeB at hW; simp only [Bool.and_eq_true, decide_eq_true_eq] at hW; exact hW.1
      rw [words_8 h32]
      refine go_and2 ?_
      repeat' k_extra "g"
      rw [show List.take (Int.toNat 2) [wd cs 0, wd cs 1, wd cs 2, wd cs 3, wd cs 4, wd cs 5, wd cs 6, wd cs 7] = [wd cs 0, wd cs 1] from rfl]
      repeat' k_extra "g"
      exact ⟨rfl, _, by k_extra "gl", by rw [headOk_whole hcs, hW, Bool.true_and], rfl⟩
  rintro v' τ n' ⟨rfl, rfl⟩
  repeat' k_extra "g"
  unfold Stop
  have hc : sl cs (some 0) (some (0 + 32)) = cs := by
    rw [sl_part]
    show List.take (clipAt cs.length (0 + 32) - clipAt cs.length 0) (List.drop (clipAt cs.length 0) cs) = cs
    rw [show clipAt cs.length 0 = 0 from clip_in (by decide) (by omega), List.drop_zero]
    refine List.take_of_length_le ?_
    unfold clipAt
    split <;> omega
  cases hR : headOk cs with
  | false =>
    refine go_if ?_
    repeat' k_extra "g"
    unfold Stop
    refine go_if ?_
    repeat' k_extra "g"
    refine go_pick (r := fileR w fl dk _ cs) (by k_extra "gp") (go_pick (r := ixR w ix _) (by k_extra "gp") (go_pick (r := walR w wl dk fl ix size) (by k_extra "gp") (go_pick (r := frsR [(c.L, F')]) (by k_extra "gp") ?_)))
    refine heard_g A'.mono ok' (by omega) hc (by omega) rfl (fun _ τ => ?_) (fun h => absurd (hR.symm.trans h) (by decide)) (fun h => absurd (hR.symm.trans h) (by decide))
    refine go_pick (.tail .head) (go_ixR fun fr pl cu sa su t1 t2 v1 v2 v3 vs kvs hvs hkv => ?_)
    repeat' k_extra "g"
    exact outF_ret (by k_extra "gp") (n2 := Src r :: n) (by k_extra "gl") ⟨_, .skip .refl, k _⟩
  | true =>
    have h32 : cs.length = 32 := by have := hR; unfold headOk at this; simp only [Bool.and_eq_true, decide_eq_true_eq] at this; omega
    have h67 : wd cs 6 = (sums (cs.take 24) (0, 0)).1 ∧ wd cs 7 = (sums (cs.take 24) (0, 0)).2 := by have := hR; unfold headOk at this; simp only [Bool.and_eq_true, beq_iff_eq] at this; exact this.2
    rw [words_8 h32]
    refine go_if ?_
    repeat' k_extra "g"
    · refine go_pick (r := fileR w fl dk _ cs) (by k_extra "gp") (go_pick (r := ixR w ix _) (by k_extra "gp") (go_pick (r := walR w wl dk fl ix size) (by k_extra "gp") (go_pick (r := frsR [(c.L, F')]) (by k_extra "gp") ?_)))
      refine heard_g A'.mono ok' (by omega) hc (by omega) rfl (fun h => absurd (hR.symm.trans h) (by decide)) (fun _ h2 => absurd h2 (by assumption)) (fun _ _ τ => ?_)
      repeat' k_extra "g"
      exact outF_ret (by k_extra "gp") (n2 := Src r :: n) (by k_extra "gl") ⟨_, .skip .refl, k _⟩
    · unfold Stop
      refine go_if ?_
      repeat' k_extra "g"
      refine go_pick (r := fileR w fl dk _ cs) (by k_extra "gp") (go_pick (r := ixR w ix _) (by k_extra "gp") (go_pick (r := walR w wl dk fl ix size) (by k_extra "gp") (go_pick (r := frsR [(c.L, F')]) (by k_extra "gp") ?_)))
      refine heard_g A'.mono ok' (by omega) hc (by omega) rfl (fun h => absurd (hR.symm.trans h) (by decide)) (fun _ _ τ => ?_) (fun _ h2 => absurd (by assumption) h2)
      rw [show Ix.read ⟨0, 0, 0, none, some (0, 0)⟩ cs = ⟨0, 0, wd cs 3, some (wd cs 4, wd cs 5), some (wd cs 6, wd cs 7)⟩ by unfold Ix.read; rw [h67.1, h67.2]]
      refine go_pick (.tail .head) (go_ixR fun fr pl cu sa su t1 t2 v1 v2 v3 vs kvs hvs hkv => ?_)
      dsimp only [prR]
      repeat' k_extra "g"
      refine go_eqD A' (da := .tuple [.int (wd cs 3), .tuple [.int (wd cs 4), .int (wd cs 5)], .tuple [.int (wd cs 6), .int (wd cs 7)]]) (db := .tuple [.int (wd cs 3), .tuple [.int (wd cs 4), .int (wd cs 5)], .tuple [.int (wd cs 6), .int (wd cs 7)]]) (data_tupO (by k_extra "gm") (by k_extra "gd")) (data_tupO (by k_extra "gm") (by k_extra "gd")) rfl rfl ?_
      rw [eqv_kept]
      exact outF_ret (by k_extra "gp") (n2 := Src r :: n) (by k_extra "gl") ⟨_, .skip .refl, k _⟩
end
theorem hright_p {r : Addr} {size : Int} {t : Tok} {K : Kt Value} {p0 : List Res} (A : At w c sc 15) (hp0 : Pick (Src r) p0 n) (hf : c.any = false) (hout : c.outer = []) (hs0 : 8 ≤ size) (hs1 : size ≤ 40) (k : ∀ τ, K (.bool true) ⟨τ, m, Src r :: n⟩) : Go w c ⟨τ, m, p0⟩ (call (.ref 762) [.ref r, .int size t] []) K :=
  go_pick (hp0) <| hright_g A hf hout hs0 hs1 k

end

-- g_law.lean
section
section
local macro_rules | `(tactic| k_extra "gc") => `(tactic| revert tright_g pool_g go_newListI fright_p hright_p go_lenG)
theorem law_top {l : Addr} {vs : List Value} {ks : List Int} {s : Shared} {mean : ExcName → Option Value} {mg mb : Str → Option Value} {Q E : Value → Shared → Prop} (X : (Mine.hd.heap_39 w.params).In s.heap) (T : Top vw Mine.lv mean mg mb s.heap) (hL : s.heap.IsList l vs.toArray) (hI : IntsAre vs ks) (hz : ks.length ≤ 63)
    (hQ : ∀ h' tk, (∀ b o, s.heap.get? b = some o → h'.get? b = some o) → Q (.bool true) { s with heap := h', toks := tk }) : wpC (model pw w) callerA (call (.ref 776) [.ref l]) Q E s := by
  refine' go_top (mp := [(Str.ofString "script", .ref l)]) X T hL hI ?qho ?qhc ?qhb ?_ hQ ?qhl ?qco ?qge ?qhk ?qce
  case qho => k_is
  case qhc => k_is
  case qhb => rfl
  case qhl => rfl
  case qco => rfl
  case qge => rfl
  case qhk => rfl
  case qce => rfl
  intro c' τ' A' hx' hf' ha' ho'
  repeat' k_extra "g"
  generalize hB : (if (if (ks.length : Int) < 2 then (ks.length : Int) else 2) > 1 then (if (ks.length : Int) < 2 then (ks.length : Int) else 2) else 1) = B
  have hB2 : B = 1 ∨ B = 2 := by
    rw [← hB]
    by_cases h : (ks.length : Int) < 2
    · rw [if_pos h]
      by_cases h2 : (ks.length : Int) > 1
      · omega
      · rw [if_neg h2]; exact .inl rfl
    · rw [if_neg h]; exact .inr (if_pos (by decide))
  have hNs : Builtin.Range.small 0 B 1 = true ∧ Builtin.Range.rangeSize 0 B 1 = ((B.toNat : Nat) : Int) := by
    rcases hB2 with rfl | rfl <;> decide
  refine iter_range (N := B.toNat) (fun i m' n' => m' = [(Str.ofString "script", .ref l)] ∧ n' = []) A' hx' hf' (by k_extra "gm") hNs.1 hNs.2 (by k_extra "gmap") (by k_extra "gl") ⟨rfl, rfl⟩ ?_ ?_ rfl
  · rintro i t τ m' n' r hi ⟨rfl, rfl⟩
    have hi2 : i < 2 := by rcases hB2 with rfl | rfl <;> omega
    repeat' k_extra "g"
    exact turn_next (by k_extra "gmap") (by k_extra "gp") (by k_extra "gl") ⟨rfl, rfl⟩
  · rintro τ m' n' ⟨rfl, rfl⟩
    repeat' k_extra "g"
    rfl
end

end
end
end Mine
open PySem PySem.W PySem.Calls PyProof.Rows
set_option maxRecDepth 100000
set_option maxHeartbeats 4000000
set_option Elab.async false
theorem Mine.filled_end : (fun (_ : OpenLaw) (_ : Params → Frag) => True) PySem.Challenge.rw_xw0240_01 Mine.hd.heap_39 := by k_fill; exact trivial
theorem PySem.Challenge.cw_xw0240_01_holds : PySem.Challenge.rw_xw0240_01.Holds := by
  refine Mine.hd ?_
  intro w s₀ s₁ mg mb G Y fa o pm cd doc dV kV ho hd hcd hD hmg hg args vals as hpre hlay hrd hwl hlo
  have KX := kIn_of Y
  refine Ground.open G ?_
  intro T B D TE TW
  have e : mg (Str.ofString "law") = some (.ref 776) := mg_of KX (topRead_of T).g (by k_is)
  obtain rfl : fa = 776 := by
    have := hmg.symm.trans e
    simpa using this
  clear ho hd hcd hD hmg
  wrow_args hpre hlay hrd hwl hlo
  refine Mine.law_top KX T (by assumption) (by assumption) (by omega) fun h' tk hk => ?_
  exact ⟨.inl ⟨.bool true, .bool true, [], rfl, fun _ => rfl, .bool true, by first | with_unfolding_all rfl | kernel_rfl | decide +kernel, fun _ => ⟨List.nodup_nil, fun _ h => nomatch h⟩⟩, .of_keep hk, rfl, .of_eq hg⟩
