import PyProof.Rows.All
import Wide.All
import OpenK.AllK
import Wide.FinOn
import PySem.Challenge.RW_tk0058_01
set_option Elab.async false
set_option maxRecDepth 100000
set_option linter.all false
set_option compiler.extract_closed false
set_option genSizeOf false
set_option genInjectivity false
namespace Mine
inductive Ex2.{u1, u2} {α1 : Sort u1} {α2 : Sort u2} (P : α1 → α2 → Prop) : Prop where
  | mk (a1 : α1) (a2 : α2) (h : P a1 a2) : Ex2 P
inductive Ex3.{u1, u2, u3} {α1 : Sort u1} {α2 : Sort u2} {α3 : Sort u3} (P : α1 → α2 → α3 → Prop) : Prop where
  | mk (a1 : α1) (a2 : α2) (a3 : α3) (h : P a1 a2 a3) : Ex3 P
inductive Ex4.{u1, u2, u3, u4} {α1 : Sort u1} {α2 : Sort u2} {α3 : Sort u3} {α4 : Sort u4} (P : α1 → α2 → α3 → α4 → Prop) : Prop where
  | mk (a1 : α1) (a2 : α2) (a3 : α3) (a4 : α4) (h : P a1 a2 a3 a4) : Ex4 P
inductive Ex5.{u1, u2, u3, u4, u5} {α1 : Sort u1} {α2 : Sort u2} {α3 : Sort u3} {α4 : Sort u4} {α5 : Sort u5} (P : α1 → α2 → α3 → α4 → α5 → Prop) : Prop where
  | mk (a1 : α1) (a2 : α2) (a3 : α3) (a4 : α4) (a5 : α5) (h : P a1 a2 a3 a4 a5) : Ex5 P
inductive Ex6.{u1, u2, u3, u4, u5, u6} {α1 : Sort u1} {α2 : Sort u2} {α3 : Sort u3} {α4 : Sort u4} {α5 : Sort u5} {α6 : Sort u6} (P : α1 → α2 → α3 → α4 → α5 → α6 → Prop) : Prop where
  | mk (a1 : α1) (a2 : α2) (a3 : α3) (a4 : α4) (a5 : α5) (a6 : α6) (h : P a1 a2 a3 a4 a5 a6) : Ex6 P
inductive An2 (p1 p2 : Prop) : Prop where
  | mk (h1 : p1) (h2 : p2) : An2 p1 p2
inductive An3 (p1 p2 p3 : Prop) : Prop where
  | mk (h1 : p1) (h2 : p2) (h3 : p3) : An3 p1 p2 p3
inductive An4 (p1 p2 p3 p4 : Prop) : Prop where
  | mk (h1 : p1) (h2 : p2) (h3 : p3) (h4 : p4) : An4 p1 p2 p3 p4
inductive An5 (p1 p2 p3 p4 p5 : Prop) : Prop where
  | mk (h1 : p1) (h2 : p2) (h3 : p3) (h4 : p4) (h5 : p5) : An5 p1 p2 p3 p4 p5
inductive An6 (p1 p2 p3 p4 p5 p6 : Prop) : Prop where
  | mk (h1 : p1) (h2 : p2) (h3 : p3) (h4 : p4) (h5 : p5) (h6 : p6) : An6 p1 p2 p3 p4 p5 p6
inductive An7 (p1 p2 p3 p4 p5 p6 p7 : Prop) : Prop where
  | mk (h1 : p1) (h2 : p2) (h3 : p3) (h4 : p4) (h5 : p5) (h6 : p6) (h7 : p7) : An7 p1 p2 p3 p4 p5 p6 p7
inductive An8 (p1 p2 p3 p4 p5 p6 p7 p8 : Prop) : Prop where
  | mk (h1 : p1) (h2 : p2) (h3 : p3) (h4 : p4) (h5 : p5) (h6 : p6) (h7 : p7) (h8 : p8) : An8 p1 p2 p3 p4 p5 p6 p7 p8
inductive An10 (p1 p2 p3 p4 p5 p6 p7 p8 p9 p10 : Prop) : Prop where
  | mk (h1 : p1) (h2 : p2) (h3 : p3) (h4 : p4) (h5 : p5) (h6 : p6) (h7 : p7) (h8 : p8) (h9 : p9) (h10 : p10) : An10 p1 p2 p3 p4 p5 p6 p7 p8 p9 p10
end Mine
section
open PySem PySem.W PyProof.Rows PySem.Spec PySem.Calls
namespace Mine
/-- the built-ins that may hold a bytearray while others run -/
def badIds : List String := ["bytearray.__contains__", "bytearray.__mod__", "bytearray.__rmod__", "_struct.pack_into.held", "bytearray.find.held"] ++ Builtin.Bytes.decodersThatHold
def okCode : Code → Bool
  | .builtin id _ => !badIds.contains id
  | _ => true
def Clean (Γ : PySem.Ctx) : Prop := okCode Γ.code = true ∧ ∀ c ∈ Γ.below, okCode c.1 = true
/-- as wpAny, but of activations alone under which no bytearray is held -/
def wpN {α : Type} (M : Model) (A : Around) (t : Sem α) (Q : α → Shared → Prop) (E : Value → Shared → Prop) (s : Shared) : Prop :=
  ∀ Γ p, Γ.In A → Clean Γ → Sem.wp M Γ t (fun a _ s' => Q a s') (fun e _ s' => E e s') p s
def codeN (M : Model) (A : Around) (c : Code) (R : Result → Shared → Prop) (s : Shared) : Prop :=
  ∀ Γ p, Γ.code = c → Γ.Below A → (∀ c ∈ Γ.below, okCode c.1 = true) → wpCode M Γ R p s
section
variable {α β : Type} {M : Model} {A : Around} {E : Value → Shared → Prop} {s : Shared}
theorem wpN_of_wpAny {t : Sem α} {Q : α → Shared → Prop} (h : wpAny M A t Q E s) : wpN M A t Q E s := fun Γ p hΓ _ => h Γ p hΓ
theorem wpN_pure {a : α} {Q : α → Shared → Prop} (h : Q a s) : wpN M A (pure a) Q E s := fun _ _ _ _ => h
theorem wpN_mono {t : Sem α} {Q Q' : α → Shared → Prop} {E' : Value → Shared → Prop} (h : wpN M A t Q E s)
    (hQ : ∀ a s, Q a s → Q' a s) (hE : ∀ e s, E e s → E' e s) : wpN M A t Q' E' s :=
  fun Γ p hΓ hc => Sem.wp_mono M Γ t (fun a _ s => hQ a s) (fun e _ s => hE e s) p s (h Γ p hΓ hc)
theorem wpN_bind {m : Sem α} {f : α → Sem β} {Q : β → Shared → Prop} (h : wpN M A m (fun a s' => wpN M A (f a) Q E s') E s) :
    wpN M A (m >>= f) Q E s := fun Γ p hΓ hc => by
  rw [Sem.wp_bind']
  exact Sem.wp_mono M Γ m (fun a p' s' h' => h' Γ p' hΓ hc) (fun _ _ _ h' => h') p s (h Γ p hΓ hc)
/-- the first half by the library's rules -/
theorem wpN_bindA {m : Sem α} {f : α → Sem β} {Q : β → Shared → Prop} (h : wpAny M A m (fun a s' => wpN M A (f a) Q E s') E s) :
    wpN M A (m >>= f) Q E s := wpN_bind (wpN_of_wpAny h)
end

theorem caller_clean : Clean ⟨.builtin "claim.caller" {}, none, none, [], none⟩ := ⟨by decide +kernel, fun _ h => nomatch h⟩
theorem thread_endsN {prog : Program} {w : World} {t : Sem Fin} {s : Shared} {R : Result → Shared → Prop} (hreg : s.asleep)
    (h : wpN (model prog w) callerA t (fun fin s' => ∃ f, fin = .done f ∧ (R (.ok f) s' ∧ leftWithCleanup s'.gens = false)) (fun e s' => R (.error e) s' ∧ leftWithCleanup s'.gens = false) s) :
    Ex4 fun n r s' s'' => An4 (runN (denote table) prog w n s ⟨t, .builtin "claim.caller" {}, default, []⟩ = .halted (outcomeOf r) s')
      (schedN (denote table) prog w n (.single s ⟨t, .builtin "claim.caller" {}, default, []⟩) = .halted (outcomeOf r) s') (s'.forget = s''.forget) (R r s'') := by
  obtain ⟨n, r, s₁, s₂, hs, hn, hfo, hR⟩ := wp_halts_full (M := model prog w) (R := R) hreg (c := .builtin "claim.caller" {}) (t := t) (by
    refine Sem.wp_mono _ _ t (fun fin p' s' h' => ?_) (fun _ _ _ h' => h') default s (h _ default caller_in caller_clean)
    obtain ⟨f, rfl, hf⟩ := h'
    exact hf)
  exact ⟨n, r, s₂, s₁, hn, hs, hfo, hR⟩
theorem callFrom_of_specN {c : ClaimW} {tree : List Value → Sem Fin} {w : World} {s : Shared} {free : Addr → Prop} {gens : Prop} {kept : Heap → Prop} (hz : s.asleep) (hgens : s.gens = #[])
    (hspec : ∀ args, c.pre args = true → WData.layableAll args = true →
      ∀ ord : List DictEntry → List DictEntry, (∀ l, (ord l).Perm l) →
      ∃ vs s₁, layAllW c.records (classAt s.heap) w.params ord args s = some (vs, s₁) ∧
        wpN (model c.prog w) callerA (tree vs) (fun fin s' => ∃ f, fin = .done f ∧ (c.Ends s args vs s₁ (.ok f) s' ∧ s'.os = s.os ∧ AllBare s'.gens ∧ kept s'.heap))
          (fun e s' => c.Ends s args vs s₁ (.error e) s' ∧ s'.os = s.os ∧ AllBare s'.gens ∧ kept s'.heap) s₁) :
    c.CallFrom (fun vs => ⟨tree vs, .builtin "claim.caller" {}, default, []⟩) w free gens kept s := by
  intro args hpre hlay ord hord
  obtain ⟨vs, s₁, hlaid, hcode⟩ := hspec args hpre hlay ord hord
  have hal := layAllW_rest _ _ _ hlaid
  obtain ⟨k, r, s', s'', hrun, hsched, hfo, hR⟩ := thread_endsN (prog := c.prog) (w := w) (t := tree vs) (s := s₁)
    (R := fun r s' => c.Ends s args vs s₁ r s' ∧ s'.os = s.os ∧ kept s'.heap)
    (Shared.asleep_of_life hal.2.2.2 hz)
    (wpN_mono hcode (fun fin s' => Exists.imp fun f h => ⟨h.1, ⟨h.2.1, h.2.2.1, h.2.2.2.2⟩, leftWithCleanup_false_of_bare h.2.2.2.1⟩) fun e s' h => ⟨⟨h.1, h.2.1, h.2.2.2⟩, leftWithCleanup_false_of_bare h.2.2.1⟩)
  have eh := (Shared.forget_eq hfo).1
  have eo := (Shared.forget_eq hfo).2.2.2.1
  have hcase := hR.1.congr eh
  have hkp : kept s'.heap := eh.symm ▸ hR.2.2
  have hos := eo.trans hR.2.1
  have hlife : s'.heap.life = s.heap.life := (runN_life _ _ _ hrun).trans hal.2.2.2
  refine ⟨vs, s₁, hlaid, k, _, s', hsched, ?_, (fun _ i x hx => by rw [hgens] at hx; simp at hx), hkp, by rw [hlife], Shared.rest_eq hos⟩
  exact hcase.imp (Exists.imp fun v h => ⟨congrArg outcomeOf h.1, h.2.1, h.2.2.1, h.2.2.2.1, fun b o y _ => h.2.2.2.2.1 b o y, h.2.2.2.2.2⟩) (Exists.imp fun e => Exists.imp fun ob => Exists.imp fun cls h => ⟨congrArg outcomeOf h.1, h.2.1, h.2.2.1, h.2.2.2.1, h.2.2.2.2.1, fun b o y _ => h.2.2.2.2.2 b o y⟩)

abbrev WalkM (q : Program) (loose : List Str) (XP : (Str → Option Value) → Heap → Prop) (YP : World → Heap → Prop) (r : RowW) (d : DefRec) (kwd : List (Str × Expr)) (run : Value → List Value → Sem Value) : Prop :=
  ∀ (w : World) (s₀ s₁ : Shared) (mg mb : Str → Option Value), Ground q loose r.records XP w s₀ mg mb s₁.heap → YP w s₁.heap → ∀ (a : Addr) (o : Obj) (pm cd doc dV kV : Value), s₁.heap.get? a = some o →
    o.data = .func { docDef d.name d.params d.body d.scope pm cd doc with defaults := dV, kwdefaults := kV } → s₁.heap.CodeRec cd d.name → Dflts mg s₁.heap d.params kwd dV kV → mg d.name = some (.ref a) → s₁.gens = #[] →
    ∀ (args : List WData) (vals : List Value) (as : List Addr), r.claim.pre args = true → WData.layableAll args = true → ReadsAllW r.records (classAt s₀.heap) s₁.heap vals args as → WellAll w.params s₁.heap vals args → (∀ a ∈ as, (a == sysModules) = false) →
      wpN (model r.prog w) callerA (run (.ref a) vals) (fun v s' => GoodWG r.claim (classAt s₀.heap) (ExcName.means s₀.heap) args s₁ (.ok (.ret v)) s')
        (fun e s' => GoodWG r.claim (classAt s₀.heap) (ExcName.means s₀.heap) args s₁ (.error e) s') s₁

theorem open_anyM {r : RowW} {run : Value → List Value → Sem Value} {tree : List Value → Sem Fin} {q : Program} {loose defs kps : List Str} {writes : Bool} {Xt : Shared → Bool} {XP : (Str → Option Value) → Heap → Prop} {α : Type} {Yf : Shared → α} {Ya : World → α} {YP : World → Heap → Prop} {N : Nat}
    (left : LeftO r.prog q loose Xt Yf Ya N) (hY : ∀ w s, Yf s = Ya w → YP w s.heap) (hYk : ∀ w h h', YP w h → (∀ b o, h.get? b = some o → h'.get? b = some o) → YP w h') (hX : ∀ s, Xt s = true → XP (s.heap.nsMap mainGlobals) s.heap) (hXk : ∀ mg h h', XP mg h → (∀ b o, h.get? b = some o → h'.get? b = some o) → XP mg h')
    (hRf : ∀ s, Xt s = true → RecFacts r.records s.heap) (hwr : (!writes || r.records.isEmpty) = true) (ok : (chainsOk q && opensWell r.prog && (frees r && r.within.isEmpty)) = true) (hb : r.prog.bare) (hw : r.promised)
    (ht : ∀ vs (w : World) (s : Shared) mg f (Q : Fin → Shared → Prop) (E : Value → Shared → Prop), s.heap.Ns mainGlobals mg → mg r.name = some f → wpN (model r.prog w) callerA (run f vs) (fun v s' => Q (.done (.ret v)) s') E s → wpN (model r.prog w) callerA (tree vs) Q E s)
    (pin : ∀ w s, s.heap.isNs mainGlobals = true → Ground q loose [] XP w s (s.heap.nsMap mainGlobals) (s.heap.nsMap builtinsNs) s.heap → ∀ n ∈ defs, isTheDefsW r.prog s.heap n)
    (call : ∀ (w : World) (s₀ s₁ : Shared) (mg mb : Str → Option Value), Ground q loose r.records XP w s₀ mg mb s₁.heap → YP w s₁.heap → ∀ (args : List WData) (vs : List Value) (as : List Addr),
      r.claim.pre args = true → WData.layableAll args = true → Laid r.records w s₀ s₁ args vs as → sysModules < s₀.heap.objs.size → ∃ f, mg r.name = some f ∧
        wpN (model r.prog w) callerA (run f vs) (fun v s' => GoodWG r.claim (classAt s₀.heap) (ExcName.means s₀.heap) args s₁ (.ok (.ret v)) s')
          (fun e s' => GoodWG r.claim (classAt s₀.heap) (ExcName.means s₀.heap) args s₁ (.error e) s') s₁) : r.claim.HoldsOpenBy (fun vs => ⟨tree vs, .builtin "claim.caller" {}, default, []⟩) defs kps writes := by
  have ok2 := Bool.and_eq_true_iff.mp ok
  have ok3 := Bool.and_eq_true_iff.mp ok2.1
  have k5 := Bool.and_eq_true_iff.mp ok2.2
  have k6 := k5.2
  have fp := frees_parts k5.1
  have hch := ok3.1
  have o1 := ok3.2
  have hm := fp.2.2.2.2
  refine ⟨⟨hb, o1, by show r.makers.map _ = []; rw [hm]; rfl⟩, hw.witness, fun w => ⟨(left.behind hX hch w).1, fun s' hs' => ?_⟩⟩
  obtain ⟨s₀, A1⟩ := (left.behind (XP := fun mg h => XP mg h ∧ RecFacts r.records h) (fun s hs => ⟨hX s hs, hRf s hs⟩) hch w).2 s' hs'
  obtain ⟨s, A2⟩ := A1.2.2
  have G00 := A2.2.2.2.2.1
  have y := A2.2.2.2.2.2
  have hg := A2.2.2.2.1
  have G0 : Ground q loose [] XP w s (s.heap.nsMap mainGlobals) (s.heap.nsMap builtinsNs) s.heap := ⟨G00.T, G00.B, G00.D, G00.TE, G00.TD, G00.W, G00.X.1, G00.cls, G00.has, G00.apart, G00.once, G00.K⟩
  have RF := G00.X.2
  refine ⟨s₀, A1.1, A1.2.1, s, A2.1, pin w s hg G0, RF.1, RF.2.1, ?_⟩
  have hgens : s.gens = #[] := Array.eq_empty_of_size_eq_zero (beq_iff_eq.mp A2.2.2.1)
  have G : Ground q loose r.records XP w s _ _ s.heap := RF.ground G0
  refine callFrom_of_specN (c := r.claim) A2.2.1 hgens fun args hpre hlay ord hord => ?_
  obtain ⟨⟨vs, s₁⟩, hlaid⟩ := Option.isSome_iff_exists.mp (layAllW_isSome (P := w.params) (ord := ord) G.has args r.args s (pre_splitW hpre).1)
  have keeps := layAllW_keeps _ _ _ hlaid
  have hal := layAllW_rest _ _ _ hlaid
  obtain ⟨as, A3⟩ := reads_layAllW hord _ _ _ hlaid hlay s₁.heap (fun _ _ e => e)
  have L : Laid r.records w s s₁ args vs as := ⟨⟨ord, hord, hlaid⟩, A3.1, A3.2.1, A3.2.2, keeps, hal.1.trans hgens, hal.2.2.1⟩
  have G₁ := G.keeps hXk keeps
  obtain ⟨f, A4⟩ := call w s s₁ _ _ G₁ (hYk _ _ _ (hY w s y) keeps) args vs as hpre hlay L G.low
  have hi := ident_freeW fp.2.1 fp.2.2.1 fp.2.2.2.1
  have hwi : r.claim.within = [] := List.isEmpty_iff.mp k6
  exact ⟨vs, s₁, hlaid, ht vs w s₁ _ f _ _ G₁.T.g A4.1 (wpN_mono A4.2 (fun v s' g => ⟨_, rfl, have z := g.laid (c := r.claim) fp.1 hwi hi L; ⟨z.1, z.2.1, z.2.2, fun q => ⟨namesKept_of A2.1 hg kps keeps g.2.1.old, noTable hwr q⟩⟩⟩) fun e s' g => have z := g.laid (c := r.claim) fp.1 hwi hi L; ⟨z.1, z.2.1, z.2.2, fun q => ⟨namesKept_of A2.1 hg kps keeps g.2.1.old, noTable hwr q⟩⟩)⟩

theorem PySem.W.holds_open {r : OpenRow} {q : Program} {loose : List Str} {Xt : Shared → Bool} {XP : (Str → Option Value) → Heap → Prop} {α : Type} {Yf : Shared → α} {Ya : World → α} {YP : World → Heap → Prop} {d : DefRec} {kwd : List (Str × Expr)} {N : Nat}
    (left : LeftO r.prog q loose Xt Yf Ya N) (hY : ∀ w s, Yf s = Ya w → YP w s.heap) (hYk : ∀ w h h', YP w h → (∀ b o, h.get? b = some o → h'.get? b = some o) → YP w h')
    (hX : ∀ s, Xt s = true → XP (s.heap.nsMap mainGlobals) s.heap) (hXk : ∀ mg h h', XP mg h → (∀ b o, h.get? b = some o → h'.get? b = some o) → XP mg h')
    (hdef : defOf q r.name = some (d, kwd)) (hp : r.prog.theDef r.name = some (d.params, d.body, d.scope)) (hk : kwWritten? d.params.kwonlyargs d.params.kw_defaults = some kwd) (hRf : ∀ s, Xt s = true → RecFacts r.records s.heap) (hwr : (!r.writes || r.records.isEmpty) = true)
    (k1 : r.wellSaid = true) (ok : (chainsOk q && opensWell r.prog && (frees r.toRowW && r.within.isEmpty)) = true) (hb : r.prog.bare) (hw : r.toRowW.promised)
    (call : WalkM q loose XP YP r.toRowW d kwd fun f vs => PySem.call f vs) : r.Holds := by
  refine ⟨k1, hw, open_anyM (r := r.toRowW) (run := fun f vs => PySem.call f vs) (tree := fun vs => do match ← nsGet mainNs r.name with
      | some f => do ret (← PySem.call f vs)
      | none => unsupported "claim.caller:no-such-global") left hY hYk hX hXk hRf hwr ok hb hw
    (fun vs w s mg f Q E hg hf h => wpN_bindA (wpAny_nsGet hg (by rw [hf]; exact wpN_bind (wpN_mono h (fun _ _ x => wpN_pure x) fun _ _ x => x))))
    (fun w s hg G n hn => ?_) fun w s₀ s₁ mg mb G Y args vs as hpre hlay L low => ?_⟩
  · obtain rfl : n = r.name := by split at hn <;> simp_all
    exact pinned_of_view hg G hdef hp hk
  · obtain ⟨a, o, pm, cd, doc, dV, kV, h1, h2, h3, h4, h5⟩ := G.fn hdef
    exact ⟨.ref a, h1, call w s₀ s₁ mg mb G Y a o pm cd doc dV kV h2 h3 h4 h5 (defOf_name hdef ▸ h1) L.gens args vs as hpre hlay L.reads L.well (L.low low)⟩
end Mine
end
section
open PySem PySem.W PyProof.Rows
set_option maxHeartbeats 0
namespace Mine.H
/-- the head's last step for a look alone: from False -/
theorem PySem.W.holds_open {r : OpenRow} {q : Program} {loose : List Str} {Xt : Shared → Bool} {XP : (Str → Option Value) → Heap → Prop} {α : Type} {Yf : Shared → α} {Ya : World → α} {YP : World → Heap → Prop} {N : Nat}
    (_ : ∀ _ : World, (0 : Nat) = 0) (_ : ∀ w s, Yf s = Ya w → YP w s.heap) (_ : ∀ w h h', YP w h → (∀ b o, h.get? b = some o → h'.get? b = some o) → YP w h')
    (_ : ∀ s, Xt s = true → XP (s.heap.nsMap mainGlobals) s.heap) (_ : ∀ mg h h', XP mg h → (∀ b o, h.get? b = some o → h'.get? b = some o) → XP mg h')
    (_ : q.main.body.length = q.main.body.length) (_ : loose = loose) (_ : N = N) (_ : ∀ s, Xt s = true → RecFacts r.records s.heap) (_ : (0 : Nat) = 0)
    (k1 : False) (_ : (0 : Nat) = 0) (_ : r.prog.bare) (_ : True) (_ : True) : r.Holds := k1.elim
end Mine.H
namespace Mine.H
set_option Elab.async true
theorem hd (h : False) : PySem.Challenge.rw_tk0058_01.Holds := by
  refine holds_law h.elim fun said => ?_
  have _x : ∀ _ : World, (0 : Nat) = 0 := ?hl
  rotate_left
  exact fun _ => rfl
  k_head
  all_goals trivial
end Mine.H
end
open PySem PySem.W PyProof.Rows PySem.Spec PySem.Calls
namespace Mine
theorem fillK : (fun (_ : OpenLaw) (_ : Params → Frag) => True) PySem.Challenge.rw_tk0058_01 Mine.H.hd.heap_1_1 := by
  k_fill
  trivial
section
section
variable {α β : Type} {M : Model} {A : Around} {E : Value → Shared → Prop} {s : Shared}
theorem clean_enter {Γ : PySem.Ctx} (h : Clean Γ) (c : Code) (hd : Option Value) (p : Pos) : ∀ x ∈ (Γ.enter c hd p).below, okCode x.1 = true := fun x hx => by
  rcases List.mem_cons.mp hx with rfl | hx
  · exact h.1
  · exact h.2 x hx
theorem wpN_holding {vs : List Value} {m : Sem α} {Q : α → Shared → Prop} (h : wpN M A m Q E s) : wpN M A (holding vs m) Q E s :=
  fun Γ p hΓ hc => by rw [Sem.wp_holding]; exact h Γ p hΓ hc
theorem wpN_keep {vs : List Value} {m : Sem α} {Q : α → Shared → Prop} (h : wpN M A m Q E s) : wpN M A (m.keep vs) Q E s :=
  fun Γ p hΓ hc => by rw [Sem.wp_keep]; exact h Γ p hΓ hc
theorem wpN_standAt {pos : Pos} {Q : Unit → Shared → Prop} (h : Q () s) : wpN M A (standAt pos) Q E s := fun _ _ _ _ => h
theorem wpN_onRaise {m : Sem α} {k : Value → Sem Unit} {Q : α → Shared → Prop}
    (h : wpN M A m Q (fun e s' => wpAny M A (k e) (fun _ s'' => E e s'') E s') s) : wpN M A (m.onRaise k) Q E s := fun Γ p hΓ hc => by
  rw [Sem.wp_onRaise]
  exact Sem.wp_mono M Γ m (fun _ _ _ h' => h') (fun e p' s' h' => h' Γ p' hΓ) p s (h Γ p hΓ hc)
theorem wpN_attempt {m : Sem α} {Q : Except Value α → Shared → Prop} (h : wpN M A m (fun a => Q (.ok a)) (fun e => Q (.error e)) s) :
    wpN M A m.attempt Q E s := fun Γ p hΓ hc => by rw [Sem.wp_attempt]; exact h Γ p hΓ hc
theorem wpN_run {c : Code} {h : Option Value} {Q : Flow → Shared → Prop}
    (hc : codeN M (A.mark h) c (fun r s' => match r with | .ok f => Q f s' | .error e => E e s') s) (hnb : h ≠ some byPass := by intro x; cases x) :
    wpN M A (run c h) Q E s :=
  fun Γ p hΓ hcl => by rw [Sem.wp_run]; exact hc _ p rfl (hΓ.enter c h p hnb) (clean_enter hcl c h p)
theorem wpN_runValue {c : Code} {Q : Value → Shared → Prop}
    (hc : codeN M A c (fun r s' => match r with | .ok (.ret v) => Q v s' | .ok _ => False | .error e => E e s') s) :
    wpN M A (runValue c) Q E s := fun Γ p hΓ hcl => by rw [Sem.wp_runValue]; exact hc _ p rfl (hΓ.enter c none p (by intro x; cases x)) (clean_enter hcl c none p)
theorem wpN_call {f : Value} {pos : List Value} {kw : List (Str × Value)} {Q : Value → Shared → Prop}
    (hc : codeN M A (.call f ⟨pos, kw⟩) (fun r s' => match r with | .ok (.ret v) => Q v s' | .ok _ => False | .error e => E e s') s) :
    wpN M A (call f pos kw) Q E s := wpN_runValue hc
theorem codeN_of_codeAny {c : Code} {R : Result → Shared → Prop} (h : codeAny M A c R s) : codeN M A c R s := fun Γ p hc hΓ _ => h Γ p hc hΓ
theorem codeN_mono {c : Code} {R R' : Result → Shared → Prop} (h : codeN M A c R s) (hR : ∀ r s, R r s → R' r s) : codeN M A c R' s :=
  fun Γ p hc hΓ hb => wpCode_mono hR (h Γ p hc hΓ hb)
theorem codeN_of_tree {c : Code} {R : Result → Shared → Prop} (hok : okCode c = true)
    (h : wpN M (A.under c) (M.den c) (fun fin s' => match fin with | .done f => R (.ok f) s' | .again c' => c'.quiet = true ∧ codeN M A c' R s')
      (fun e s' => R (.error e) s') s) : codeN M A c R s := fun Γ p hc hΓ hb => by
  rw [wpCode_iff_wp, hc]
  refine Sem.wp_mono M Γ _ (fun fin p' s' h' => ?_) (fun _ _ _ h' => h') p s (h Γ p (hc ▸ hΓ.in) ⟨by rw [hc]; exact hok, hb⟩)
  cases fin with
  | done f => exact h'
  | again c' => exact ⟨h'.1, h'.2 (Γ.goto c') p' rfl (hΓ.goto c') hb⟩
theorem codeN_loop {c : Code} {R : Result → Shared → Prop} (hok : okCode c = true) (hq : c.quiet = true) (I : Nat → Shared → Prop)
    (turn : ∀ n s, I n s → wpN M (A.under c) (M.den c)
      (fun fin s' => match fin with | .done f => R (.ok f) s' | .again c' => c' = c ∧ ∃ m, m < n ∧ I m s') (fun e s' => R (.error e) s') s)
    (n : Nat) (h : I n s) : codeN M A c R s := by
  induction n using Nat.strongRecOn generalizing s with
  | ind n ih =>
    refine codeN_of_tree hok (wpN_mono (turn n s h) (fun fin s' hf => ?_) fun _ _ h' => h')
    cases fin with
    | done f => exact hf
    | again c' => obtain ⟨rfl, m, hm, hI⟩ := hf; exact ⟨hq, ih m hm hI⟩
theorem wpN_stackAny {f : Code × Pos → Bool} {Q : Bool → Shared → Prop} (hf : ∀ c p, okCode c = true → f (c, p) = false) (h : Q false s) : wpN M A (do return (← stack).any f) Q E s := fun Γ p _ hc => by
  show Q (((Γ.code, p) :: Γ.below).any f) s
  have : ((Γ.code, p) :: Γ.below).any f = false := by
    rw [List.any_eq_false]
    intro x hx
    obtain ⟨c, q⟩ := x
    rw [hf c q]
    · exact Bool.false_ne_true
    · rcases List.mem_cons.mp hx with e | hx
      · cases e; exact hc.1
      · exact hc.2 _ hx
  rw [this]
  exact h
end
section
variable {M : Model} {A : Around} {E : Value → Shared → Prop} {s : Shared} {env : Env}
theorem nCons {st rest} {Q : Flow → Shared → Prop}
    (h : wpN M A (exec st env) (fun f s' => match f with | .next => wpN M A (execs rest env) Q E s' | f => Q f s') E s) :
    wpN M A (execs (st :: rest) env) Q E s := fun Γ p hΓ hc => by
  rw [execs_cons, Sem.wp_bind']
  refine Sem.wp_mono M Γ _ (fun f p' s' h' => ?_) (fun _ _ _ h' => h') _ _ (h Γ p hΓ hc)
  cases f <;> first | exact h' Γ p' hΓ hc | exact h'
theorem nReturn {e pos} {Q : Flow → Shared → Prop} (h : wpN M A (eval e env) (fun v => Q (.ret v)) E s) :
    wpN M A (exec (.Return (some e) pos) env) Q E s := fun Γ p hΓ hc => by
  simp only [exec_Return_some, Sem.wp_bind', Sem.wp_cmd_standAt, Sem.wp_pure']; exact h Γ _ hΓ hc
theorem nRunOwn {c : Code} {h : Option Value} {Q : Flow → Shared → Prop}
    (hc : codeN M (A.mark h) c (fun r s' => match r with | .ok f => Q f s' | .error e => cameBackBy M A env E e s') s) (hnb : h ≠ some byPass := by intro x; cases x) :
    wpN M A (runOwn c env h) Q E s := by
  unfold runOwn
  exact wpN_onRaise (wpN_run hc hnb)
theorem nWhile {test body orelse pos} {Q : Flow → Shared → Prop}
    (h : codeN M A (.whileLoop test body orelse env) (fun r s' => match r with | .ok f => Q f s' | .error e => cameBackBy M A env E e s') s) :
    wpN M A (exec (.While test body orelse pos) env) Q E s := by
  rw [exec_While]; exact wpN_bind (wpN_standAt (nRunOwn h))
theorem nNoted {α : Type} {m : Sem α} {Q : α → Shared → Prop} (h : wpN M A m Q (notedBy M A env E) s) : wpN M A (m.onRaise fun x => do noteFrame x env; theTreesLotGoes x) Q E s :=
  wpN_onRaise (wpN_mono h (fun _ _ q => q) fun _ _ hx => wpAny_bind (wpAny_mono hx (fun _ _ e => wpAny_theTreesLotGoes e) fun _ _ e => e))
theorem nSplicedCons {x : Sem Value} {rest : List (Bool × Sem Value)} {Q : List Value → Shared → Prop}
    (h : wpN M A x (fun v s₁ => wpN M A (spliced rest) (fun vs s₂ => Q (v :: vs) s₂) E s₁) E s) : wpN M A (spliced ((false, x) :: rest)) Q E s := by
  rw [spliced]
  refine wpN_bind (wpN_mono h (fun v s₁ h₁ => ?_) fun _ _ x => x)
  simp only [Bool.false_eq_true, if_false]
  exact wpN_bind (wpN_pure (wpN_bind (wpN_holding (wpN_mono h₁ (fun vs s₂ h₂ => wpN_pure h₂) fun _ _ x => x))))
theorem nArgsCons {e : Expr} {rest : List Expr} {pos : Pos} {Q : List Value → Shared → Prop}
    (h : wpN M A (eval e env) (fun v s₁ => wpN M A (spliced (backTo pos (starEach rest env))) (fun vs s₂ => Q (v :: vs) s₂) E s₁) E s)
    (he : starEach (e :: rest) env = (false, eval e env) :: starEach rest env := by rfl) : wpN M A (spliced (backTo pos (starEach (e :: rest) env))) Q E s := by
  rw [he]; exact nSplicedCons h
theorem nEvalArgs {f : Value} {x : Sem Value} {rest : List (Bool × Sem Value)} {Q : Args → Shared → Prop}
    (h : wpN M A (spliced ((false, x) :: rest)) (fun vs s' => Q ⟨vs, []⟩ s') E s) : wpN M A (evalArgs f true ((false, x) :: rest) []) Q E s := by
  unfold evalArgs
  show wpN M A (spliced ((false, x) :: rest) >>= _) Q E s
  refine wpN_bind (wpN_mono h (fun vs s' h' => ?_) fun _ _ x => x)
  refine wpN_holding ?_
  exact wpN_bind (wpN_pure (wpN_bind (wpN_pure (wpN_pure h'))))
theorem nCallWithOf {K : Frag} {pos : Pos} {f : Value} {first : List Value} {Q : Value → Shared → Prop} {args : List (Bool × Sem Value)} {keywords : List (Option Str × Sem Value)} (hplain : (args.any (·.1) || keywords.any (·.1.isNone)) = false)
    (hk : keepIn K f = true)
    (h : wpN M A (evalArgs f true args keywords) (fun a s₁ => K.In s₁.heap ∧ wpN M A (call f (first ++ a.pos) a.kw) Q E s₁) E s) : wpN M A (callWith pos f first args keywords) Q E s := by
  unfold callWith
  refine wpN_bind (wpN_holding (wpN_mono h (fun a s₁ h₁ => wpN_bind (wpN_standAt ?_)) fun _ _ x => x))
  obtain ⟨k, hk', L⟩ := keeps_K (M := M) hk _ h₁.1
  simp only [hplain]
  refine wpN_bindA (L.here ?_)
  have tail : ∀ {t : Sem Value}, wpN M A t Q E s₁ → wpN M A (t >>= fun r => holding [r] point >>= fun _ => pure r) Q E s₁ :=
    fun ht => wpN_bind (wpN_mono ht (fun r s₂ hr => wpN_bindA (wpAny_holding (wpAny_point (wpN_pure hr)))) fun _ _ x => x)
  have marked (mk : Value) : wpN M A (callMarked mk f (first ++ a.pos) a.kw) Q E s₁ := by unfold callMarked; exact wpN_keep h₁.2
  rcases hk' with rfl | rfl | rfl <;> dsimp only <;> first | exact tail h₁.2 | (split <;> first | exact tail h₁.2 | exact tail (marked _))
theorem nCallWith {K : Frag} {pos : Pos} {f : Value} {first : List Value} {Q : Value → Shared → Prop} {e : Expr} {rest : List Expr} (hk : keepIn K f = true) (h : wpN M A (spliced (backTo pos (starEach (e :: rest) env))) (fun vs s₁ => K.In s₁.heap ∧ wpN M A (call f (first ++ vs)) Q E s₁) E s)
    (he : starEach (e :: rest) env = (false, eval e env) :: starEach rest env := by rfl) (hplain : (backTo pos (starEach rest env)).any (·.1) = false := by rfl) :
    wpN M A (callWith pos f first (backTo pos (starEach (e :: rest) env)) []) Q E s := by
  rw [he] at h ⊢
  exact nCallWithOf (by show ((false || (backTo pos (starEach rest env)).any (·.1)) || false) = false; rw [hplain]; rfl) hk (nEvalArgs h)
end
section
variable {prog : Program} {w : World} {A : Around} {E : Value → Shared → Prop} {R : Result → Shared → Prop} {s : Shared}
theorem codeN_whileLoop {test body orelse env} (I : Nat → Shared → Prop)
    (turn : ∀ n s, I n s →
      wpN (model prog w) A (isTrue test env (eval test env)) (fun b s₂ =>
        if b then wpN (model prog w) A (execs body env) (fun f s₃ => match f with
            | .next | .cont => ∃ m, m < n ∧ I m s₃
            | .brk => R (.ok .next) s₃
            | .ret v => R (.ok (.ret v)) s₃) (notedBy (model prog w) A env fun e s' => R (.error e) s') s₂
        else wpN (model prog w) A (execs orelse env) (fun f s₃ => R (.ok f) s₃) (notedBy (model prog w) A env fun e s' => R (.error e) s') s₂)
        (notedBy (model prog w) A env fun e s' => R (.error e) s') s)
    (n : Nat) (h : I n s) : codeN (model prog w) A (.whileLoop test body orelse env) R s := by
  refine codeN_loop rfl rfl I (fun n s hI => ?_) n h
  show wpN _ A ((whileTurn test body orelse env).onRaise (fun x => do noteFrame x env; theTreesLotGoes x)) _ _ s
  refine nNoted ?_
  simp only [whileTurn]
  refine wpN_bind (wpN_mono (turn n s hI) (fun b s₂ h₂ => ?_) fun _ _ h' => h')
  cases b with
  | false =>
    simp only [Bool.false_eq_true, if_false] at h₂ ⊢
    exact wpN_bind (wpN_mono h₂ (fun f s₃ h₃ => wpN_pure h₃) fun _ _ h' => h')
  | true =>
    simp only [if_true] at h₂ ⊢
    refine wpN_bind (wpN_mono h₂ (fun f s₃ h₃ => ?_) fun _ _ h' => h')
    cases f with
    | next => exact wpN_pure ⟨rfl, h₃⟩
    | cont => exact wpN_pure ⟨rfl, h₃⟩
    | brk => exact wpN_pure h₃
    | ret v => exact wpN_pure h₃
structure Kept (p : Prop) : Prop where
  it : p
theorem nLoop {test body orelse pos env} {Q : Flow → Shared → Prop} (I : Nat → Shared → Prop)
    (turn : ∀ n s, I n s →
      wpN (model prog w) A (isTrue test env (eval test env)) (fun b s₂ =>
        if b then wpN (model prog w) A (execs body env) (fun f s₃ => match f with
            | .next | .cont => Kept (∃ m, m < n ∧ I m s₃)
            | .brk => Q .next s₃
            | .ret v => Q (.ret v) s₃) (notedBy (model prog w) A env fun e s' => cameBackBy (model prog w) A env E e s') s₂
        else wpN (model prog w) A (execs orelse env) Q (notedBy (model prog w) A env fun e s' => cameBackBy (model prog w) A env E e s') s₂)
        (notedBy (model prog w) A env fun e s' => cameBackBy (model prog w) A env E e s') s)
    (n : Nat) (h : I n s) : wpN (model prog w) A (exec (.While test body orelse pos) env) Q E s := by
  refine nWhile (codeN_whileLoop I (fun n s hI => ?_) n h)
  refine wpN_mono (turn n s hI) (fun b s₂ h₂ => ?_) fun _ _ x => x
  cases b with
  | false => exact h₂
  | true =>
    simp only [if_true] at h₂ ⊢
    refine wpN_mono h₂ (fun f s₃ h₃ => ?_) fun _ _ x => x
    cases f <;> first | exact h₃.it | exact h₃
theorem codeN_func {body env}
    (h : wpN (model prog w) (A.deeper env) (execs body env) (fun f s' => R (.ok (.ret (match f with | .ret v => v | _ => .none))) s')
      (fun e s' => wpAny (model prog w) (A.deeper env) (leaving env e) (fun _ s'' => R (.error e) s'') (fun e' s'' => R (.error e') s'') s') s) :
    codeN (model prog w) A (.func body env) R s := by
  refine codeN_of_tree rfl ?_
  show wpN _ (A.deeper env) (do point; match ← (execs body env).onRaise (leaving env) with | .ret v => ret v | _ => ret .none) _ _ s
  refine wpN_bindA (wpAny_point (wpN_bind (wpN_onRaise (wpN_mono h (fun f s' h' => ?_) fun _ _ h' => h'))))
  cases f <;> exact wpN_pure h'
theorem codeN_call_function {a : Addr} {args : Args} {o : Obj} {fd : FuncData} {body : List Stmt} (hroom : A.depth < recursionLimit)
    (ho : s.heap.get? a = some o)
    (hd' : o.data = .func fd) (hco : fd.scope.isCoroutine = false) (hgen : fd.scope.isGenerator = false) (hbody : fd.body = .stmts body) (hcd : s.heap.CodeRec fd.code fd.qualname)
    (h : wpAny (model prog w) A.in1 (bindArgs fd args) (fun binds s₁ =>
      wpAny (model prog w) A.in1 (newFunctionEnv fd.scope fd.globals fd.closure binds (fd.qualname ++ ".<locals>.") (some a) fd.code none fd.builtins)
        (fun env s₂ => s₂.heap.NoLimit ∧ codeN (model prog w) A (.func body env) R s₂) (fun e s' => R (.error e) s') s₁) (fun e s' => R (.error e) s') s) :
    codeN (model prog w) A (.call (.ref a) args) R s := by
  refine codeN_of_tree rfl (wpN_of_wpAny ?_)
  show wpAny _ A.in1 (callAny (.ref a) args) _ _ s
  simp only [callAny]
  refine wpAny_bind (wpAny_load ho ?_)
  obtain ⟨c, oc, vs, tq, hc, hoc, hdc, hq⟩ := hcd
  simp only [hd', callFunction, hco, hgen, hbody, hc]
  rw [hc] at h
  refine wpAny_bind (m := field (.ref c) 1) (wpAny_field hoc hdc hq (wpAny_bind (wpAny_pure ?_)))
  exact wpAny_bind (wpAny_mono h (fun binds s₁ h₁ => wpAny_bind (wpAny_mono h₁ (fun env s₂ h₂ => wpAny_bind (wpAny_enterFrame h₂.1 hroom
    (wpAny_pure (And.intro rfl h₂.2)))) fun _ _ h' => h')) fun _ _ h' => h')
theorem codeN_call_def {a : Addr} {o : Obj} {fd : FuncData} {body : List Stmt} {args : Args} {binds : List (Str × Value)}
    (hroom : A.depth < recursionLimit) (ho : s.heap.get? a = some o) (hdata : o.data = .func fd) (hlim : s.heap.NoLimit) (hcd : s.heap.CodeRec fd.code fd.qualname)
    (hbody : fd.body = .stmts body) (hbind : BindsTo s fd args binds)
    (hcell : ∀ x ∈ fd.scope.names, x.2 ≠ .cell) (hloc : ∀ x ∈ binds, fd.scope.names.lookup x.1 = some .local)
    (h : ∀ h₀, h₀.Ns s.heap.objs.size (fun x => binds.reverse.lookup x) → (∀ b o, s.heap.get? b = some o → h₀.get? b = some o) →
      wpN (model prog w) (A.deeper (callEnv fd s.heap.objs.size a)) (execs body (callEnv fd s.heap.objs.size a)) (fun f s' => R (.ok (.ret (match f with | .ret v => v | _ => .none))) s')
        (fun e s' => wpAny (model prog w) (A.deeper (callEnv fd s.heap.objs.size a)) (leaving (callEnv fd s.heap.objs.size a) e) (fun _ s'' => R (.error e) s'') (fun e' s'' => R (.error e') s'') s')
        { s with heap := h₀, toks := s.toks + binds.length })
    (hco : fd.scope.isCoroutine = false := by rfl) (hgen : fd.scope.isGenerator = false := by rfl) (hk : fd.scope.kind = .function := by rfl) :
    codeN (model prog w) A (.call (.ref a) args) R s := by
  refine codeN_call_function hroom ho hdata hco hgen hbody hcd (hbind _ _ _ _ ?_)
  refine wpAny_newFunctionEnv hcell hloc (fun h₀ hns₀ hsb₀ => ⟨hlim.fresh _ hsb₀, codeN_func (h h₀ hns₀ fun b o e => ?_)⟩) hk
  exact hsb₀.extBut b o (Nat.ne_of_lt (Heap.lt_size e)) (Heap.get?_push_of_some _ e)
end
section
variable {M : Model} {A : Around} {s : Shared} {α : Type} {t : Sem α} {Q : α → Shared → Prop} {E : Value → Shared → Prop}
end
end
section
structure LC where
  x : Addr
  d : Addr
  hs : Nat → Int
  ks : Nat → Tok
  tx : List UInt8
  tt : Tok
  sv : Array UInt8
  st : Tok
  cv : Array UInt8
  ct : Tok
  lim : Addr
  ld : Addr
  lw : Tok
  lt : Tok
  kd : Addr
  n : Nat
structure LD where
  at_ : Int
  ta : Tok
  sg : Int
  ts : Tok
  ln : Int
  tl : Tok
  ll : Int
  tm : Tok
  b : Addr
  cur : Value
  buf : List UInt8
noncomputable abbrev baObj (b : List UInt8) : Obj := { cls := .type "bytearray", data := .bytearray b.toArray }
noncomputable def lexEnt (c : LC) (y : LD) : List DictEntry :=
  [⟨c.hs 0, .str "text" (c.ks 0), .bytes c.tx.toArray c.tt⟩, ⟨c.hs 1, .str "source" (c.ks 1), .bytes c.sv c.st⟩, ⟨c.hs 2, .str "chunk" (c.ks 2), .bytes c.cv c.ct⟩,
   ⟨c.hs 3, .str "limits" (c.ks 3), .ref c.lim⟩, ⟨c.hs 4, .str "kinds" (c.ks 4), .ref c.kd⟩, ⟨c.hs 5, .str "at" (c.ks 5), .int y.at_ y.ta⟩,
   ⟨c.hs 6, .str "sign" (c.ks 6), .int y.sg y.ts⟩, ⟨c.hs 7, .str "line" (c.ks 7), .int y.ln y.tl⟩, ⟨c.hs 8, .str "last_line" (c.ks 8), .int y.ll y.tm⟩,
   ⟨c.hs 9, .str "buffer" (c.ks 9), .ref y.b⟩, ⟨c.hs 10, .str "current" (c.ks 10), y.cur⟩, ⟨c.hs 11, .str "ahead" (c.ks 11), .none⟩]
noncomputable abbrev lexD (c : LC) (y : LD) : Obj := { cls := .type "dict", data := .dict (lexEnt c y).toArray c.n }
noncomputable abbrev Lx (c : LC) (y : LD) : List (Addr × Obj) := [(c.x, instObj 465 c.d), (c.d, lexD c y), (y.b, baObj y.buf)]
def RestOK (c : LC) (rest : List (Addr × Obj)) : Prop := ∀ q ∈ rest, q.1 ≠ c.d ∧ q.2.cls ≠ .type "bytearray" ∧ q.2.cls ≠ .ref 465
theorem RestOK.nil {c : LC} : RestOK c [] := fun _ h => nomatch h
theorem RestOK.cons {c : LC} {a : Addr} {o : Obj} {rest : List (Addr × Obj)} (h1 : a ≠ c.d) (h2 : o.cls ≠ .type "bytearray") (h3 : o.cls ≠ .ref 465) (h : RestOK c rest) : RestOK c ((a, o) :: rest) :=
  fun q hq => by rcases List.mem_cons.mp hq with rfl | hq; exact ⟨h1, h2, h3⟩; exact h q hq
structure Cx (A : Around) (env : Env) (outer : List Env) (base g : Heap) (L : Addr) (k : Nat) : Prop where
  frames : A.frames = some (env :: outer)
  fr : env.frame = some L
  kind : env.scope.kind = .function
  room : A.depth + 2 * k < recursionLimit
  units : A.units + 20 * k < cLine
  handled : A.handled = none
  below : ∃ A₀, Below A₀ base outer g
  new : g.get? L = none
theorem lx_ne {g h : Heap} {L : Addr} {c : LC} {y : LD} {rest : List (Addr × Obj)} (N : News g L h (Lx c y ++ rest)) : c.x ≠ c.d ∧ y.b ≠ c.d ∧ c.x ≠ y.b := by
  have a := (N (c.x, instObj 465 c.d) (.head _)).1
  have b := (N (c.d, lexD c y) (.tail _ (.head _))).1
  have e := (N (y.b, baObj y.buf) (.tail _ (.tail _ (.head _)))).1
  dsimp only at a b e
  refine ⟨fun q => ?_, fun q => ?_, fun q => ?_⟩
  · rw [q, b] at a; simp at a
  · rw [q, b] at e; simp at e
  · rw [q, e] at a; simp at a
theorem rest_out {g h : Heap} {L : Addr} {c : LC} {y : LD} {rest : List (Addr × Obj)} (N : News g L h (Lx c y ++ rest)) (hr : RestOK c rest) : ∀ q ∈ rest, q.1 ∉ (Lx c y).map (·.1) := fun q hq hm => by
  have z := (N q (List.mem_append_right _ hq)).1
  obtain ⟨h1, h2, h3⟩ := hr q hq
  have a := (N (c.x, instObj 465 c.d) (.head _)).1
  have e := (N (y.b, baObj y.buf) (.tail _ (.tail _ (.head _)))).1
  dsimp only at a e
  have hm : q.1 = c.x ∨ q.1 = c.d ∨ q.1 = y.b := by simpa using hm
  rcases hm with hm | hm | hm
  · rw [hm, a] at z
    exact h3 (by rw [← Option.some.inj z])
  · exact h1 hm
  · rw [hm, e] at z
    exact h2 (by rw [← Option.some.inj z])
theorem news_of {g h : Heap} {L : Addr} {l l' : List (Addr × Obj)} (N : News g L h l) (hs : ∀ q ∈ l', q ∈ l) : News g L h l' := fun q hq => N q (hs q hq)
section
variable {prog : Program} {w : World} {A : Around} {s : Shared} {base g : Heap} {outer : List Env} {L : Addr} {m : Str → Option Value} {env : Env} {K : Frag} {k : Nat}
  {R : Result → Shared → Prop} {name qual : Str} {params : Arguments} {body : List Stmt} {scope : Scope} {dV kV doc pm cdv ct oc : Value} {an od : Option Addr} {osl : Array (Option Value)} {f : Addr} {args : Args} {binds : List (Str × Value)}
theorem Cx.deep {env' : Env} {g' : Heap} {L' : Addr} (C : Cx A env outer base g L (k + 1)) (B : ∃ A₀, Below A₀ base (env :: outer) g') (hf : env'.frame = some L') (hk : env'.scope.kind = .function) (hn : g'.get? L' = none) :
    Cx (A.deeper env') env' (env :: outer) base g' L' k := by
  refine ⟨by rw [Around.frames_deeper C.frames], hf, hk, ?_, ?_, C.handled, B, hn⟩
  · have := C.room
    show A.depth + 1 + 2 * k < _
    omega
  · have := C.units
    show A.units + 3 + 20 * k < _
    omega
theorem enter (own : List (Addr × Obj)) {rest : List (Addr × Obj)} (binds : List (Str × Value)) (C : Cx A env outer base g L (k + 1)) (F : Fr g L s.heap m) (N : News g L s.heap (own ++ rest)) (hrest : ∀ q ∈ rest, q.1 ∉ own.map (·.1)) (hlim : g.NoLimit) (X : K.In g)
    (ho : K.lookup f = some ⟨oc, od, .func (fnOf name qual params body scope dV kV doc pm an cdv ct), osl⟩) (hcd : codeIn K cdv qual = true)
    (hbind : BindsTo s (fnOf name qual params body scope dV kV doc pm an cdv ct) args binds) (hloc : ∀ y ∈ binds, scope.names.lookup y.1 = some .local)
    (h : ∀ g' L' h₁ tk, Fr g' L' h₁ (fun y => binds.reverse.lookup y) → News g' L' h₁ (own ++ []) → g.StaysIn g' → K.In g' → Cx (A.deeper (envOf qual scope L' f cdv)) (envOf qual scope L' f cdv) (env :: outer) base g' L' k →
      Fr g L g' m → (∀ q ∈ rest, g'.get? q.1 = some q.2) →
      (∀ L'' m'' h' own', Fr g' L'' h' m'' → News g' L'' h' own' → Fr g L h' m ∧ News g L h' (own' ++ rest)) →
      wpAny (model prog w) (A.deeper (envOf qual scope L' f cdv)) (execs body (envOf qual scope L' f cdv))
        (fun fl s' => R (.ok (.ret (match fl with | .ret v => v | _ => .none))) s')
        (fun e s' => wpAny (model prog w) (A.deeper (envOf qual scope L' f cdv)) (leaving (envOf qual scope L' f cdv) e) (fun _ s'' => R (.error e) s'') (fun e' s'' => R (.error e') s'') s')
        { s with heap := h₁, toks := tk })
    (hcell : ∀ x ∈ scope.names, x.2 ≠ .cell) (hco : scope.isCoroutine = false := by rfl) (hgen : scope.isGenerator = false := by rfl) (hk : scope.kind = .function := by rfl) : codeAny (model prog w) A (.call (.ref f) args) R s := by
  obtain ⟨A₀, B⟩ := C.below
  have No : News g L s.heap own := fun q hq => N q (List.mem_append_left _ hq)
  obtain ⟨FG, BG, st, -⟩ := groundX (R := R) B F No C.frames C.fr C.kind
  obtain ⟨oL, es, ep, hL, hLd, hLk, hLf⟩ := id F.ns
  have nL : L ∉ own.map (·.1) := fun q => by
    obtain ⟨p, hp, e⟩ := List.mem_map.mp q
    exact (No p hp).2.1 e
  have hLg := hideAll_get (own.map (·.1)) hL nL
  refine codeAny_call_def (fd := fnOf name qual params body scope dV kV doc pm an cdv ct) (body := body) (binds := binds) (by have := C.room; omega) ((X.keeps F.keep) _ _ ho) rfl (hlim.keeps F.keep) (codeRec_of (X.keeps F.keep) hcd) rfl hbind hcell hloc (fun h₁ hns hk₁ => ?_) hco hgen hk
  refine h (hideAll s.heap (own.map (·.1))) s.heap.objs.size h₁ _ ⟨hns, fun b o e => hk₁ b o (of_hideAll _ e), Nat.le_of_eq (hideAll_size _ _)⟩
    (fun p hp => ?_) st (X.keeps fun b o e => st b o e)
    (C.deep ⟨_, BG⟩ rfl hk (Heap.get?_none_of_le (Nat.le_of_eq (hideAll_size _ _)))) FG (fun q hq => hideAll_get _ (N q (List.mem_append_right _ hq)).1 (hrest q hq)) (fun L'' m'' h' own' F' N' => ⟨⟨⟨oL, es, ep, F'.keep L oL hLg, hLd, hLk, hLf⟩, fun b o e => F'.keep b o (st b o e), F.above⟩, fun q hq => ?_⟩)
  · rw [List.append_nil] at hp
    exact ⟨hk₁ _ _ (No p hp).1, Nat.ne_of_lt (Heap.lt_size (No p hp).1), hideAll_none _ (List.mem_map_of_mem hp)⟩
  rcases List.mem_append.mp hq with hq | hq
  · refine ⟨(N' q hq).1, fun e => ?_, ?_⟩
    · have := (N' q hq).2.2
      rw [e, hLg] at this
      cases this
    · cases hz : g.get? q.1 with
      | none => rfl
      | some o =>
        have := (N' q hq).2.2
        rw [st _ _ hz] at this
        cases this
  · have z := N q (List.mem_append_right _ hq)
    exact ⟨F'.keep _ _ (hideAll_get _ z.1 (hrest q hq)), z.2⟩
theorem enterN (own : List (Addr × Obj)) {rest : List (Addr × Obj)} (binds : List (Str × Value)) (C : Cx A env outer base g L (k + 1)) (F : Fr g L s.heap m) (N : News g L s.heap (own ++ rest)) (hrest : ∀ q ∈ rest, q.1 ∉ own.map (·.1)) (hlim : g.NoLimit) (X : K.In g)
    (ho : K.lookup f = some ⟨oc, od, .func (fnOf name qual params body scope dV kV doc pm an cdv ct), osl⟩) (hcd : codeIn K cdv qual = true)
    (hbind : BindsTo s (fnOf name qual params body scope dV kV doc pm an cdv ct) args binds) (hloc : ∀ y ∈ binds, scope.names.lookup y.1 = some .local)
    (h : ∀ g' L' h₁ tk, Fr g' L' h₁ (fun y => binds.reverse.lookup y) → News g' L' h₁ (own ++ []) → g.StaysIn g' → K.In g' → Cx (A.deeper (envOf qual scope L' f cdv)) (envOf qual scope L' f cdv) (env :: outer) base g' L' k →
      Fr g L g' m → (∀ q ∈ rest, g'.get? q.1 = some q.2) →
      (∀ L'' m'' h' own', Fr g' L'' h' m'' → News g' L'' h' own' → Fr g L h' m ∧ News g L h' (own' ++ rest)) →
      wpN (model prog w) (A.deeper (envOf qual scope L' f cdv)) (execs body (envOf qual scope L' f cdv))
        (fun fl s' => R (.ok (.ret (match fl with | .ret v => v | _ => .none))) s')
        (fun e s' => wpAny (model prog w) (A.deeper (envOf qual scope L' f cdv)) (leaving (envOf qual scope L' f cdv) e) (fun _ s'' => R (.error e) s'') (fun e' s'' => R (.error e') s'') s')
        { s with heap := h₁, toks := tk })
    (hcell : ∀ x ∈ scope.names, x.2 ≠ .cell) (hco : scope.isCoroutine = false := by rfl) (hgen : scope.isGenerator = false := by rfl) (hk : scope.kind = .function := by rfl) : codeN (model prog w) A (.call (.ref f) args) R s := by
  obtain ⟨A₀, B⟩ := C.below
  have No : News g L s.heap own := fun q hq => N q (List.mem_append_left _ hq)
  obtain ⟨FG, BG, st, -⟩ := groundX (R := R) B F No C.frames C.fr C.kind
  obtain ⟨oL, es, ep, hL, hLd, hLk, hLf⟩ := id F.ns
  have nL : L ∉ own.map (·.1) := fun q => by
    obtain ⟨p, hp, e⟩ := List.mem_map.mp q
    exact (No p hp).2.1 e
  have hLg := hideAll_get (own.map (·.1)) hL nL
  refine codeN_call_def (fd := fnOf name qual params body scope dV kV doc pm an cdv ct) (body := body) (binds := binds) (by have := C.room; omega) ((X.keeps F.keep) _ _ ho) rfl (hlim.keeps F.keep) (codeRec_of (X.keeps F.keep) hcd) rfl hbind hcell hloc (fun h₁ hns hk₁ => ?_) hco hgen hk
  refine h (hideAll s.heap (own.map (·.1))) s.heap.objs.size h₁ _ ⟨hns, fun b o e => hk₁ b o (of_hideAll _ e), Nat.le_of_eq (hideAll_size _ _)⟩
    (fun p hp => ?_) st (X.keeps fun b o e => st b o e)
    (C.deep ⟨_, BG⟩ rfl hk (Heap.get?_none_of_le (Nat.le_of_eq (hideAll_size _ _)))) FG (fun q hq => hideAll_get _ (N q (List.mem_append_right _ hq)).1 (hrest q hq)) (fun L'' m'' h' own' F' N' => ⟨⟨⟨oL, es, ep, F'.keep L oL hLg, hLd, hLk, hLf⟩, fun b o e => F'.keep b o (st b o e), F.above⟩, fun q hq => ?_⟩)
  · rw [List.append_nil] at hp
    exact ⟨hk₁ _ _ (No p hp).1, Nat.ne_of_lt (Heap.lt_size (No p hp).1), hideAll_none _ (List.mem_map_of_mem hp)⟩
  rcases List.mem_append.mp hq with hq | hq
  · refine ⟨(N' q hq).1, fun e => ?_, ?_⟩
    · have := (N' q hq).2.2
      rw [e, hLg] at this
      cases this
    · cases hz : g.get? q.1 with
      | none => rfl
      | some o =>
        have := (N' q hq).2.2
        rw [st _ _ hz] at this
        cases this
  · have z := N q (List.mem_append_right _ hq)
    exact ⟨F'.keep _ _ (hideAll_get _ z.1 (hrest q hq)), z.2⟩
end
noncomputable abbrev LZ : List Str := [Str.ofString "is_blank_values", Str.ofString "RESERVED", Str.ofString "OTHER_TEXTS", Str.ofString "is_blank_lexer"]
noncomputable abbrev TopH (mean : ExcName → Option Value) (mg mb : Str → Option Value) (g : Heap) : Prop := Top Mine.H.hd.view_1_2 (looseW Mine.H.hd.view_1_2 LZ) mean mg mb g
section
variable {prog : Program} {w : World} {A : Around} {s : Shared} {g : Heap} {L : Addr} {m : Str → Option Value} {env : Env}
  {E : Value → Shared → Prop} {c : LC} {y : LD} {rest : List (Addr × Obj)}
theorem set_lx {name : Str} {v : Value} {y' : LD} {b' : Addr} {buf' : List UInt8} {Q : Unit → Shared → Prop} (F : Fr g L s.heap m) (X : (Mine.H.hd.heap_1_1 w.params).In g) (N : News g L s.heap ([(c.x, instObj 465 c.d), (c.d, lexD c y), (b', baObj buf')] ++ rest)) (hr : RestOK c rest)
    (ht : takerIn (Mine.H.hd.heap_1_1 w.params) 465 name = some none) (hl : (getL name (lexEnt c y)).isSome = true)
    (e : (putL name (PyData.keyHash w.params name) (.str name (s.toks + 1)) v (lexEnt c y), putN name (lexEnt c y) c.n) = (lexEnt c y', c.n))
    (h : ∀ h' tk', Fr g L h' m → News g L h' ([(c.x, instObj 465 c.d), (c.d, lexD c y'), (b', baObj buf')] ++ rest) → Q () { s with heap := h', toks := tk' }) :
    wpAny (model prog w) A (setAttr (.ref c.x) name v) Q E s := by
  have n1 : c.x ≠ c.d := fun q => by
    have a := (N (c.x, instObj 465 c.d) (.head _)).1
    have b := (N (c.d, lexD c y) (.tail _ (.head _))).1
    dsimp only at a b
    rw [q, b] at a; simp at a
  have n2 : b' ≠ c.d := fun q => by
    have a := (N (b', baObj buf') (.tail _ (.tail _ (.head _)))).1
    have b := (N (c.d, lexD c y) (.tail _ (.head _))).1
    dsimp only at a b
    rw [q, b] at a; simp at a
  refine set_dict (K := Mine.H.hd.heap_1_1 w.params) (C := 465) (es := lexEnt c y) (n := c.n) F X N (InstAt.of_news N (.head _) (.tail _ (.head _))) rfl (by k_is) (by k_is) ht (by k_is) hl e ?_ (Nat.le_of_ble_eq_true rfl) (fun h' => h h' _)
  exact .tail n1 (.head fun p hp => by rcases List.mem_cons.mp hp with rfl | hp; exact n2; exact (hr p hp).1)
theorem set_at {i : Int} {t : Tok} {Q : Unit → Shared → Prop} (F : Fr g L s.heap m) (X : (Mine.H.hd.heap_1_1 w.params).In g) (N : News g L s.heap (Lx c y ++ rest)) (hr : RestOK c rest)
    (h : ∀ h' tk', Fr g L h' m → News g L h' (Lx c { y with at_ := i, ta := t } ++ rest) → Q () { s with heap := h', toks := tk' }) :
    wpAny (model prog w) A (setAttr (.ref c.x) (Str.ofString "at") (.int i t)) Q E s := set_lx (y' := { y with at_ := i, ta := t }) F X N hr (by k_is) rfl rfl h
theorem set_sign {i : Int} {t : Tok} {Q : Unit → Shared → Prop} (F : Fr g L s.heap m) (X : (Mine.H.hd.heap_1_1 w.params).In g) (N : News g L s.heap (Lx c y ++ rest)) (hr : RestOK c rest)
    (h : ∀ h' tk', Fr g L h' m → News g L h' (Lx c { y with sg := i, ts := t } ++ rest) → Q () { s with heap := h', toks := tk' }) :
    wpAny (model prog w) A (setAttr (.ref c.x) (Str.ofString "sign") (.int i t)) Q E s := set_lx (y' := { y with sg := i, ts := t }) F X N hr (by k_is) rfl rfl h
theorem set_line {i : Int} {t : Tok} {Q : Unit → Shared → Prop} (F : Fr g L s.heap m) (X : (Mine.H.hd.heap_1_1 w.params).In g) (N : News g L s.heap (Lx c y ++ rest)) (hr : RestOK c rest)
    (h : ∀ h' tk', Fr g L h' m → News g L h' (Lx c { y with ln := i, tl := t } ++ rest) → Q () { s with heap := h', toks := tk' }) :
    wpAny (model prog w) A (setAttr (.ref c.x) (Str.ofString "line") (.int i t)) Q E s := set_lx (y' := { y with ln := i, tl := t }) F X N hr (by k_is) rfl rfl h
theorem set_last {i : Int} {t : Tok} {Q : Unit → Shared → Prop} (F : Fr g L s.heap m) (X : (Mine.H.hd.heap_1_1 w.params).In g) (N : News g L s.heap (Lx c y ++ rest)) (hr : RestOK c rest)
    (h : ∀ h' tk', Fr g L h' m → News g L h' (Lx c { y with ll := i, tm := t } ++ rest) → Q () { s with heap := h', toks := tk' }) :
    wpAny (model prog w) A (setAttr (.ref c.x) (Str.ofString "last_line") (.int i t)) Q E s := set_lx (y' := { y with ll := i, tm := t }) F X N hr (by k_is) rfl rfl h
theorem set_current {v : Value} {Q : Unit → Shared → Prop} (F : Fr g L s.heap m) (X : (Mine.H.hd.heap_1_1 w.params).In g) (N : News g L s.heap (Lx c y ++ rest)) (hr : RestOK c rest)
    (h : ∀ h' tk', Fr g L h' m → News g L h' (Lx c { y with cur := v } ++ rest) → Q () { s with heap := h', toks := tk' }) :
    wpAny (model prog w) A (setAttr (.ref c.x) (Str.ofString "current") v) Q E s := set_lx (y' := { y with cur := v }) F X N hr (by k_is) rfl rfl h
theorem set_buffer {b : Addr} {bs : List UInt8} {Q : Unit → Shared → Prop} (F : Fr g L s.heap m) (X : (Mine.H.hd.heap_1_1 w.params).In g) (N : News g L s.heap (Lx c y ++ (b, baObj bs) :: rest)) (hr : RestOK c rest)
    (h : ∀ h' tk', Fr g L h' m → News g L h' (Lx c { y with b := b, buf := bs } ++ rest) → Q () { s with heap := h', toks := tk' }) :
    wpAny (model prog w) A (setAttr (.ref c.x) (Str.ofString "buffer") (.ref b)) Q E s :=
  set_lx (y := y) (y' := { y with b := b, buf := bs }) (b' := b) (buf' := bs) F X (news_of N fun q hq => by
    rcases List.mem_append.mp hq with hq | hq
    · rcases List.mem_cons.mp hq with rfl | hq
      · exact .head _
      · rcases List.mem_cons.mp hq with rfl | hq
        · exact .tail _ (.head _)
        · rcases List.mem_cons.mp hq with rfl | hq
          · exact List.mem_append_right _ (.head _)
          · cases hq
    · exact List.mem_append_right _ (.tail _ hq)) hr (by k_is) rfl rfl h
theorem lx_inst (N : News g L s.heap (Lx c y ++ rest)) : InstAt s.heap c.x (instObj 465 c.d) 465 (some (dictOf (lexEnt c y) c.n)) := InstAt.of_news N (.head _) (.tail _ (.head _))
end
end
section
theorem slot_ba_len : Slot "bytearray" "__len__" "bytearray.__len__" :=
  .of (owner := "bytearray") (n := "__len__") (by rw [typeLookup_type, builtinLookup_eq_fast]; kernel_rfl) (by decide +kernel) (by decide +kernel) (by decide +kernel)
    (by first | exact .inl (by decide +kernel) | exact .inr (by decide +kernel)) (by rw [isSubtype_type]; kernel_rfl)
theorem entry_ba_len : entryFor table "bytearray.__len__" = some Builtin.«bytearray.__len__» := entryFor_of_tree (by kernel_rfl)
theorem args_ba_len (a : Value) : argsOk "bytearray.__len__" ⟨[a], []⟩ := by unfold argsOk; kernel_rfl
theorem slot_ba_append : Slot "bytearray" "append" "bytearray.append" :=
  .of (owner := "bytearray") (n := "append") (by rw [typeLookup_type, builtinLookup_eq_fast]; kernel_rfl) (by decide +kernel) (by decide +kernel) (by decide +kernel)
    (by first | exact .inl (by decide +kernel) | exact .inr (by decide +kernel)) (by rw [isSubtype_type]; kernel_rfl)
theorem entry_ba_append : entryFor table "bytearray.append" = some Builtin.«bytearray.append» := entryFor_of_tree (by kernel_rfl)
theorem args_ba_append (a b : Value) : argsOk "bytearray.append" ⟨[a, b], []⟩ := by unfold argsOk; kernel_rfl
theorem type_ba_append : typeOf (.builtin "bytearray.append") = pure (.type "method_descriptor") := by show builtinType _ = _; rw [builtinType_eq_fast]; kernel_rfl
theorem ba_getattribute : typeLookup (.type "bytearray") "__getattribute__" = pure (some (.builtin "bytearray.__getattribute__")) := by rw [typeLookup_type, builtinLookup_eq_fast]; kernel_rfl
theorem canon_ba : (Manifest.canonical "bytearray.__getattribute__" != "object.__getattribute__") = false := by decide +kernel
theorem ba_getattr : typeLookup (.type "bytearray") "__getattr__" = pure none := by rw [typeLookup_type, builtinLookup_eq_fast]; kernel_rfl
section
variable {prog : Program} {w : World} {A : Around} {E : Value → Shared → Prop} {s : Shared} {b : Addr} {l : List UInt8}
theorem ba_type (hb : s.heap.get? b = some (baObj l)) : s.TypeIs (.ref b) "bytearray" := ⟨_, hb, rfl⟩
theorem len_ba {Q : Value → Shared → Prop} (hb : s.heap.get? b = some (baObj l)) (hl : l.length < 2 ^ 62) (h : ∀ t tk, Q (.int l.length t) { s with toks := tk }) :
    wpAny (model prog w) A (call (.builtin "len") [.ref b]) Q E s := by
  refine call_len_slot (n := l.length) (ba_type hb) slot_ba_len (fun Q' hQ => ?_) (by omega) (by omega) (h _ _)
  refine wpAny_call_entry slot_ba_len (ba_type hb) entry_ba_len ?_ (args_ba_len _)
  unfold Builtin.«bytearray.__len__»
  refine wpAny_bind (wpAny_pure ?_)
  unfold Builtin.Bytes.payload Builtin.Bytes.payload?
  refine wpAny_bind (wpAny_bind (wpAny_bind (wpAny_load hb ?_)))
  refine wpAny_pure (wpAny_pure ?_)
  refine wpAny_bind (wpAny_mkInt (wpAny_pure ⟨_, rfl, ?_⟩))
  simpa using hQ
theorem getMethod_ba {pl : Sem Bool} {Q : Value × List Value → Shared → Prop} (hb : s.heap.get? b = some (baObj l)) 
    (h : Q (.builtin "bytearray.append", [.ref b]) s) : wpAny (model prog w) A (getMethod (.ref b) "append" pl) Q E s := by
  have hT := ba_type hb
  unfold getMethod
  refine wpAny_bind (wpAny_specialOf hT ba_getattribute ?_)
  show wpAny _ A (if (Manifest.canonical "bytearray.__getattribute__" != "object.__getattribute__") = true then _ else _) Q E s
  rw [canon_ba, if_neg Bool.false_ne_true]
  refine wpAny_bind (wpAny_specialOf hT ba_getattr ?_)
  refine wpAny_bind (wpAny_specialOf hT slot_ba_append.lookup ?_)
  refine wpAny_bind (wpAny_of_eq type_ba_append ?_)
  refine wpAny_bind (wpAny_loadPart hb ?_)
  exact wpAny_bind (wpAny_rule (wpAny_pure h))
end
end
section
section
variable {prog : Program} {w : World} {A : Around} {E : Value → Shared → Prop} {s : Shared} {b : Addr} {l : List UInt8}
theorem nCallEntry {T : String} {name : Str} {id : String} {B : Builtin} {self : Value} {rest : List Value} {Q : Value → Shared → Prop} (h : Slot T name id) (hT : s.TypeIs self T)
    (hb : entryFor table id = some B) (hok : badIds.contains id = false)
    (hc : wpN (model prog w) A.in1 (B ⟨self :: rest, []⟩) (fun fin s' => ∃ v, fin = .done (.ret v) ∧ Q v s') E s) (ha : argsOk id ⟨self :: rest, []⟩) :
    wpN (model prog w) A (call (.builtin id) (self :: rest)) Q E s := by
  refine wpN_call (codeN_of_tree rfl (wpN_of_wpAny ?_))
  show wpAny _ _ (callAny (.builtin id) ⟨self :: rest, []⟩) _ _ s
  simp only [callAny]
  refine wpAny_bind (h.check _ _ _ _ _ _ _ _ hT ha ?_)
  refine wpAny_pure ⟨plainId_quiet h.plain _, codeN_of_tree (by show (!badIds.contains id) = true; rw [hok]; rfl) ?_⟩
  rw [Around.under_plainId h.plain _]
  show wpN _ _ (match entryFor table id with | some b => b ⟨self :: rest, []⟩ | none => unsupported ((withoutEnding? id "#data").getD id)) _ _ s
  rw [hb]
  refine wpN_mono hc (fun fin s' h' => ?_) fun _ _ h' => h'
  obtain ⟨v, rfl, hv⟩ := h'; exact hv
theorem exported_false {self : Value} {Q : Bool → Shared → Prop} (h : Q false s) : wpN (model prog w) A (Builtin.Bytes.exported self) Q E s := by
  unfold Builtin.Bytes.exported
  refine wpN_stackAny (fun c p hc => ?_) h
  cases c
  case builtin id args =>
    obtain ⟨pos, kw⟩ := args
    have hn : badIds.contains id = false := by
      have : (!badIds.contains id) = true := hc
      cases e : badIds.contains id with
      | true => rw [e] at this; cases this
      | false => rfl
    have k : ∀ x, badIds.contains x = true → id ≠ x := fun x hx e => by rw [e, hx] at hn; cases hn
    have hd : Builtin.Bytes.decodersThatHold.contains id = false := by
      unfold badIds at hn
      rw [List.contains_append, Bool.or_eq_false_iff] at hn
      exact hn.2
    delta Builtin.Bytes.exported.match_1
    with_unfolding_all show (dite (id = "bytearray.__contains__") _ _) = false
    rw [dif_neg (k _ (by decide +kernel)), dif_neg (k _ (by decide +kernel)), dif_neg (k _ (by decide +kernel)), dif_neg (k _ (by decide +kernel)), dif_neg (k _ (by decide +kernel))]
    cases pos with
    | nil => rfl
    | cons v r => show (Builtin.Bytes.sameRef v self && _) = false; rw [hd, Bool.and_false]
  all_goals rfl
theorem checkResize_N {Q : Unit → Shared → Prop} (hb : s.heap.get? b = some (baObj l)) (h : Q () s) : wpN (model prog w) A (Builtin.Bytes.checkResize (.ref b)) Q E s := by
  unfold Builtin.Bytes.checkResize
  refine wpN_bind ?_
  unfold orM
  refine wpN_bind (exported_false ?_)
  show wpN _ A (Builtin.Bytes.exportsOf (.ref b) >>= fun n => pure (decide (n > 0))) _ E s
  unfold Builtin.Bytes.exportsOf
  refine wpN_of_wpAny (wpAny_bind (wpAny_bind (wpAny_load hb ?_)))
  exact wpAny_pure (wpAny_pure (wpN_pure h))
theorem asIndex_int {i : Int} {t : Tok} {Q : Int → Shared → Prop} (h : Q i s) : wpAny (model prog w) A (asIndex (.int i t)) Q E s := by
  unfold asIndex asInt?
  exact wpAny_bind (wpAny_pure (wpAny_pure h))
theorem append_ba {i : Int} {t : Tok} {Q : Value → Shared → Prop} (hb : s.heap.get? b = some (baObj l)) (h0 : 0 ≤ i) (h1 : i < 256) (hl : l.length < 1000000)
    (h : ∀ h', Heap.SameBut b s.heap h' → h'.get? b = some (baObj (l ++ [i.toNat.toUInt8])) → Q .none { s with heap := h' }) :
    wpN (model prog w) A (call (.builtin "bytearray.append") [.ref b, .int i t]) Q E s := by
  refine nCallEntry slot_ba_append (ba_type hb) entry_ba_append (by decide +kernel) ?_ (args_ba_append _ _)
  unfold Builtin.«bytearray.append»
  refine wpN_bindA (wpAny_pure ?_)
  refine wpN_bindA ?_
  unfold Builtin.Bytes.byteValue
  refine wpAny_bind (asIndex_int ?_)
  rw [if_neg (by simp only [Bool.or_eq_true, decide_eq_true_eq]; omega)]
  refine wpAny_pure ?_
  refine wpN_bind (checkResize_N hb ?_)
  have hb' : (s.heap.update b (Obj.mapBytearray (·.push i.toNat.toUInt8))).get? b = some (baObj (l ++ [i.toNat.toUInt8])) := by
    rw [Heap.get?_update_self _ hb rfl]
    simp [Obj.mapBytearray]
  refine wpN_of_wpAny (wpAny_bind ?_)
  unfold Builtin.Bytes.write updateBytearray
  refine wpAny_bind (wpAny_load hb ?_)
  refine wpAny_bind (wpAny_update hb ?_)
  refine wpAny_lookBehind hb' ?_ ?_
  · show (if (l ++ [i.toNat.toUInt8]).toArray.size > sizeLine then _ else _) = _
    rw [if_neg (by rw [List.size_toArray, List.length_append, sizeLine_eq]; simp; omega)]
  · exact wpAny_pure ⟨_, rfl, h _ (Heap.SameBut.update ..) hb'⟩
end
end
section
section
variable {prog : Program} {w : World} {A : Around} {E : Value → Shared → Prop} {s : Shared} {b : Addr} {l : List UInt8}
theorem codeN_builtin {id : String} {args : Args} {b : Builtin} {R : Result → Shared → Prop} (hbad : badIds.contains id = false) (hb : entryFor table id = some b)
    (h : wpN (model prog w) (A.under (.builtin id args)) (b args) (fun fin s' => match fin with | .done f => R (.ok f) s' | .again c' => c'.quiet = true ∧ codeN (model prog w) A c' R s') (fun e s' => R (.error e) s') s) :
    codeN (model prog w) A (.builtin id args) R s := by
  refine codeN_of_tree (by show (!badIds.contains id) = true; rw [hbad]; rfl) ?_
  show wpN _ _ (match entryFor table id with | some b => b args | none => unsupported ((withoutEnding? id "#data").getD id)) _ _ s
  rw [hb]
  exact h
theorem wpN_if_false {α : Type} {M : Model} {c : Bool} {a b : Sem α} {Q : α → Shared → Prop} (hc : c = false) (h : wpN M A b Q E s) : wpN M A (if c = true then a else b) Q E s := by
  subst hc
  exact h
theorem callTypeN {T newId initId : String} {Bi : Builtin} {args : List Value} {Q Q₁ : Value → Shared → Prop} (ft : TypeCalled T newId initId)
    (hct : checkTypeCall T ⟨args, []⟩ = pure ()) (entryI : entryFor table initId = some Bi)
    (hnew : codeN (model prog w) A.in1 (.call (.builtin newId) ⟨.type T :: args, []⟩) (wants Q₁ E) s)
    (hbad : badIds.contains initId = false)
    (hnext : ∀ obj s₁, Q₁ obj s₁ → s₁.TypeIs obj T ∧ argsOk initId ⟨obj :: args, []⟩ ∧
      wpN (model prog w) A.in1.in1 (Bi ⟨obj :: args, []⟩)
        (fun fin s' => fin = .done (.ret .none) ∧ Q obj s') E s₁) :
    wpN (model prog w) A (call (.type T) args) Q E s := by
  obtain ⟨c, tl, hmro⟩ := ft.mro
  have hmade := ft.made
  have hsub := ft.sub
  have h1 := ft.notType
  have h2 := ft.canCreate
  refine wpN_call (codeN_of_tree rfl ?_)
  show wpN _ _ (callAny (.type T) _) _ _ _
  refine wpN_pure ⟨Code.quiet_builtin _ (by decide +kernel), codeN_builtin (by decide +kernel) F.entry_type_call ?_⟩
  rw [Around.under_plain (weight_type_call_type T args []) rfl]
  unfold Builtin.«type.__call__»
  refine wpN_if_false h1 ?_
  refine wpN_if_false h2 ?_
  refine wpN_bindA (wpAny_of_eq hct ?_)
  refine wpN_bindA (wpAny_of_eq hmro ?_)
  refine wpN_if_false rfl ?_
  refine wpN_bindA (wpAny_of_eq hmade ?_)
  refine wpN_bindA (wpAny_pure ?_)
  refine wpN_bind (wpN_holding (wpN_call (codeN_mono hnew fun r s₁ hr => ?_)))
  cases r with
  | error e => exact hr
  | ok fl =>
    cases fl with
    | ret obj =>
      obtain ⟨hT, hok, hsi⟩ := hnext _ _ hr
      refine wpN_bindA (wpAny_isInstance hT hsub ?_)
      refine wpN_if_false rfl ?_
      refine wpN_bind (wpN_holding ?_)
      unfold callSpecial?
      refine wpN_bindA (wpAny_specialOf hT ft.init.lookup ?_)
      dsimp only
      refine wpN_holding ?_
      refine wpN_bindA (wpAny_of_eq (ft.init.bind obj) ?_)
      dsimp only
      refine wpN_bind (wpN_call (codeN_of_tree rfl (wpN_of_wpAny ?_)))
      show wpAny _ _ (callAny (.builtin initId) ⟨obj :: args, []⟩) _ _ s₁
      simp only [callAny]
      refine wpAny_bind (ft.init.check _ _ _ _ _ _ _ _ hT hok ?_)
      refine wpAny_pure ⟨plainId_quiet ft.init.plain _, codeN_builtin hbad entryI ?_⟩
      rw [Around.under_plainId ft.init.plain _]
      refine wpN_mono hsi (fun fin s' h' => ?_) fun _ _ h' => h'
      obtain ⟨rfl, hq⟩ := h'
      exact wpN_pure (wpN_pure hq)
    | _ => exact hr.elim
theorem sub_ba : isSubtype (.type "bytearray") (.type "bytearray") = pure true := by rw [isSubtype_type]; kernel_rfl
theorem ba_mro : mroOf (.type "bytearray") = pure [.type "bytearray", .type "object"] := by rw [mroOf_type]; kernel_rfl
theorem ba_lookup_new : typeLookup (.type "bytearray") "__new__" = pure (some (.builtin "bytearray.__new__")) := by rw [typeLookup_type, builtinLookup_eq_fast]; kernel_rfl
theorem ba_slot_init : Slot "bytearray" "__init__" "bytearray.__init__" :=
  .of (owner := "bytearray") (n := "__init__") (by rw [typeLookup_type, builtinLookup_eq_fast]; kernel_rfl) (by decide +kernel) (by decide +kernel) (by decide +kernel)
    (by first | exact .inl (by decide +kernel) | exact .inr (by decide +kernel)) (by rw [isSubtype_type]; kernel_rfl)
theorem ba_called : TypeCalled "bytearray" "bytearray.__new__" "bytearray.__init__" :=
  ⟨by decide +kernel, by decide +kernel, ⟨_, _, ba_mro⟩, madeBy_type ba_mro ba_lookup_new (by decide +kernel), by decide +kernel, sub_ba, ba_slot_init⟩
theorem ba_typeCall : checkTypeCall "bytearray" ⟨[], []⟩ = pure () := by kernel_rfl
theorem ba_newCall : checkBuiltinCall "bytearray.__new__" ⟨[.type "bytearray"], []⟩ = pure () := by kernel_rfl
theorem ba_plain_new : plainId "bytearray.__new__" = true := by decide +kernel
theorem ba_entry_new : entryFor table "bytearray.__new__" = some Builtin.«list.__new__» :=
  entryFor_alias (id' := "list.__new__") (by rw [fastTable_eq_tree]; kernel_rfl) (by first | rfl | decide +kernel) (by decide +kernel) (by rw [fastTable_eq_tree]; kernel_rfl)
theorem ba_entry_init : entryFor table "bytearray.__init__" = some Builtin.«bytearray.__init__» := entryFor_of_tree (by kernel_rfl)
set_option maxRecDepth 1000000 in
set_option maxHeartbeats 4000000 in
theorem owner_ba_new : ("bytearray.__new__".splitOn ".__new__").headD "" = "bytearray" := by simp +decide [String.splitOn, String.splitOnAux]
theorem code_ba_new {Q₁ : Value → Shared → Prop}
    (h : Q₁ (.ref s.heap.objs.size) { s with heap := s.heap.push (baObj []) }) :
    codeAny (model prog w) A (.call (.builtin "bytearray.__new__") ⟨[.type "bytearray"], []⟩) (wants Q₁ E) s := by
  refine codeAny_of_tree ?_
  show wpAny _ A.in1 (do checkBuiltinCall "bytearray.__new__" ⟨[.type "bytearray"], []⟩; again (.builtin "bytearray.__new__" ⟨[.type "bytearray"], []⟩)) _ _ s
  refine wpAny_bind (wpAny_of_eq ba_newCall (wpAny_pure ⟨plainId_quiet ba_plain_new _, codeAny_builtin_stack ba_entry_new rfl fun p st => ?_⟩))
  rw [Around.under_plainId ba_plain_new _]
  have hsub := sub_ba
  have hown := owner_ba_new
  obtain ⟨hp, g, d, tk, os⟩ := s
  simp only [hown]
  wp_walk
  exact h
theorem ba_look_release : typeLookup (.type "bytearray") "__release_buffer__" = pure (some (.builtin "bytearray.__release_buffer__")) := by rw [typeLookup_type, builtinLookup_eq_fast]; kernel_rfl
theorem ba_look_buffer : typeLookup (.type "bytearray") "__buffer__" = pure (some (.builtin "bytearray.__buffer__")) := by rw [typeLookup_type, builtinLookup_eq_fast]; kernel_rfl
theorem ba_ownRelease {Q : Bool → Shared → Prop} (hb : s.heap.get? b = some (baObj l)) (h : Q false s) : wpAny (model prog w) A (Builtin.Bytes.ownRelease (.ref b)) Q E s := by
  unfold Builtin.Bytes.ownRelease Builtin.Bytes.slotIsOwn
  refine wpAny_bind (wpAny_bind (wpAny_specialOf (ba_type hb) ba_look_release ?_))
  dsimp only
  have q : ∀ x : String, x = "bytearray" → isInstance (.ref b) (.type x) = isInstance (.ref b) (.type "bytearray") := fun x hx => by rw [hx]
  split
  · rename_i hx
    exact absurd hx (by decide +kernel)
  · rw [q _ (by decide +kernel)]
    exact wpAny_isInstance (ba_type hb) sub_ba (wpAny_pure h)
theorem ba_bind0 : Builtin.Bytes.bindOptional "bytearray.__init__" "bytearray" ["source", "encoding", "errors"] [] [] = pure [none, none, none] := by kernel_rfl
theorem args_ba_init (a : Value) : argsOk "bytearray.__init__" ⟨[a], []⟩ := by unfold argsOk; kernel_rfl
theorem call_ba0 {Q : Value → Shared → Prop} (h : ∀ h', (∀ b o, s.heap.get? b = some o → h'.get? b = some o) → h'.get? s.heap.objs.size = some (baObj []) → Q (.ref s.heap.objs.size) { s with heap := h' }) :
    wpN (model prog w) A (call (.type "bytearray") []) Q E s := by
  refine callTypeN (Q₁ := fun obj s₁ => obj = .ref s.heap.objs.size ∧ s₁ = { s with heap := s.heap.push (baObj []) }) ba_called ba_typeCall ba_entry_init (codeN_of_codeAny (code_ba_new ⟨rfl, rfl⟩)) (by decide +kernel) ?_
  rintro obj s₁ ⟨rfl, rfl⟩
  have hb : (s.heap.push (baObj [])).get? s.heap.objs.size = some (baObj []) := Heap.get?_push_size _ rfl
  refine ⟨ba_type (s := { s with heap := s.heap.push (baObj []) }) hb, args_ba_init _, ?_⟩
  unfold Builtin.«bytearray.__init__»
  refine wpN_bindA (ba_ownRelease (s := { s with heap := s.heap.push (baObj []) }) hb ?_)
  refine wpN_if_false rfl ?_
  refine wpN_bindA (wpAny_of_eq ba_bind0 ?_)
  dsimp only
  refine wpN_bindA (wpAny_pure ?_)
  refine wpN_bindA (wpAny_pure ?_)
  refine wpN_bind ?_
  unfold orM
  refine wpN_bind (exported_false ?_)
  show wpN _ _ (Builtin.Bytes.exportsOf (.ref _) >>= fun n => pure (decide (n > 0))) _ E _
  unfold Builtin.Bytes.exportsOf
  refine wpN_of_wpAny (wpAny_bind (wpAny_bind (wpAny_load hb ?_)))
  refine wpAny_pure (wpAny_pure ?_)
  refine wpN_if_false rfl ?_
  have hb' : ((s.heap.push (baObj [])).update s.heap.objs.size (Obj.mapBytearray (fun _ => #[]))).get? s.heap.objs.size = some (baObj []) := by
    rw [Heap.get?_update_self _ hb rfl]
    rfl
  refine wpN_of_wpAny (wpAny_bind ?_)
  unfold Builtin.Bytes.write updateBytearray
  refine wpAny_bind (wpAny_load hb ?_)
  refine wpAny_bind (wpAny_update hb ?_)
  refine wpAny_lookBehind hb' ?_ ?_
  · show (if (List.toArray ([] : List UInt8)).size > sizeLine then some "bytearray:memory" else none) = none
    rw [if_neg (by simp)]
  · refine wpAny_bind (wpAny_pure (wpAny_pure ⟨rfl, h _ (fun b o e => ?_) hb'⟩))
    exact (Heap.SameBut.update ..).extBut b o (Nat.ne_of_lt (Heap.lt_size e)) (Heap.get?_push_of_some _ e)
end
end
section
section
variable {prog : Program} {w : World} {A : Around} {E : Value → Shared → Prop} {s : Shared} {b : Addr} {l : List UInt8}
theorem ba_no_bytes : typeLookup (.type "bytearray") "__bytes__" = pure none := by rw [typeLookup_type, builtinLookup_eq_fast]; kernel_rfl
theorem ba_no_index : typeLookup (.type "bytearray") "__index__" = pure none := by rw [typeLookup_type, builtinLookup_eq_fast]; kernel_rfl
theorem ba_ownBuffer {Q : Bool → Shared → Prop} (hb : s.heap.get? b = some (baObj l)) (h : Q true s) : wpAny (model prog w) A (Builtin.Bytes.slotIsOwn (.ref b) "__buffer__") Q E s := by
  unfold Builtin.Bytes.slotIsOwn
  refine wpAny_bind (wpAny_specialOf (ba_type hb) ba_look_buffer ?_)
  dsimp only
  have q : ∀ x : String, x = "bytearray" → isInstance (.ref b) (.type x) = isInstance (.ref b) (.type "bytearray") := fun x hx => by rw [hx]
  split
  · rename_i hx
    exact absurd hx (by decide +kernel)
  · rw [q _ (by decide +kernel)]
    exact wpAny_isInstance (ba_type hb) sub_ba h
theorem ba_payload {Q : Array UInt8 → Shared → Prop} (hb : s.heap.get? b = some (baObj l)) (h : Q l.toArray s) : wpAny (model prog w) A (Builtin.Bytes.payload (.ref b)) Q E s := by
  unfold Builtin.Bytes.payload Builtin.Bytes.payload?
  refine wpAny_bind (wpAny_bind (wpAny_load hb ?_))
  exact wpAny_pure (wpAny_pure h)
theorem ba_buffer {id : String} {full : Bool} {Q : Option (Array UInt8) → Shared → Prop} (hb : s.heap.get? b = some (baObj l)) (h : Q (some l.toArray) s) : wpAny (model prog w) A (Builtin.Bytes.buffer? id (.ref b) full) Q E s := by
  unfold Builtin.Bytes.buffer?
  refine wpAny_bind (wpAny_specialOf (ba_type hb) ba_look_buffer ?_)
  dsimp only
  refine wpAny_bind (ba_ownBuffer hb ?_)
  refine wpAny_bind (wpAny_specialOf (ba_type hb) ba_look_buffer ?_)
  refine wpAny_bind (ba_ownRelease hb ?_)
  refine bm_if_false rfl ?_
  exact wpAny_bind (ba_payload hb (wpAny_pure h))
theorem bytes_new_ba {Q : Value → Shared → Prop} (hb : s.heap.get? b = some (baObj l)) (hz : l.length < 1000000)
    (hQ : ∀ t k, Q (.bytes l.toArray t) { s with toks := k }) :
    codeAny (model prog w) A (.call (.builtin "bytes.__new__") ⟨[.type "bytes", .ref b], []⟩) (wants Q E) s := by
  refine codeAny_of_tree ?_
  show wpAny _ A.in1 (do checkBuiltinCall "bytes.__new__" ⟨[.type "bytes", .ref b], []⟩; again (.builtin "bytes.__new__" ⟨[.type "bytes", .ref b], []⟩)) _ _ s
  refine wpAny_bind (wpAny_of_eq (F.bm_newCall _) (wpAny_pure ⟨plainId_quiet F.bm_plain _, codeAny_builtin F.bm_entry ?_⟩))
  rw [Around.under_plainId F.bm_plain _]
  have hT := ba_type hb
  unfold Builtin.«bytes.__new__»
  refine wpAny_bind (wpAny_of_eq (a := true) rfl ?_)
  refine bm_if_false rfl ?_
  refine wpAny_bind (wpAny_of_eq F.bm_sub ?_)
  refine bm_if_false rfl ?_
  refine wpAny_bind (wpAny_of_eq (F.bm_bind _) ?_)
  refine wpAny_bind (wpAny_of_eq (a := ()) rfl ?_)
  refine wpAny_bind (wpAny_of_eq (a := ()) rfl ?_)
  refine bm_if_false rfl ?_
  refine wpAny_bind (wpAny_specialOf hT ba_no_bytes ?_)
  refine wpAny_bind (wpAny_bind ?_)
  show wpAny _ _ (load b >>= _) _ _ _
  refine wpAny_bind (wpAny_load hb ?_)
  refine wpAny_pure (wpAny_pure ?_)
  refine bm_if_false rfl ?_
  refine wpAny_bind (wpAny_specialOf hT ba_no_index ?_)
  refine bm_if_true rfl ?_
  first
    | show wpAny _ _ (Builtin.Bytes.buffer? "bytes.__new__" (.ref b) true >>= _) _ _ _
    | (refine wpAny_bind ?_; show wpAny _ _ (Builtin.Bytes.buffer? "bytes.__new__" (.ref b) true >>= _) _ _ _)
  refine wpAny_bind (ba_buffer hb ?_)
  dsimp only
  refine wpAny_bind (wpAny_rule ?_)
  refine wpAny_bind (wpAny_mkBytes ?_ ?_)
  · show wpAny _ _ (if (Value.type "bytes" == Value.type "bytes") = true then _ else _) _ _ _
    refine bm_if_true (by decide) ?_
    first
      | exact wpAny_pure (hQ _ _)
      | exact wpAny_bind (wpAny_pure (wpAny_pure (hQ _ _)))
  · rw [List.size_toArray, sizeLine_eq]; omega
theorem bytes_ba {Q : Value → Shared → Prop} (hb : s.heap.get? b = some (baObj l)) (hz : l.length < 1000000)
    (hQ : ∀ t k, Q (.bytes l.toArray t) { s with toks := k }) : wpAny (model prog w) A (call (.type "bytes") [.ref b]) Q E s := by
  refine callType_codes (Q₁ := fun obj s₁ => s₁.TypeIs obj "bytes" ∧ Q obj s₁) F.bm_called (F.bm_typeCall _) F.entry_object_init
    (bytes_new_ba hb hz fun t k => ⟨PySem.W.typeIs_bytes _ _ _, hQ t k⟩) fun obj s₁ h₁ => ?_
  exact ⟨h₁.1, F.args_object_init_2 obj _, object_init_meets F.bm_called.init.lookup F.bm_called.made (by decide) prog w A.in1 _ s₁ ⟨h₁.1, rfl, h₁.2⟩⟩
end
end
section
open Builtin
section
variable {prog : Program} {w : World} {A : Around} {E : Value → Shared → Prop} {s : Shared} {b : Addr} {l : List UInt8}
theorem slot_ba_getitem : Slot "bytearray" "__getitem__" "bytearray.__getitem__" :=
  .of (owner := "bytearray") (n := "__getitem__") (by rw [typeLookup_type, builtinLookup_eq_fast]; kernel_rfl) (by decide +kernel) (by decide +kernel) (by decide +kernel)
    (by first | exact .inl (by decide +kernel) | exact .inr (by decide +kernel)) (by rw [isSubtype_type]; kernel_rfl)
theorem entry_ba_getitem : entryFor table "bytearray.__getitem__" = some Builtin.«bytearray.__getitem__» := entryFor_of_tree (by kernel_rfl)
theorem args_ba_getitem (a b : Value) : argsOk "bytearray.__getitem__" ⟨[a, b], []⟩ := by unfold argsOk; kernel_rfl
noncomputable def cutB (l : List UInt8) (lo hi : Option Int) : List UInt8 := (l.drop (lo.elim 0 (clipAt l.length))).take (hi.elim l.length (clipAt l.length) - lo.elim 0 (clipAt l.length))
theorem cutB_len (l : List UInt8) (lo hi : Option Int) : (cutB l lo hi).length ≤ l.length := by
  unfold cutB
  rw [List.length_take, List.length_drop]; omega
theorem ba_sliced (l : List UInt8) (lo hi : Option Int) : Bytes.sliced l.toArray (sliceBounds lo hi none l.toArray.size).1 (sliceBounds lo hi none l.toArray.size).2.1 (sliceBounds lo hi none l.toArray.size).2.2 = (cutB l lo hi).toArray := by
  have := KBc.picked_eq l.toArray lo hi
  unfold KBy.picked at this
  rw [this]
  simp [cutB]
theorem meets_ba_slice {a : Addr} {v u : Value} {lo hi : Option Int} (hl : IsPart v lo) (hu : IsPart u hi) :
    Meets («bytearray.__getitem__» ⟨[.ref b, .ref a], []⟩) (fun _ R s => s.heap.IsSliceOf a v u .none ∧ s.heap.get? b = some (baObj l) ∧ l.length < 1000000 ∧
      R (.ok (.ret (.ref s.heap.objs.size))) { s with heap := s.heap.push (baObj (cutB l lo hi)) }) := by
  refine .of_wp fun prog w A R s hS => ?_
  obtain ⟨⟨o, ho, hc, hd⟩, hb, hsz, h⟩ := hS
  have hT : s.TypeIs (.ref a) "slice" := ⟨o, ho, hc⟩
  unfold Builtin.«bytearray.__getitem__»
  refine wpAny_bind (wpAny_pure ?_)
  dsimp only
  show wpAny _ _ (Bytes.subscript? (.ref a) >>= fun r => _) _ _ s
  refine wpAny_bind ?_
  unfold Bytes.subscript?
  refine wpAny_bind (wpAny_specialOf hT slice_no_index (wpAny_pure ?_))
  refine wpAny_bind (wpAny_typeOf hT ?_)
  refine wpAny_ite (KBy.ite_no (show ¬ ((Value.type "slice" != Value.type "slice") = true) by decide) ?_)
  refine wpAny_bind ?_
  unfold Bytes.sliceParts
  refine wpAny_bind (wpAny_field (x := .none) ho hd rfl ?_)
  kby_none
  refine wpAny_ite (KBy.ite_no (show ¬ ((Value.none == rawInt 0) = true) from Bool.false_ne_true) ?_)
  refine wpAny_bind (wpAny_field (x := v) ho hd rfl ?_)
  have go : wpAny (model prog w) A.in1 (sliceIndices (rawPart lo) (rawPart hi) (rawPart none) l.toArray.size) (fun r s' => r = sliceBounds lo hi none l.toArray.size ∧ s' = s) (fun _ _ => False) s :=
    wpAny_of_eq (sliceIndices_raw lo hi none l.toArray.size (fun e => nomatch e)) ⟨rfl, rfl⟩
  cases hl <;> cases hu <;> (first
    | (kby_none; (refine wpAny_bind (wpAny_field (x := .none) ho hd rfl ?_)); kby_none)
    | (kby_none; (refine wpAny_bind (wpAny_field (x := .int _ _) ho hd rfl ?_)); kby_int)
    | (kby_int; (refine wpAny_bind (wpAny_field (x := .none) ho hd rfl ?_)); kby_none)
    | (kby_int; (refine wpAny_bind (wpAny_field (x := .int _ _) ho hd rfl ?_)); kby_int)) <;> refine wpAny_pure ?_
  all_goals
    refine wpAny_bind (ba_payload hb ?_)
    refine wpAny_bind (wpAny_mono go (fun r s' hr => ?_) fun _ _ e => e.elim)
    obtain ⟨hr1, hr2⟩ := hr
    subst hr1 hr2
    refine wpAny_bind ?_
    unfold Bytes.newBytearray
    rw [ba_sliced]
    refine wpAny_newObj_type (wpAny_pure ⟨_, rfl, h⟩) ?_
    show (cutB l _ _).toArray.size ≤ sizeLine
    rw [List.size_toArray, sizeLine_eq]
    have := cutB_len l
    exact Nat.le_trans (cutB_len _ _ _) (by omega)
theorem ba_slice {value slice : PySem.Expr} {v u : Value} {lo hi : Option Int} {Q : Value → Shared → Prop} {g : Heap} {L : Addr} {m : Str → Option Value} {news : List (Addr × Obj)} (F : Fr g L s.heap m) (N : News g L s.heap news)
    (hb : s.heap.get? b = some (baObj l)) (hl : IsPart v lo) (hu : IsPart u hi) (hz : l.length < 1000000)
    (h : ∀ h' b', Fr g L h' m → News g L h' ((b', baObj (cutB l lo hi)) :: news) → Q (.ref b') { s with heap := h' })
    (hs : subscripted slice false (.ref b) (.ref s.heap.objs.size) = operate [.ref s.heap.objs.size, .ref b] (getItem (.ref b) (.ref s.heap.objs.size)) := by with_unfolding_all rfl)
    (ht : ∀ r, letTemporaryGo value (.ref b) r = pure () := by intro _; with_unfolding_all rfl) :
    wpAny (model prog w) A (subscriptTail value slice (.ref b) (.ref s.heap.objs.size)) Q E { s with heap := s.heap.push { cls := .type "slice", data := .fields #[v, u, .none] } } := by
  have hb' : (s.heap.push { cls := .type "slice", data := .fields #[v, u, .none] }).get? b = some (baObj l) := Heap.get?_push_of_some _ hb
  have hT : Shared.TypeIs { s with heap := s.heap.push { cls := .type "slice", data := .fields #[v, u, .none] } } (.ref b) "bytearray" := ⟨_, hb', rfl⟩
  refine tail_of_ItemOn ⟨"bytearray", _, slot_ba_getitem.lookup, hT, getItem_meets hT (by decide) slot_ba_getitem entry_ba_getitem (args_ba_getitem _ _) (meets_ba_slice hl hu)
    ⟨Heap.IsSliceOf.new _ _ _ _, hb', hz, ?_⟩⟩ hs ht
  refine h _ _ ((F.push _).push _) ?_
  exact News.push (F.push _) (N.pushKeep _) _ rfl
theorem bySlice {value slice : PySem.Expr} {t : Tok} {v u : Value} {lo hi : Option Int} {Q : Value → Shared → Prop} {g : Heap} {L : Addr} {m : Str → Option Value} {news : List (Addr × Obj)} (F : Fr g L s.heap m) (N : News g L s.heap news)
    (hl : IsPart v lo) (hu : IsPart u hi) (hz : l.length < 1000000)
    (h : ∀ h' t' k, Fr g L h' m → News g L h' news → Q (.bytes (cutB l lo hi).toArray t') { s with heap := h', toks := k })
    (hs : subscripted slice false (.bytes l.toArray t) (.ref s.heap.objs.size) = operate [.ref s.heap.objs.size, .bytes l.toArray t] (getItem (.bytes l.toArray t) (.ref s.heap.objs.size)) := by with_unfolding_all rfl)
    (ht : ∀ r, letTemporaryGo value (.bytes l.toArray t) r = pure () := by intro _; with_unfolding_all rfl) :
    wpAny (model prog w) A (subscriptTail value slice (.bytes l.toArray t) (.ref s.heap.objs.size)) Q E { s with heap := s.heap.push { cls := .type "slice", data := .fields #[v, u, .none] } } := by
  refine KBc.slice_K F N (ks := KBw.bInts l.toArray) rfl hl hu (by rw [KBw.ints_length, List.size_toArray]; omega) (fun h' t' k F' N' _ => ?_) hs ht
  have e : KBy.picked l.toArray lo hi = (cutB l lo hi).toArray := by
    rw [KBc.picked_eq]
    simp [cutB]
  rw [e]
  exact h h' t' k F' N'
end
end
section
open Builtin
section
variable {prog : Program} {w : World} {A : Around} {E : Value → Shared → Prop} {s : Shared}
theorem contains_bytes_int {l : List UInt8} {t u : Tok} {a : UInt8} {Q : Bool → Shared → Prop} (h : Q (l.toArray.contains a) s) : wpAny (model prog w) A (contains (.bytes l.toArray t) (.int a.toNat u)) Q E s := by
  have hT : s.TypeIs (.bytes l.toArray t) "bytes" := PySem.W.typeIs_bytes _ _ _
  unfold contains
  refine wpAny_holding ?_
  refine wpAny_bind (wpAny_specialOf hT FB.slot_bytes_contains.lookup ?_)
  rw [if_neg (by decide)]
  refine wpAny_bind (wpAny_callSpecialUnlessNone?_slot (name := Str.ofString "__contains__") hT FB.slot_bytes_contains
    (wpAny_call_entry FB.slot_bytes_contains hT FB.entry_bytes_contains ?_ (FB.args_bytes_contains_2 _ _)))
  unfold Builtin.«bytes.__contains__»
  refine wpAny_bind (wpAny_pure ?_)
  dsimp only
  refine wpAny_bind ?_
  unfold Bytes.containsIn
  refine wpAny_bind (wpAny_attempt (asIndex_int ?_))
  refine wpAny_bind (wpAny_of_eq KBy.buffer_eq ?_)
  have h256 := a.toNat_lt
  refine bm_if_false (by simp only [Bool.or_eq_false_iff, decide_eq_false_iff_not]; omega) ?_
  refine wpAny_pure (wpAny_pure ⟨_, rfl, wpAny_truthy_bool ?_⟩)
  have e : ((a.toNat : Int).toNat).toUInt8 = a := by simp
  rw [e]
  exact h
theorem in_bytes {l : List UInt8} {t u : Tok} {a : UInt8} {Q : Value → Shared → Prop} (h : Q (.bool (l.toArray.contains a)) s) : wpAny (model prog w) A (compareOp .In (.int a.toNat u) (.bytes l.toArray t)) Q E s := by
  show wpAny _ _ (do return .bool (← contains (.bytes l.toArray t) (.int a.toNat u))) Q E s
  exact wpAny_bind (contains_bytes_int (wpAny_pure h))
theorem bitAnd_m64 (x : Int) : Builtin.bitAnd x (2 ^ 64 - 1) = x % 2 ^ 64 := by
  by_cases hx : 0 ≤ x
  · rw [bitAnd_pp hx (by decide)]
    have h : x.toNat &&& (2 ^ 64 - 1 : Int).toNat = x.toNat % 2 ^ 64 := Nat.and_two_pow_sub_one_eq_mod x.toNat 64
    rw [h]
    omega
  · rw [bitAnd_np hx (by decide)]
    have h : (2 ^ 64 - 1 : Int).toNat &&& (Builtin.bitNot x).toNat = (Builtin.bitNot x).toNat % 2 ^ 64 := by
      rw [Nat.and_comm]
      exact Nat.and_two_pow_sub_one_eq_mod (Builtin.bitNot x).toNat 64
    rw [h]
    unfold Builtin.bitNot
    omega
end
end
section
open Builtin
theorem slot_by_find : Slot "bytes" "find" "bytes.find" :=
  .of (owner := "bytes") (n := "find") (by rw [typeLookup_type, builtinLookup_eq_fast]; kernel_rfl) (by decide +kernel) (by decide +kernel) (by decide +kernel)
    (by first | exact .inl (by decide +kernel) | exact .inr (by decide +kernel)) (by rw [isSubtype_type]; kernel_rfl)
theorem entry_by_find : entryFor table "bytes.find" = some Builtin.«bytes.find» := entryFor_of_tree (by kernel_rfl)
theorem args_by_find (a b : Value) : argsOk "bytes.find" ⟨[a, b], []⟩ := by unfold argsOk; kernel_rfl
noncomputable def fndI (a : UInt8) : Int := if a = 97 then 0 else if a = 98 then 1 else if a = 102 then 2 else if a = 110 then 3 else if a = 114 then 4 else if a = 116 then 5 else if a = 118 then 6 else -1
theorem find_esc (a : UInt8) : (match Bytes.find? #[97, 98, 102, 110, 114, 116, 118] #[a] 0 7 with | some i => (i : Int) | none => -1) = fndI a := by
  have h : ∀ n : Nat, n < 256 → (match Bytes.find? #[97, 98, 102, 110, 114, 116, 118] #[UInt8.ofNat n] 0 7 with | some i => (i : Int) | none => -1) = fndI (UInt8.ofNat n) := by decide +kernel
  have := h a.toNat a.toNat_lt
  rwa [UInt8.ofNat_toNat] at this
section
variable {prog : Program} {w : World} {A : Around} {E : Value → Shared → Prop} {s : Shared}
theorem by_find {a : UInt8} {t u : Tok} {Q : Value → Shared → Prop} (h : ∀ t tk, Q (.int (fndI a) t) { s with toks := tk }) :
    wpAny (model prog w) A (call (.builtin "bytes.find") [.bytes #[97, 98, 102, 110, 114, 116, 118] t, .bytes #[a] u]) Q E s := by
  have hT : s.TypeIs (.bytes #[97, 98, 102, 110, 114, 116, 118] t) "bytes" := PySem.W.typeIs_bytes _ _ _
  refine wpAny_call_entry slot_by_find hT entry_by_find ?_ (args_by_find _ _)
  unfold Builtin.«bytes.find» Bytes.searchM Bytes.searchArgs
  dsimp only
  refine wpAny_bind (wpAny_bind ?_)
  refine wpAny_of_eq (a := (Value.bytes #[97, 98, 102, 110, 114, 116, 118] t, [Value.bytes #[a] u])) rfl ?_
  dsimp only
  refine wpAny_bind (wpAny_of_eq (a := none) rfl ?_)
  refine wpAny_bind (wpAny_of_eq (a := none) rfl ?_)
  refine wpAny_bind (wpAny_of_eq (a := some #[a]) KBy.buffer_eq ?_)
  dsimp only
  refine wpAny_bind (wpAny_pure ?_)
  refine wpAny_bind (wpAny_of_eq (a := #[97, 98, 102, 110, 114, 116, 118]) rfl ?_)
  refine wpAny_pure ?_
  have e : ((if (Bytes.window (#[97, 98, 102, 110, 114, 116, 118] : Array UInt8).size none none).snd - (Bytes.window (#[97, 98, 102, 110, 114, 116, 118] : Array UInt8).size none none).fst < ((#[a] : Array UInt8).size : Int) then (none : Option (Nat × Nat))
    else some ((Bytes.window (#[97, 98, 102, 110, 114, 116, 118] : Array UInt8).size none none).fst.toNat, (Bytes.window (#[97, 98, 102, 110, 114, 116, 118] : Array UInt8).size none none).snd.toNat))) = some (0, 7) := rfl
  dsimp only
  rw [e]
  have hf := find_esc a
  show wpAny _ _ (match Bytes.find? #[97, 98, 102, 110, 114, 116, 118] #[a] 0 7 with | some i => retInt i | none => _) _ _ _
  cases hq : Bytes.find? #[97, 98, 102, 110, 114, 116, 118] #[a] 0 7 with
  | some i =>
    rw [hq] at hf
    dsimp only at hf ⊢
    unfold retInt
    refine wpAny_bind (wpAny_mkInt (wpAny_pure ⟨_, rfl, ?_⟩))
    rw [hf]
    exact h _ _
  | none =>
    rw [hq] at hf
    dsimp only at hf ⊢
    refine wpAny_bind (wpAny_rule ?_)
    rw [if_neg (by decide)]
    unfold retInt
    refine wpAny_bind (wpAny_mkInt (wpAny_pure ⟨_, rfl, ?_⟩))
    rw [hf]
    exact h _ _
theorem type_by_find : typeOf (.builtin "bytes.find") = pure (.type "method_descriptor") := by show builtinType _ = _; rw [builtinType_eq_fast]; kernel_rfl
theorem meth_find {b : Array UInt8} {t : Tok} {pl : Sem Bool} {Q : Value × List Value → Shared → Prop} (h : Q (.builtin "bytes.find", [.bytes b t]) s) : wpAny (model prog w) A (getMethod (.bytes b t) "find" pl) Q E s :=
  getMethod_builtin (PySem.W.typeIs_bytes _ _ _) FB.plainAttrs_bytes slot_by_find type_by_find (fun _ e => nomatch e) h
end
end
section
set_option maxHeartbeats 4000000
open Builtin
section
variable {prog : Program} {w : World} {A : Around} {K : Frag} {C : Addr} {R : Result → Shared → Prop} {h : Heap} {g : Array GenState} {d : Drawn} {t : Nat} {os : OsState}
theorem codeN_call_builtin_at {s : Shared} {id : String} {args : Args} {b : Builtin} (hq : (Code.builtin id args).quiet = true) (hbad : badIds.contains id = false) (hb : entryFor table id = some b)
    (h : wpAny (model prog w) A.in1 (checkBuiltinCall id args) (fun _ s₁ => wpN (model prog w) (A.under (.builtin id args)) (b args)
      (fun fin s' => match fin with | .done f => R (.ok f) s' | .again c' => c'.quiet = true ∧ codeN (model prog w) A c' R s') (fun e s' => R (.error e) s') s₁)
      (fun e s' => R (.error e) s') s) : codeN (model prog w) A (.call (.builtin id) args) R s := by
  refine codeN_of_tree rfl (wpN_of_wpAny ?_)
  show wpAny _ A.in1 (do checkBuiltinCall id args; again (.builtin id args)) _ _ s
  exact wpAny_bind (wpAny_mono h (fun _ s₁ h₁ => wpAny_pure (And.intro hq (codeN_builtin hbad hb h₁))) fun _ _ h' => h')
theorem makeN_core {rest : List Value} {kw : List (Str × Value)} {init : Value} (Y : Makes (model prog w) h C) (hi : Looks (model prog w) h (typeLookup (.ref C) "__init__") (some init))
    (hb : ∀ self, Looks (model prog w) h (bindSpecial init self) (init, [self])) (hne : (some init != some (Value.builtin "object.__init__")) = true ∨ (rest = [] ∧ kw = []))
    (hq : codeN (model prog w) (A.under (.builtin "type.__call__" ⟨.ref C :: rest, kw⟩)) (.call init ⟨.ref (h.objs.size + 1) :: rest, kw⟩) (InitBack (h.objs.size + 1) R) ⟨(h.push emptyDict).push (instObj C h.objs.size), g, d, t, os⟩) :
    codeN (model prog w) A (.call (.ref C) ⟨rest, kw⟩) R ⟨h, g, d, t, os⟩ := by
  have Y' := Y
  obtain ⟨⟨oc, od, cd, sl, hC, e1, e2, e4⟩, made, base, self, top, call, typ⟩ := Y
  refine codeN_of_tree rfl (wpN_of_wpAny ?_)
  show wpAny _ _ (callAny (.ref C) _) _ _ _
  refine nd_load hC ?_
  show wpAny _ _ (callAny.viaDunder (.ref C) _) _ _ _
  unfold callAny.viaDunder
  refine wpAny_bind (call.at ?_)
  dsimp only
  rw [tc_bind]
  refine wpAny_bind (wpAny_pure (wpAny_bind (wpAny_pure ?_)))
  refine wpAny_pure (a := Fin.again (.call (.builtin "type.__call__") ⟨.ref C :: rest, kw⟩)) (And.intro rfl ?_)
  refine codeN_call_builtin_at (Code.quiet_builtin _ (by decide +kernel)) (by decide +kernel) entry_typeCall (check_slot tc_kind tc_split typ (tc_args _ _ _) ?_)
  unfold Builtin.«type.__call__»
  have hm : Looks (model prog w) h (mroOf (.ref C)) cd.mro := ((Looks.ld (part := none) hC).andThen .now).andThen .now
  refine wpN_if_false rfl ?_
  dsimp only
  refine wpN_bindA ?_
  repeat lk
  refine wpN_if_false e4 ?_
  (try dsimp only)
  refine wpN_bindA ?_
  repeat lk
  (try dsimp only)
  refine wpN_bindA (wpAny_pure ?_)
  refine wpN_bind (wpN_holding (wpN_call (codeN_of_codeAny (new_K Y' hi hne ?_))))
  have k : ∀ b o, h.get? b = some o → ((h.push emptyDict).push (instObj C h.objs.size)).get? b = some o := fun b o e => Heap.get?_push_of_some _ (Heap.get?_push_of_some _ e)
  have hx : ((h.push emptyDict).push (instObj C h.objs.size)).get? (h.objs.size + 1) = some (instObj C h.objs.size) := by heap_get
  have t1 : Looks (model prog w) ((h.push emptyDict).push (instObj C h.objs.size)) (typeOf (.ref (h.objs.size + 1))) (.ref C) := (Looks.ld hx).andThen .now
  have s1 := self.keeps k
  have i1 := hi.keeps k
  have b1 := (hb (.ref (h.objs.size + 1))).keeps k
  (try dsimp only)
  unfold isInstance callSpecial? specialOf
  refine wpN_bindA ?_
  repeat lk
  refine wpN_if_false rfl ?_
  refine wpN_bind (wpN_holding ?_)
  refine wpN_bindA ?_
  repeat lk
  (try dsimp only)
  refine wpN_holding ?_
  refine wpN_bindA ?_
  repeat lk
  (try dsimp only)
  refine wpN_bind (wpN_call (codeN_mono hq fun r s' z => ?_))
  rcases r with e | (v | _ | _ | _) <;> first | exact z | exact z.elim | skip
  obtain ⟨rfl, z⟩ := z
  exact wpN_pure (wpN_pure z)
end
section
variable {prog : Program} {w : World} {A : Around} {K : Frag} {C x : Addr} {s : Shared} {h₀ : Heap} {L : Addr} {m : Str → Option Value} {news : List (Addr × Obj)} {R : Result → Shared → Prop}
theorem makeN_K {rest : List Value} {kw : List (Str × Value)} {fI : Addr} (F : Fr h₀ L s.heap m) (N : News h₀ L s.heap news) (X : K.In s.heap) (hm : makesIn K C = true)
    (hi : findIn K (.ref C) "__init__" = some (some (.ref fI))) (hf : typeIn K (.ref fI) = some (.type "function"))
    (h : ∀ x dx h', Fr h₀ L h' m → News h₀ L h' ((x, instObj C dx) :: (dx, emptyDict) :: news) → (∀ p ∈ news, p.1 < dx) → dx < x →
      codeN (model prog w) (A.under (.builtin "type.__call__" ⟨.ref C :: rest, kw⟩)) (.call (.ref fI) ⟨.ref x :: rest, kw⟩) (InitBack x R) { s with heap := h' }) :
    codeN (model prog w) A (.call (.ref C) ⟨rest, kw⟩) R s := by
  obtain ⟨hh, g, d, t, os⟩ := s
  refine makeN_core (makes_of X hm) (looks_findIn X hi) (fun self => bind_fn X self hf) (.inl rfl) (h _ hh.objs.size _ ((F.push _).push _) ?_ (fun p hp => Heap.lt_size (N p hp).1) (Nat.lt_succ_self _))
  have := (N.push F emptyDict).push (F.push _) (instObj C hh.objs.size)
  rwa [Heap.size_push] at this
end
end
section
open Builtin Builtin.ObjectAttr
noncomputable abbrev excObj (t : Addr) (dd : Option Addr) : Obj := { cls := .ref 87, dict := dd, data := .fields #[.ref t, .none, .none, .none, .bool false, .none] }
noncomputable abbrev excMro : List Value := [.ref 87, .ref 74, .type "Exception", .type "BaseException", .type "object"]
theorem exc_refuse (self : Value) : refuseLoop self "__setattr__" excMro = pure () := by
  rw [refuseLoop_ref, refuseLoop_ref]; exact PySem.F.store_Exception.passes self
section
variable {prog : Program} {w : World} {A : Around} {s : Shared} {R : Result → Shared → Prop} {E : Value → Shared → Prop} {g : Heap} {L : Addr} {m : Str → Option Value} {K : Frag} {cd : ClassData}
theorem osa_openE {x : Addr} {ox : Obj} {od : Option Obj} {name : Str} {tk : Tok} {v : Value} (X : K.In s.heap) (I : InstAt s.heap x ox 87 od) (hc : clsIn K 87 = some cd) (hm' : cd.mro = excMro) (ht : findIn K (.ref 87) name = some none)
    (h : ∀ b, wpAny (model prog w) A.in1 (storeInOwnDict (.ref x) (.ref 87) (.str name tk) name v b)
      (fun fin s' => match fin with | .done f => R (.ok f) s' | .again c' => c'.quiet = true ∧ codeAny (model prog w) A c' R s') (fun e s' => R (.error e) s') s) :
    codeAny (model prog w) A (.call (.builtin "object.__setattr__") ⟨[.ref x, .str name tk, v], []⟩) R s := by
  have SF := PySem.F.store_object
  have sub : Looks (model prog w) s.heap (isInstance (.ref x) (.type "object")) true := I.type.andThen (looks_mroIn X (by unfold mroIn; rw [hc, Option.bind_some, hm']; decide))
  refine codeAny_call_builtin SF.slot.plain SF.entry (@check_slot (model prog w) _ _ s "object.__setattr__" "object" "__setattr__" (.ref x) [.str name tk, v] [] _ SF.kind SF.split sub (SF.args (.ref x) (.str name tk) v) ?_)
  have hm : Looks (model prog w) s.heap (mroOf (.ref 87)) cd.mro := (looks_clsIn X hc).andThen .now
  have L3 : Looks (model prog w) s.heap (storeTaker? none) none := .now
  rw [osa_eq, refuse_eq]
  refine wpAny_bind (wpAny_bind (I.type.here (wpAny_bind (hm.here ?_))))
  rw [hm', exc_refuse]
  refine wpAny_pure (wpAny_bind (I.type.here (wpAny_bind ((looks_findIn X ht).here (wpAny_bind (L3.here ?_))))))
  exact h _
theorem nsSet_led {d : Addr} {es : List DictEntry} {n : Nat} {name : Str} {v : Value} {tk : Tok} {pre post : List (Addr × Obj)} (F : Fr g L s.heap m) (N : News g L s.heap (pre ++ (d, dictOf es n) :: post))
    (h1 : ∀ p ∈ pre, p.1 ≠ d) (h2 : ∀ p ∈ post, p.1 ≠ d) (hl : (getL name es).isSome = true) (hz : (putL name (PyData.keyHash w.params name) (.str name s.toks) v es).length ≤ 1000)
    {Q : Fin → Shared → Prop} (h : ∀ h', Fr g L h' m → News g L h' (pre ++ (d, dictOf (putL name (PyData.keyHash w.params name) (.str name s.toks) v es) (putN name es n)) :: post) → Q (.done (.ret .none)) { s with heap := h', toks := s.toks + 1 }) :
    wpAny (model prog w) A (storeInDict d (.str name tk) name v) Q E s := by
  have e : Obj.putName name (PyData.keyHash w.params name) (.str name s.toks) v (dictOf es n) = dictOf (putL name (PyData.keyHash w.params name) (.str name s.toks) v es) (putN name es n) := putName_dict ..
  obtain ⟨U1, U2⟩ := news_upd (f := Obj.putName name (PyData.keyHash w.params name) (.str name s.toks) v) F N h1 h2 e rfl
  have D := (N (d, dictOf es n) (by simp)).1
  have D' := (U2 _ (List.mem_append_right _ (.head _))).1
  unfold storeInDict nsSet
  refine wpAny_bind (wpAny_pure (wpAny_bind ?_))
  refine wpAny_bind (wpAny_bind (wpAny_askSetting (wpAny_pure (wpAny_bind (wpAny_mkText (wpAny_bind (wpAny_loadPart D ?_)))))))
  have c : (!es.toArray.any (·.key.isStr name) && es.toArray.any (·.refKey)) = false := by
    unfold getL at hl
    rw [← Array.any_toList, ← Array.any_toList]
    split at hl
    · rename_i en he
      rw [List.any_eq_true.mpr ⟨en, List.mem_of_find?_eq_some he, List.find?_some he⟩]; rfl
    · split at hl
      · cases hl
      · rename_i z; rw [Bool.not_eq_true] at z; rw [z, Bool.and_false]
  dsimp only
  rw [aRefKeyMayBeTheName_at, c]
  refine wpAny_updatePart D ?_
  refine wpAny_bind (wpAny_lookBehind D' (pastItsLine_dict (by rw [List.size_toArray, sizeLine_eq]; omega)) ?_)
  exact wpAny_pure (h _ U1 U2)
theorem wpA_if_false {α : Type} {M : Model} {c : Bool} {a b : Sem α} {Q : α → Shared → Prop} (hc : c = false) (h : wpAny M A b Q E s) : wpAny M A (if c = true then a else b) Q E s := by
  subst hc
  exact h
theorem exc_set1 {e t : Addr} {name : Str} {v : Value} {rest : List (Addr × Obj)} (F : Fr g L s.heap m) (N : News g L s.heap ((e, excObj t none) :: rest)) (X : K.In g) (hne : ∀ p ∈ rest, p.1 ≠ e)
    (hc : clsIn K 87 = some cd) (hm' : cd.mro = excMro) (hd' : cd.hasDict = true) (ht : findIn K (.ref 87) name = some none) (hs : findIn K (.ref 87) "__setattr__" = some (some (.builtin "object.__setattr__")))
    {Q : Unit → Shared → Prop} (h : ∀ h' d es n tk', Fr g L h' m → es.length ≤ 1 → es.any (·.refKey) = false → News g L h' ((d, dictOf es n) :: (e, excObj t (some d)) :: rest) → Q () { s with heap := h', toks := tk' }) :
    wpAny (model prog w) A (setAttr (.ref e) name v) Q E s := by
  have X' : K.In s.heap := X.keeps F.keep
  have hx := (N _ (.head _)).1
  have I : InstAt s.heap e (excObj t none) 87 none := ⟨hx, rfl, rfl, trivial⟩
  refine set_plain X' I hs ?_
  refine osa_openE (s := { s with toks := s.toks + 1 }) X' I hc hm' ht fun b => ?_
  refine wpAny_bind (wpAny_pure (wpAny_bind (wpAny_bind (wpAny_loadPart hx (wpAny_bind (looks_clsIn X' hc _ _ _ _ (fun _ _ e => e) ?_))))))
  rw [hd']
  refine wpA_if_false rfl ?_
  refine wpA_if_false rfl ?_
  refine wpAny_bind (wpAny_alloc ?_)
  have hx₁ : (s.heap.push emptyDict).get? e = some (excObj t none) := Heap.get?_push_of_some _ hx
  refine wpAny_bind (wpAny_update hx₁ ?_)
  refine wpAny_pure ?_
  have N₁ : News g L (s.heap.push emptyDict) ([(s.heap.objs.size, emptyDict)] ++ (e, excObj t none) :: rest) := News.push F N emptyDict rfl
  have F₁ : Fr g L (s.heap.push emptyDict) m := F.push _
  have hes : ∀ q ∈ (e, excObj t none) :: rest, q.1 ≠ s.heap.objs.size := fun q hq => Nat.ne_of_lt (Heap.lt_size (N q hq).1)
  obtain ⟨F₂, N₂⟩ := news_upd (f := fun o => { o with dict := some s.heap.objs.size }) F₁ N₁ (fun p hp => by
    rcases List.mem_cons.mp hp with rfl | hp
    · exact Ne.symm (hes _ (.head _))
    · cases hp) hne (o' := excObj t (some s.heap.objs.size)) rfl rfl
  refine nsSet_led (pre := []) (es := []) (n := 0) F₂ N₂ (fun _ hp => nomatch hp) (fun p hp => ?_) rfl (by simp [putL]) fun h' F₃ N₃ => ?_
  · rcases List.mem_cons.mp hp with rfl | hp
    · exact hes (e, excObj t none) (.head _)
    · exact hes _ (.tail _ hp)
  · exact h h' _ _ _ _ F₃ (by simp [putL]) (by simp [putL, DictEntry.refKey]) N₃
theorem getL_isSome {name : Str} {es : List DictEntry} (h : es.any (·.refKey) = false) : (getL name es).isSome = true := by
  unfold getL
  split
  · rfl
  · rw [h]; rfl
theorem putL_len (name : Str) (hsh : Int) (key v : Value) : ∀ es : List DictEntry, (putL name hsh key v es).length ≤ es.length + 1
  | [] => Nat.le_refl _
  | e :: r => by
    unfold putL
    split
    · simp
    · have := putL_len name hsh key v r
      simp only [List.length_cons]; omega
theorem putL_ref {name x : Str} {hsh : Int} {tk : Tok} {v : Value} : ∀ {es : List DictEntry}, es.any (·.refKey) = false → (putL name hsh (.str x tk) v es).any (·.refKey) = false
  | [], _ => rfl
  | e :: r, h => by
    unfold putL
    rw [List.any_cons, Bool.or_eq_false_iff] at h
    split
    · rw [List.any_cons, Bool.or_eq_false_iff]; exact ⟨h.1, h.2⟩
    · rw [List.any_cons, Bool.or_eq_false_iff]; exact ⟨h.1, putL_ref h.2⟩
theorem exc_set2 {e t d : Addr} {name : Str} {v : Value} {es : List DictEntry} {n : Nat} {pre post : List (Addr × Obj)} (F : Fr g L s.heap m) (N : News g L s.heap (pre ++ (d, dictOf es n) :: post)) (X : K.In g)
    (he : (e, excObj t (some d)) ∈ post) (h1 : ∀ p ∈ pre, p.1 ≠ d) (h2 : ∀ p ∈ post, p.1 ≠ d) (hz : es.length ≤ 100) (hrf : es.any (·.refKey) = false)
    (hc : clsIn K 87 = some cd) (hm' : cd.mro = excMro) (hd' : cd.hasDict = true) (ht : findIn K (.ref 87) name = some none) (hs : findIn K (.ref 87) "__setattr__" = some (some (.builtin "object.__setattr__")))
    {Q : Unit → Shared → Prop} (h : ∀ h' es' n' tk', Fr g L h' m → es'.length ≤ es.length + 1 → es'.any (·.refKey) = false → News g L h' (pre ++ (d, dictOf es' n') :: post) → Q () { s with heap := h', toks := tk' }) :
    wpAny (model prog w) A (setAttr (.ref e) name v) Q E s := by
  have X' : K.In s.heap := X.keeps F.keep
  have hx := (N _ (List.mem_append_right _ (.tail _ he))).1
  have D := (N _ (List.mem_append_right _ (.head _))).1
  have I : InstAt s.heap e (excObj t (some d)) 87 (some (dictOf es n)) := ⟨hx, rfl, rfl, D⟩
  refine set_plain X' I hs ?_
  refine osa_openE (s := { s with toks := s.toks + 1 }) X' I hc hm' ht fun b => ?_
  refine wpAny_bind (wpAny_pure (wpAny_bind (wpAny_bind (wpAny_loadPart hx (wpAny_bind (looks_clsIn X' hc _ _ _ _ (fun _ _ e => e) ?_))))))
  rw [hd']
  refine wpA_if_false rfl ?_
  refine wpAny_pure ?_
  refine nsSet_led (s := { s with toks := s.toks + 1 }) F N h1 h2 (getL_isSome hrf) (Nat.le_trans (putL_len ..) (by omega)) fun h' F₃ N₃ => ?_
  exact h h' _ _ _ F₃ (putL_len ..) (putL_ref hrf) N₃
end
end
section
set_option maxHeartbeats 4000000
open Builtin Builtin.ObjectAttr
noncomputable abbrev excTail : List Value := [.ref 74, .type "Exception", .type "BaseException", .type "object"]
noncomputable abbrev cls87 : Obj := excClassObj (Str.ofString "LuaSyntaxError") (Str.ofString "LuaSyntaxError") 87 86 [.ref 74] excTail true [] [] false none none (some (.ref 78)) none (some (.str (Str.ofString "LuaSyntaxError") 300)) (some (.str (Str.ofString "LuaSyntaxError") 308)) (some (.bool true)) "Exception.__new__"
theorem at87 {w : World} : (Mine.H.hd.heap_1_1 w.params).lookup 87 = some cls87 := by rfl
theorem cd87' {w : World} : ∃ cd, clsIn (Mine.H.hd.heap_1_1 w.params) 87 = some cd ∧ cd.mro = excMro ∧ cd.hasDict = true := ⟨_, by unfold clsIn; rw [at87], rfl, rfl⟩
theorem ty71 {w : World} : typeIn (Mine.H.hd.heap_1_1 w.params) (.ref 71) = some (.type "function") := by k_is
theorem sa87 {w : World} : findIn (Mine.H.hd.heap_1_1 w.params) (.ref 87) "__setattr__" = some (some (.builtin "object.__setattr__")) := by k_is
theorem in87 {w : World} : findIn (Mine.H.hd.heap_1_1 w.params) (.ref 87) "__init__" = some (some (.ref 71)) := by k_is
theorem f87v {w : World} : findIn (Mine.H.hd.heap_1_1 w.params) (.ref 87) "value" = some none := by k_is
theorem f87t {w : World} : findIn (Mine.H.hd.heap_1_1 w.params) (.ref 87) "trace" = some none := by k_is
theorem f87h {w : World} : findIn (Mine.H.hd.heap_1_1 w.params) (.ref 87) "is_in_handler" = some none := by k_is
section
variable {prog : Program} {w : World} {A : Around} {s : Shared} {E : Value → Shared → Prop} {g : Heap} {L : Addr} {m : Str → Option Value}
theorem set_value {e t : Addr} {v : Value} {Q : Unit → Shared → Prop} (F : Fr g L s.heap m) (N : News g L s.heap ((e, excObj t none) :: [])) (X : (Mine.H.hd.heap_1_1 w.params).In g)
    (h : ∀ h' d es n tk', Fr g L h' m → es.length ≤ 1 ∧ es.any (·.refKey) = false → News g L h' ((d, dictOf es n) :: (e, excObj t (some d)) :: []) → Q () { s with heap := h', toks := tk' }) :
    wpAny (model prog w) A (setAttr (.ref e) (Str.ofString "value") v) Q E s := by
  obtain ⟨cd, h1, h2, h3⟩ := cd87' (w := w)
  exact exc_set1 F N X (fun _ hp => nomatch hp) h1 h2 h3 f87v sa87 fun h' d es n tk' F' z1 z2 N' => h h' d es n tk' F' ⟨z1, z2⟩ N'
theorem set_trace {e t d l : Addr} {lo : Obj} {v : Value} {es : List DictEntry} {n : Nat} {Q : Unit → Shared → Prop} (F : Fr g L s.heap m) (N : News g L s.heap ((l, lo) :: (d, dictOf es n) :: (e, excObj t (some d)) :: [])) (X : (Mine.H.hd.heap_1_1 w.params).In g)
    (hlo : lo.cls = .type "list") (hz : es.length ≤ 1 ∧ es.any (·.refKey) = false)
    (h : ∀ h' es n tk', Fr g L h' m → es.length ≤ 2 ∧ es.any (·.refKey) = false → News g L h' ((l, lo) :: (d, dictOf es n) :: (e, excObj t (some d)) :: []) → Q () { s with heap := h', toks := tk' }) :
    wpAny (model prog w) A (setAttr (.ref e) (Str.ofString "trace") v) Q E s := by
  obtain ⟨cd, h1, h2, h3⟩ := cd87' (w := w)
  have a := (N _ (.head _)).1
  have b := (N _ (.tail _ (.head _))).1
  have c := (N _ (.tail _ (.tail _ (.head _)))).1
  dsimp only at a b c
  refine exc_set2 (pre := [(l, lo)]) F N X (.head _) (fun p hp => ?_) (fun p hp => ?_) (by omega) hz.2 h1 h2 h3 f87t sa87 fun h' es' n' tk' F' z1 z2 N' => h h' es' n' tk' F' ⟨by omega, z2⟩ N'
  · obtain rfl := List.mem_singleton.mp hp
    intro q
    dsimp only at q
    rw [q, b] at a
    cases a
    simp at hlo
  · obtain rfl := List.mem_singleton.mp hp
    intro q
    dsimp only at q
    rw [q, b] at c
    simp at c
theorem set_inh {e t d l : Addr} {lo : Obj} {v : Value} {es : List DictEntry} {n : Nat} {Q : Unit → Shared → Prop} (F : Fr g L s.heap m) (N : News g L s.heap ((l, lo) :: (d, dictOf es n) :: (e, excObj t (some d)) :: [])) (X : (Mine.H.hd.heap_1_1 w.params).In g)
    (hlo : lo.cls = .type "list") (hz : es.length ≤ 2 ∧ es.any (·.refKey) = false)
    (h : ∀ h' es n tk', Fr g L h' m → News g L h' ((l, lo) :: (d, dictOf es n) :: (e, excObj t (some d)) :: []) → Q () { s with heap := h', toks := tk' }) :
    wpAny (model prog w) A (setAttr (.ref e) (Str.ofString "is_in_handler") v) Q E s := by
  obtain ⟨cd, h1, h2, h3⟩ := cd87' (w := w)
  have a := (N _ (.head _)).1
  have b := (N _ (.tail _ (.head _))).1
  have c := (N _ (.tail _ (.tail _ (.head _)))).1
  dsimp only at a b c
  refine exc_set2 (pre := [(l, lo)]) F N X (.head _) (fun p hp => ?_) (fun p hp => ?_) (by omega) hz.2 h1 h2 h3 f87h sa87 fun h' es' n' tk' F' z1 z2 N' => h h' es' n' tk' F' N'
  · obtain rfl := List.mem_singleton.mp hp
    intro q
    dsimp only at q
    rw [q, b] at a
    cases a
    simp at hlo
  · obtain rfl := List.mem_singleton.mp hp
    intro q
    dsimp only at q
    rw [q, b] at c
    simp at c
end
local macro_rules | `(tactic| walk_at "my sides") => `(tactic| ((case k7 => k_is); (case k8 => k_is); (case k9 => exact BindsTo.of_eq rfl); (case kA => exact locs rfl); (case kB => decide); (case kC => exact rfl); (case kD => exact rfl); (case kE => exact rfl)))
local macro_rules | `(tactic| walk_at "my go") => `(tactic| (repeat' (first | walk1 | (dsimp only; walk1) | fail "no step")))
local macro_rules | `(tactic| walk_at "setAttr ref") => `(tactic| (k_dflt (first
  | (refine' set_value ?k1 ?k2 ?k3 ?_; (case k1 => assumption); (case k2 => assumption); (case k3 => assumption); intro h' d es n tk' F' hz N'; (try k_sweep))
  | (refine' set_trace ?k1 ?k2 ?k3 ?k4 ?k5 ?_; (case k1 => assumption); (case k2 => assumption); (case k3 => assumption); (case k4 => rfl); (case k5 => assumption); intro h' es n tk' F' hz N'; (try k_sweep))
  | (refine' set_inh ?k1 ?k2 ?k3 ?k4 ?k5 ?_; (case k1 => assumption); (case k2 => assumption); (case k3 => assumption); (case k4 => rfl); (case k5 => assumption); intro h' es n tk' F' N'; (try k_sweep)))))
section
variable {prog : Program} {w : World} {A : Around} {s : Shared} {base g : Heap} {outer : List Env} {L : Addr} {m : Str → Option Value} {env : Env} {k : Nat}
  {mean : ExcName → Option Value} {mg mb : Str → Option Value} {Q E : Value → Shared → Prop} {c : LC} {y : LD} {news rest : List (Addr × Obj)}
theorem excInit_c {e t : Addr} {v : Value} (C : Cx A env outer base g L (k + 1)) (F : Fr g L s.heap m) (X : (Mine.H.hd.heap_1_1 w.params).In g) (T : TopH mean mg mb g) (N : News g L s.heap ([(e, excObj t none)] ++ rest)) (hne : ∀ p ∈ rest, p.1 ≠ e)
    (h : ∀ h' d tk', Fr g L h' m → News g L h' ((e, excObj t (some d)) :: rest) → Q (.none) { s with heap := h', toks := tk' }) :
    wpAny (model prog w) A (call (.ref 71) [.ref e, v]) Q E s := by
  refine wpAny_call ?_
  refine' enter (K := Mine.H.hd.heap_1_1 w.params) [(e, excObj t none)] (rest := rest) [(Str.ofString "self", .ref e), (Str.ofString "value", v)] C F N (fun q hq hm => hne q hq (List.mem_singleton.mp hm)) (Top.nolimit T) X ?k7 ?k8 ?k9 ?kA ?_ ?kB ?kC ?kD ?kE
  walk_at "my sides"
  intro g' L' h₁ tk F' N' st X' C' FG rs ret
  have T' := T.keeps st
  clear F N X T
  walk_at "my go"
  all_goals (try dsimp only)
  have R := ret _ _ _ _ (by assumption) (by assumption)
  exact h _ _ _ R.1 (news_of R.2 fun q hq => by
    rcases List.mem_cons.mp hq with rfl | hq
    · exact List.mem_append_left _ (.tail _ (.tail _ (.head _)))
    · exact List.mem_append_right _ hq)
end
end
section
set_option maxHeartbeats 4000000
section
variable {prog : Program} {w : World} {A : Around} {s : Shared} {E : Value → Shared → Prop}
theorem mine_check_new87 {rest : List Value} {M : Model} {Q : Unit → Shared → Prop} (hC : s.heap.get? 87 = some cls87) (hq : Q () s) : wpAny M A (checkBuiltinCall "Exception.__new__" ⟨.ref 87 :: rest, []⟩) Q E s := by
  have Fn := F.excBase_Exception
  have hcont : (Value.ref 87 :: excTail).contains (.type "Exception") = true := by decide
  have hstar := Fn.noStar
  obtain ⟨h, g, d, t, os⟩ := s
  simp only [checkBuiltinCall, Fn.newKind, Fn.newSplit, Fn.newRow]
  repeat (first | refine wpAny_loadPart_at hC ?_ | (refine wpAny_isSubtype_exc hC ?_; rw [hcont]) | refine wpAny_staticBase_exc hC ?_ | refine wpAny_madeBy_exc hC ?_ | simp only [bne_self_eq_false, Bool.false_eq_true, if_false] | wp_step)
  exact hq
theorem mine_new87 {rest : List Value} {R : Result → Shared → Prop} (hC : s.heap.get? 87 = some cls87) (hrest : rest.length ≤ sizeLine)
    (hq : R (.ok (.ret (.ref (s.heap.objs.size + 1)))) { s with heap := (s.heap.push { cls := .type "tuple", data := .seq rest.toArray }).push { cls := .ref 87, data := .fields #[.ref s.heap.objs.size, .none, .none, .none, .bool false, .none] } }) :
    codeAny (model prog w) A (.builtin "Exception.__new__" ⟨.ref 87 :: rest, []⟩) R s := by
  have Fn := F.excBase_Exception
  have hends := Fn.ends
  have hcB : (Value.ref 87 :: excTail).contains (.type "Exception") = true := by decide
  have hcA : (Value.ref 87 :: excTail).contains (.type "AttributeError") = false := by decide
  have hcN : (Value.ref 87 :: excTail).contains (.type "NameError") = false := by decide
  obtain ⟨h, g, d, t, os⟩ := s
  refine codeAny_builtinAt Fn.entry ?_
  unfold Builtin.«BaseException.__new__»
  refine PySem.wpAt_bind ?_
  show PySem.wpAt _ _ _ (stack >>= _) _ _ _
  refine PySem.wpAt_bind (PySem.wpAt_stack fun p below => PySem.wpAt_of_wpAny ?_)
  wp_walk
  refine PySem.wpAt_of_wpAny ?_
  rw [Fn.owner]
  repeat (first | with_reducible refine wpAny_madeHere_exc Fn.canon hC ?_ | with_reducible refine wpAny_loadPart_at hC ?_ | (with_reducible refine wpAny_isSubtype_exc hC ?_; first | rw [hcB] | rw [hcA] | rw [hcN]) | wp_step)
  show R _ _
  rw [Heap.size_push]
  exact hq
end
end
section
set_option maxHeartbeats 4000000
section
variable {prog : Program} {w : World} {A : Around} {E : Value → Shared → Prop} {h : Heap} {g : Array GenState} {d : Drawn} {t : Nat} {os : OsState}
theorem mine_tc87 {rest : List Value} {Q : Fin → Shared → Prop} (X : (Mine.H.hd.heap_1_1 w.params).In h) (hrest : rest.length ≤ sizeLine)
    (hq : ∀ h' e, Heap.MadeExcOf h h' e (.ref 87) rest →
      wpAny (model prog w) A (call (.ref 71) (.ref e :: rest)) (fun r s' => r = .none ∧ Q (.done (.ret (.ref e))) s') E ⟨h', g, d, t, os⟩) :
    wpAny (model prog w) A (Builtin.«type.__call__» ⟨.ref 87 :: rest, []⟩) Q E ⟨h, g, d, t, os⟩ := by
  have hC : h.get? 87 = some cls87 := X _ _ at87
  repeat (first | with_reducible refine wpAny_loadPart_at hC ?_ | with_reducible refine wpAny_madeBy_exc hC ?_ | wp_step)
  refine codeAny_call_builtin_code (Code.quiet_builtin _ F.excBase_Exception.quiet) (mine_check_new87 (s := ⟨h, g, d, t, os⟩) hC ?_)
  refine mine_new87 (s := ⟨h, g, d, t, os⟩) hC hrest ?_
  show wpAny _ _ _ _ _ _
  have hC₁ := Heap.get?_push_of_some { cls := .ref 87, data := .fields #[.ref h.objs.size, .none, .none, .none, .bool false, .none] }
    (Heap.get?_push_of_some { cls := .type "tuple", data := .seq rest.toArray } hC)
  have X₁ : (Mine.H.hd.heap_1_1 w.params).In ((h.push { cls := .type "tuple", data := .seq rest.toArray }).push { cls := .ref 87, data := .fields #[.ref h.objs.size, .none, .none, .none, .bool false, .none] }) :=
    X.keeps fun b o e => Heap.get?_push_of_some _ (Heap.get?_push_of_some _ e)
  have hget : ((h.push { cls := .type "tuple", data := .seq rest.toArray }).push
      { cls := .ref 87, data := .fields #[.ref h.objs.size, .none, .none, .none, .bool false, .none] }).get? (h.objs.size + 1) = some
      { cls := .ref 87, data := .fields #[.ref h.objs.size, .none, .none, .none, .bool false, .none] } := by heap_get
  have hcC : (Value.ref 87 :: excTail).contains (.ref 87) = true := by decide
  unfold isInstance
  repeat (first | with_reducible refine wpAny_loadPart_at hget ?_ | (with_reducible refine wpAny_isSubtype_exc hC₁ ?_; rw [hcC]) | wp_step)
  show wpAny _ _ (typeLookup (.ref 87) _) _ _ _
  refine W.looks_findIn X₁ in87 _ _ _ _ (fun _ _ e => e) ?_
  dsimp only
  refine wpAny_holding (wpAny_bind (W.bind_fn X₁ _ ty71 _ _ _ _ (fun _ _ e => e) ?_))
  refine wpAny_bind (wpAny_mono (hq _ (h.objs.size + 1) ⟨fun b o hb => Heap.get?_push_of_some _ (Heap.get?_push_of_some _ hb), Heap.get?_none_of_le (Nat.le_succ _), h.objs.size, hget, Heap.get?_none_of_le (Nat.le_refl _), ?_⟩) (fun r s' hr => ?_) fun _ _ x => x)
  · exact Heap.get?_push_of_some _ (Heap.get?_push_at rfl rfl)
  · obtain ⟨rfl, hQ⟩ := hr
    wp_walk
    exact hQ
theorem mine_call87 {rest : List Value} {Q : Value → Shared → Prop} (X : (Mine.H.hd.heap_1_1 w.params).In h) (hrest : rest.length ≤ sizeLine)
    (hq : ∀ h' e, Heap.MadeExcOf h h' e (.ref 87) rest →
      wpAny (model prog w) (A.under (.builtin "type.__call__" ⟨.ref 87 :: rest, []⟩)) (call (.ref 71) (.ref e :: rest)) (fun r s' => r = .none ∧ Q (.ref e) s') E ⟨h', g, d, t, os⟩) :
    wpAny (model prog w) A (call (.ref 87) rest) Q E ⟨h, g, d, t, os⟩ := by
  have hC : h.get? 87 = some cls87 := X _ _ at87
  have f1 := tc_lookup
  have f2 := tc_bind (.ref 87)
  have hT : (⟨h, g, d, t, os⟩ : Shared).TypeIs (.ref 87) "type" := ⟨_, hC, rfl⟩
  refine wpAny_call (codeAny_of_tree ?_)
  show wpAny _ _ (callAny (.ref 87) _) _ _ _
  repeat (any_goals (first | assumption | with_reducible refine wpAny_loadPart_at hC ?_ | wp_step))
  refine ⟨rfl, ?_⟩
  refine codeAny_call_builtin_at (Code.quiet_builtin _ (by decide +kernel)) entry_typeCall (wpAny_check_type_call_sub hC (mine_tc87 X hrest fun h' e hm => ?_))
  exact hq h' e hm
theorem mine_raise87 {x : Sem Value} {s : Shared} {env : Env} {Q : Flow → Shared → Prop} (hh : A.handled = none)
    (h : wpAny M A x (fun v s₁ => ∃ e t dd, v = .ref e ∧ s₁.heap.get? 87 = some cls87 ∧ s₁.heap.get? e = some (excObj t dd) ∧ E (.ref e) s₁) E s) :
    wpAny M A (raiseStmt env (some x) none) Q E s := by
  have hcB : (Value.ref 87 :: excTail).contains (.type "BaseException") = true := by decide
  unfold raiseStmt
  refine wpAny_bind (wpAny_mono h (fun v s₁ h₁ => ?_) fun _ _ x => x)
  obtain ⟨e, t, dd, rfl, hC, he, hE⟩ := h₁
  obtain ⟨hp, g, d, tk, os⟩ := s₁
  repeat (first | with_reducible refine wpAny_loadPart_at he ?_ | with_reducible refine wpAny_loadPart_at hC ?_ | (with_reducible refine wpAny_isSubtype_exc hC ?_; rw [hcB]) | wp_step)
  exact wpAny_raiseNew_none hh hE
end
section
variable {prog : Program} {w : World} {A : Around} {s : Shared} {base g : Heap} {outer : List Env} {L : Addr} {m : Str → Option Value} {env : Env} {k : Nat}
  {mean : ExcName → Option Value} {mg mb : Str → Option Value} {Q E : Value → Shared → Prop} {news rest : List (Addr × Obj)}
theorem Cx.under {C : Addr} {rest : List Value} (X : Cx A env outer base g L (k + 1)) : Cx (A.under (.builtin "type.__call__" ⟨.ref C :: rest, []⟩)) env outer base g L k := by
  refine ⟨X.frames, X.fr, X.kind, ?_, ?_, X.handled, X.below, X.new⟩
  · have := X.room
    show A.depth + 1 + 2 * k < _
    omega
  · have := X.units
    show A.units + 1 + 20 * k < _
    omega
theorem excMake_c {v : Value} (C : Cx A env outer base g L (k + 2)) (F : Fr g L s.heap m) (X : (Mine.H.hd.heap_1_1 w.params).In g) (T : TopH mean mg mb g) (N : News g L s.heap news)
    (h : ∀ h' e t d tk', Fr g L h' m → News g L h' ((e, excObj t (some d)) :: news) → Q (.ref e) { s with heap := h', toks := tk' }) :
    wpAny (model prog w) A (call (.ref 87) [v]) Q E s := by
  obtain ⟨hp, gg, dd, tt, os⟩ := s
  refine mine_call87 (X.keeps F.keep) (by rw [sizeLine_eq]; simp) fun h' e hm => ?_
  obtain ⟨t, ht, hnt, htt⟩ := hm.there
  have F₁ : Fr g L h' m := F.keeps hm.keeps
  have N₁ : News g L h' ([(e, excObj t none)] ++ news) := fun q hq => by
    rcases List.mem_cons.mp hq with rfl | hq
    · refine ⟨ht, fun q => ?_, ?_⟩
      · obtain ⟨o, _, _, ho, _⟩ := F.ns
        have := hm.new
        dsimp only at q
        rw [q, ho] at this
        cases this
      · dsimp only
        cases z : g.get? e with
        | none => rfl
        | some o => have := F.keep _ _ z; rw [hm.new] at this; cases this
    · exact ⟨hm.keeps _ _ (N q hq).1, (N q hq).2⟩
  refine excInit_c (s := ⟨h', gg, dd, tt, os⟩) C.under F₁ X T N₁ (fun p hp q => ?_) fun h'' d tk' F₂ N₂ => ⟨rfl, h h'' e t d tk' F₂ N₂⟩
  have := (N p hp).1
  rw [q, hm.new] at this
  cases this
end
end
section
def Flies (base g : Heap) (l : List Env) (e : Addr) (h : Heap) : Prop :=
  (∃ B a0, base.StaysIn B ∧ (∀ b o, g.get? b = some o → b ∉ l.filterMap (·.frame) → B.get? b = some o) ∧ Heap.FlyingW B l e (.ref 87) a0 h) ∧ g.UpToSlots h
def HeldL (base g : Heap) (l : List Env) (L e : Addr) (h : Heap) : Prop :=
  (∃ B a0, base.StaysIn B ∧ (∀ b o, g.get? b = some o → b ∉ l.filterMap (·.frame) → B.get? b = some o) ∧ Heap.HeldW B l e (.ref 87) a0 L h) ∧ g.UpToSlots h
section
variable {M : Model} {A : Around} {E : Value → Shared → Prop} {s : Shared} {base g g₀ : Heap} {env : Env} {outer : List Env} {L e t : Addr} {m : Str → Option Value} {k : Nat} {Q : Unit → Shared → Prop}
theorem not_in_g {h : Heap} (F : Fr g L h m) : g.get? L = none := Heap.get?_none_of_le F.above
theorem low_of {B : Heap} (hL : g.get? L = none) (hf : env.frame = some L) (hB : ∀ b o, g.get? b = some o → b ∉ (env :: outer).filterMap (·.frame) → B.get? b = some o) (st : g₀.StaysIn g) :
    ∀ b o, g₀.get? b = some o → b ∉ outer.filterMap (·.frame) → B.get? b = some o := fun b o q nm => hB b o (st b o q) fun hm => by
  rw [List.filterMap_cons, hf] at hm
  rcases List.mem_cons.mp hm with z | z
  · have := st b o q
    rw [z, hL] at this
    cases this
  · exact nm z
theorem fly_first {dd : Option Addr} (C : Cx A env outer base g L k) (F : Fr g L s.heap m) (he : s.heap.get? e = some (excObj t dd)) (hn : g.get? e = none) (st : g₀.StaysIn g)
    (hQ : ∀ h', Flies base g₀ outer e h' → Q () { s with heap := h' }) : wpAny M A (leaving env (.ref e)) Q E s := by
  obtain ⟨A₀, K⟩ := C.below
  have hL : g.get? L = none := not_in_g F
  have hbL : base.get? L = none := fresh_of_stays K.stays hL
  have hff : s.heap.FunFrames base (env :: outer) := .cons (by rw [C.kind]; decide) C.fr F.ns hbL (K.frames.of_keeps fun b o e _ => ⟨o, F.keep b o e, rfl⟩)
  have hin : ∀ x ∈ (env :: outer), ∀ b, x.frame = some b → b ∈ e :: (env :: outer).filterMap (·.frame) := fun x hx b hb => .tail _ (List.mem_filterMap.mpr ⟨x, hx, hb⟩)
  have fb : ∀ b, b ∈ (env :: outer).filterMap (·.frame) → base.get? b = none := fun b hb => (hff.mem hb).1
  have gB : ∀ b o, g.get? b = some o → b ∉ (env :: outer).filterMap (·.frame) → (hideAll s.heap (e :: (env :: outer).filterMap (·.frame))).get? b = some o := fun b o q nm => hideAll_get _ (F.keep b o q) fun hm => by
    rcases List.mem_cons.mp hm with z | z
    · rw [z, hn] at q; cases q
    · exact nm z
  have sB : base.StaysIn (hideAll s.heap (e :: (env :: outer).filterMap (·.frame))) := fun b o q => gB b o (K.stays b o q) fun hm => by rw [fb b hm] at q; cases q
  refine wpAny_leaving_firstW (a0 := .ref t) C.frames (base := hideAll s.heap (e :: (env :: outer).filterMap (·.frame))) ?_ C.fr he (fun b o q => of_hideAll _ q) (hideAll_none _ (.head _)) rfl rfl rfl fun h' hL' => ?_
  · exact (funFrames_hide hff hin).of_keeps fun b o q _ => ⟨o, q, rfl⟩
  · obtain ⟨k1, ⟨_, _, k2⟩, k3, k4⟩ := hL'
    exact hQ h' ⟨⟨_, _, sB, low_of C.new C.fr gB st, k1, hideAll_none _ (.head _), k2, k3⟩, ((Heap.UpToSlots.of_keeps fun b o q => F.keep b o (st b o q)).trans k4)⟩
theorem fly_on (C : Cx A env outer base g L k) (R : Flies base g (env :: outer) e s.heap) (st : g₀.StaysIn g)
    (hQ : ∀ h', Flies base g₀ outer e h' → Q () { s with heap := h' }) : wpAny M A (leaving env (.ref e)) Q E s := by
  obtain ⟨⟨B, a0, hB, hBG, hfl⟩, hs⟩ := R
  exact wpAny_leaves_onW C.frames C.fr hfl fun h' x1 x2 => hQ h' ⟨⟨B, a0, hB, low_of C.new C.fr hBG st, x1⟩, (Heap.UpToSlots.of_keeps fun b o q => st b o q).trans (hs.trans x2)⟩
theorem fly_held (C : Cx A env outer base g L k) (R : HeldL base g (env :: outer) L e s.heap) (st : g₀.StaysIn g)
    (hQ : ∀ h', Flies base g₀ outer e h' → Q () { s with heap := h' }) : wpAny M A (leaving env (.ref e)) Q E s := by
  obtain ⟨⟨B, a0, hB, hBG, hh⟩, hs⟩ := R
  unfold leaving
  refine wpAny_bind (wpAny_noteFrame_againW C.fr hh.2.2.2 ?_)
  refine wpAny_landsW hh fun h' hfl us => ?_
  obtain ⟨k1, k2, ⟨_, _, k3⟩, k4⟩ := hfl
  exact hQ h' ⟨⟨B, a0, hB, low_of C.new C.fr hBG st, ⟨k1, k2, k3, k4⟩⟩, (Heap.UpToSlots.of_keeps fun b o q => st b o q).trans (hs.trans us)⟩
theorem setFlight_held {l : List Env} {cls a0 : Value} {B : Heap} (R : Heap.HeldW B l e cls a0 L s.heap)
    (h : ∀ h', Heap.HeldW B l e cls a0 L h' → s.heap.UpToSlots h' → Q () { s with heap := h' }) : wpAny M A (setFlight (.ref e) (some L)) Q E s := by
  obtain ⟨hkb, hen, hl, oe, vs, T, oT, ts, he, hcls, hd, h1, hnT, hTe, hT, hdT, h3⟩ := R
  have hsz3 : 3 < ts.size := (Array.getElem?_eq_some_iff.mp h3).1
  have other : ∀ b, b ≠ T → (s.heap.update T (Obj.mapFields (·.setIfInBounds 3 ((some L).elim Value.none fun f => rawInt f)))).get? b = s.heap.get? b :=
    fun b hb => Heap.get?_update_other _ _ (Ne.symm hb)
  have noRecord : ∀ b o, s.heap.get? b = some o → (∀ vs, o.data ≠ .fields vs) → b ≠ T := fun b o hb hnf q => by
    rw [q, hT] at hb; injection hb with hb; subst hb; exact hnf ts hdT
  unfold setFlight
  refine wpAny_bind (wpAny_field he hd h1 ?_)
  rw [if_pos (show (Value.ref T != Value.none) = true from by simp)]
  refine wpAny_setField hT hdT hsz3 (h _ ⟨fun b o hbo => (other b fun q => by rw [q, hnT] at hbo; cases hbo).trans (hkb b o hbo), hen,
    hl.of_keeps fun b o hb hnf => ⟨o, (other b (noRecord b o hb hnf)).trans hb, rfl⟩, ?_⟩ fun b o hb hnf => ⟨o.slots, (other b (noRecord b o hb hnf)).trans hb⟩)
  exact ⟨oe, vs, T, _, _, (other e (Ne.symm hTe)).trans he, hcls, hd, h1, hnT, hTe, Heap.get?_update_self _ hT (Obj.isFreed_of_fields (Obj.data_mapFields hdT _)), Obj.data_mapFields hdT _, by simp [hsz3]⟩
theorem back_held (C : Cx A env outer base g L k) (R : HeldL base g (env :: outer) L e s.heap) (h : ∀ h', HeldL base g (env :: outer) L e h' → E (.ref e) { s with heap := h' }) : cameBackBy M A env E (.ref e) s := by
  obtain ⟨⟨B, a0, hB, hBG, hh⟩, hs⟩ := R
  unfold cameBackBy
  obtain ⟨k1, k2, k3, oe, vs, T, oT, ts, he, hcls, hd, h1, k5⟩ := id hh
  refine wpAny_bind (wpAny_field he hd h1 ?_)
  rw [if_neg (show ¬ ((Value.ref T == Value.none) = true) from by simp), C.fr]
  exact setFlight_held hh fun h' x1 x2 => h h' ⟨⟨B, a0, hB, hBG, x1⟩, hs.trans x2⟩
theorem loop_fly (C : Cx A env outer base g L k) (R : Flies base g (env :: outer) e s.heap) (h : ∀ h', HeldL base g (env :: outer) L e h' → E (.ref e) { s with heap := h' }) : notedBy M A env (cameBackBy M A env E) (.ref e) s := by
  obtain ⟨⟨B, a0, hB, hBG, hfl⟩, hs⟩ := R
  exact wpAny_looks_onW C.frames C.fr hfl fun h' hh us => back_held (s := { s with heap := h' }) C ⟨⟨B, a0, hB, hBG, hh⟩, hs.trans us⟩ h
theorem loop_held (C : Cx A env outer base g L k) (R : HeldL base g (env :: outer) L e s.heap) (h : ∀ h', HeldL base g (env :: outer) L e h' → E (.ref e) { s with heap := h' }) : notedBy M A env (cameBackBy M A env E) (.ref e) s := by
  obtain ⟨⟨B, a0, hB, hBG, hh⟩, hs⟩ := id R
  exact wpAny_noteFrame_againW C.fr hh.2.2.2 (back_held C R h)
end
section
variable {M : Model} {A : Around} {E E2 Eg : Value → Shared → Prop} {s : Shared} {base g g₀ h : Heap} {env : Env} {outer : List Env} {L e : Addr} {k tk : Nat}
theorem esc_on0 (C : Cx A env outer base g L k) (st : g₀.StaysIn g) (hE : ∀ h' e tk', Flies base g₀ outer e h' → E (.ref e) { s with heap := h', toks := tk' }) (R : Flies base g (env :: outer) e h) :
    wpAny M A (leaving env (.ref e)) (fun _ s'' => E (.ref e) s'') E2 { s with heap := h, toks := tk } :=
  fly_on (s := { s with heap := h, toks := tk }) C R st fun h' R' => hE h' e tk R'
theorem esc_held (C : Cx A env outer base g L k) (st : g₀.StaysIn g) (hE : ∀ h' e tk', Flies base g₀ outer e h' → E (.ref e) { s with heap := h', toks := tk' }) (R : HeldL base g (env :: outer) L e h) :
    wpAny M A (leaving env (.ref e)) (fun _ s'' => E (.ref e) s'') E2 { s with heap := h, toks := tk } :=
  fly_held (s := { s with heap := h, toks := tk }) C R st fun h' R' => hE h' e tk R'
end
end
section
structure Pt where
  b : Bool
  prog : Program
  w : World
  A : Around
  base : Heap
  outer : List Env
  g : Heap
  L : Addr
  mean : ExcName → Option Value
  mg : Str → Option Value
  mb : Str → Option Value
  s : Shared
noncomputable abbrev Pt.M (P : Pt) : Model := model P.prog P.w
@[reducible] def Pt.S (P : Pt) (h : Heap) (tk : Nat) : Shared := ⟨h, P.s.gens, P.s.drawn, tk, P.s.os⟩
structure Ok (P : Pt) (env : Env) (k : Nat) : Prop where
  C : Cx P.A env P.outer P.base P.g P.L k
  X : (Mine.H.hd.heap_1_1 P.w.params).In P.g
  T : TopH P.mean P.mg P.mb P.g
noncomputable abbrev Mp := Str → Option Value
noncomputable abbrev Ld := List (Addr × Obj)
structure Led (P : Pt) (m : Mp) (l : Ld) (h : Heap) : Prop where
  F : Fr P.g P.L h m
  N : News P.g P.L h l
theorem Led.sub {P : Pt} {m : Mp} {l l' : Ld} {h : Heap} (H : Led P m l h) (hs : ∀ q ∈ l', q ∈ l) : Led P m l' h := ⟨H.F, fun q hq => H.N q (hs q hq)⟩
def EscF (P : Pt) (env : Env) (E : Value → Shared → Prop) : Prop := ∀ h e tk, Flies P.base P.g (env :: P.outer) e h → E (.ref e) (P.S h tk)
structure Esc (P : Pt) (env : Env) (E : Value → Shared → Prop) : Prop where
  f : EscF P env E
  h : ∀ h e tk, HeldL P.base P.g (env :: P.outer) P.L e h → E (.ref e) (P.S h tk)
structure Into (P P' : Pt) (rest : Ld) : Prop where
  b : P'.b = P.b
  prog : P'.prog = P.prog
  w : P'.w = P.w
  st : P.g.StaysIn P'.g
  rs : ∀ q ∈ rest, P'.g.get? q.1 = some q.2
def wpB {α : Type} (b : Bool) (M : Model) (A : Around) (t : Sem α) (Q : α → Shared → Prop) (E : Value → Shared → Prop) (s : Shared) : Prop :=
  ∀ Γ p, Γ.In A → (b = true → Clean Γ) → Sem.wp M Γ t (fun a _ s' => Q a s') (fun e _ s' => E e s') p s
section
variable {α β : Type} {b : Bool} {M : Model} {A : Around} {E : Value → Shared → Prop} {s : Shared} {env : Env}
theorem wpB.of_any {t : Sem α} {Q : α → Shared → Prop} (h : wpAny M A t Q E s) : wpB b M A t Q E s := fun Γ p hΓ _ => h Γ p hΓ
theorem wpB.of_n {t : Sem α} {Q : α → Shared → Prop} (h : wpN M A t Q E s) : wpB true M A t Q E s := fun Γ p hΓ hc => h Γ p hΓ (hc rfl)
theorem wpB.to_n {t : Sem α} {Q : α → Shared → Prop} (h : wpB b M A t Q E s) : wpN M A t Q E s := fun Γ p hΓ hc => h Γ p hΓ fun _ => hc
theorem wpB.to_any {t : Sem α} {Q : α → Shared → Prop} (h : wpB false M A t Q E s) : wpAny M A t Q E s := fun Γ p hΓ => h Γ p hΓ nofun
theorem wpB.mono {t : Sem α} {Q Q' : α → Shared → Prop} {E' : Value → Shared → Prop} (h : wpB b M A t Q E s)
    (hQ : ∀ a s, Q a s → Q' a s) (hE : ∀ e s, E e s → E' e s) : wpB b M A t Q' E' s :=
  fun Γ p hΓ hc => Sem.wp_mono M Γ t (fun a _ s => hQ a s) (fun e _ s => hE e s) p s (h Γ p hΓ hc)
theorem wpB.bind {m : Sem α} {f : α → Sem β} {Q : β → Shared → Prop} (h : wpB b M A m (fun a s' => wpB b M A (f a) Q E s') E s) :
    wpB b M A (m >>= f) Q E s := fun Γ p hΓ hc => by
  rw [Sem.wp_bind']
  exact Sem.wp_mono M Γ m (fun a p' s' h' => h' Γ p' hΓ hc) (fun _ _ _ h' => h') p s (h Γ p hΓ hc)
theorem wpB.pure {a : α} {Q : α → Shared → Prop} (h : Q a s) : wpB b M A (Pure.pure a) Q E s := fun _ _ _ _ => h
theorem wpB.cons {st rest} {Q : Flow → Shared → Prop}
    (h : wpB b M A (exec st env) (fun f s' => match f with | .next => wpB b M A (execs rest env) Q E s' | f => Q f s') E s) :
    wpB b M A (execs (st :: rest) env) Q E s := fun Γ p hΓ hc => by
  rw [execs_cons, Sem.wp_bind']
  refine Sem.wp_mono M Γ _ (fun f p' s' h' => ?_) (fun _ _ _ h' => h') _ _ (h Γ p hΓ hc)
  cases f <;> first | exact h' Γ p' hΓ hc | exact h'
theorem execs_app {Γ : PySem.Ctx} {r : List Stmt} {Q : Flow → Pos → Shared → Prop} {E : Value → Pos → Shared → Prop} : ∀ (b : List Stmt) (p : Pos) (s : Shared), Sem.wp M Γ (execs (b ++ r) env) Q E p s →
    Sem.wp M Γ (execs b env) (fun f p' s' => match f with | .next => Sem.wp M Γ (execs r env) Q E p' s' | f => Q f p' s') E p s
  | [], _, _, h => h
  | st :: b, p, s, h => by
    rw [List.cons_append, execs_cons, Sem.wp_bind'] at h
    rw [execs_cons, Sem.wp_bind']
    refine Sem.wp_mono M Γ _ (fun f p' s' h' => ?_) (fun _ _ _ h' => h') _ _ h
    cases f <;> first | exact execs_app b p' s' h' | exact h'
end
def W (P : Pt) (env : Env) (m : Mp) (l : Ld) (st : List Stmt) (Q : Flow → Shared → Prop) (E : Value → Shared → Prop) : Prop :=
  ∀ h tk, Led P m l h → wpB P.b P.M P.A (execs st env) Q E (P.S h tk)
def Ev (P : Pt) (env : Env) (m : Mp) (l : Ld) (e : Expr) (R : Value → Prop) : Prop :=
  ∀ h tk, Led P m l h → ∀ (Q : Value → Shared → Prop) (E : Value → Shared → Prop), (∀ v h' tk', R v → Led P m l h' → Q v (P.S h' tk')) → wpAny P.M P.A (eval e env) Q E (P.S h tk)
def ET (P : Pt) (env : Env) (m : Mp) (l : Ld) (e : Expr) (p : Prop) : Prop :=
  ∀ h tk, Led P m l h → ∀ (Q : Bool → Shared → Prop) (E : Value → Shared → Prop), (∀ b h' tk', (b = true ↔ p) → Led P m l h' → Q b (P.S h' tk')) → wpAny P.M P.A (isTrue e env (eval e env)) Q E (P.S h tk)
def Evs (P : Pt) (env : Env) (m : Mp) (l : Ld) (es : List Expr) (R : List Value → Prop) : Prop :=
  ∀ h tk pos, Led P m l h → ∀ (Q : List Value → Shared → Prop) (E : Value → Shared → Prop), (∀ v h' tk', R v → Led P m l h' → Q v (P.S h' tk')) → wpAny P.M P.A (spliced (backTo pos (starEach es env))) Q E (P.S h tk)
def Em (P : Pt) (env : Env) (m : Mp) (l : Ld) (e : Expr) (kk : Value → Ld → Prop) (E : Value → Shared → Prop) : Prop :=
  ∀ h tk, Led P m l h → ∀ Q : Value → Shared → Prop, (∀ v l' h' tk', kk v l' → Led P m l' h' → Q v (P.S h' tk')) → wpB P.b P.M P.A (eval e env) Q E (P.S h tk)
def CallP (P : Pt) (l : Ld) (f : Value) (args : List Value) (R : Value → Prop) : Prop :=
  ∀ m h tk, Led P m l h → ∀ (Q : Value → Shared → Prop) (E : Value → Shared → Prop), (∀ v h' tk', R v → Led P m l h' → Q v (P.S h' tk')) → wpAny P.M P.A (call f args) Q E (P.S h tk)
def CallW (P : Pt) (l : Ld) (f : Value) (args : List Value) (kk : Value → Ld → Prop) (E : Value → Shared → Prop) : Prop :=
  ∀ m h tk, Led P m l h → ∀ Q : Value → Shared → Prop, (∀ v l' h' tk', kk v l' → Led P m l' h' → Q v (P.S h' tk')) → wpB P.b P.M P.A (call f args) Q E (P.S h tk)
def I (n : Int) (v : Value) : Prop := ∃ t, v = .int n t
def V (u v : Value) : Prop := v = u
def Y (b : List UInt8) (v : Value) : Prop := ∃ t, v = .bytes b.toArray t
def Bp (p : Prop) (v : Value) : Prop := ∃ b, v = .bool b ∧ (b = true ↔ p)
@[reducible] def upd (m : Mp) (x : Str) (v : Value) : Mp := fun y => if y = x then some v else m y
noncomputable def retv : Flow → Value
  | .ret v => v
  | _ => .none
def Fin (P : Pt) (kk : Value → Ld → Prop) (rest : Ld) (Qf : Flow → Shared → Prop) : Prop := ∀ fl m' l' h' tk', Led P m' l' h' → kk (retv fl) (l' ++ rest) → Qf fl (P.S h' tk')
def FinR (P : Pt) (kk : Value → Ld → Prop) (rest : Ld) (Qf : Flow → Shared → Prop) : Prop := ∀ v m' l' h' tk', Led P m' l' h' → kk v (l' ++ rest) → Qf (.ret v) (P.S h' tk')
theorem Fin.r {P : Pt} {kk : Value → Ld → Prop} {rest : Ld} {Qf : Flow → Shared → Prop} (h : Fin P kk rest Qf) : FinR P kk rest Qf := fun v => h (.ret v)
theorem FinR.to {P : Pt} {kk : Value → Ld → Prop} {rest : Ld} {Q Qb : Flow → Shared → Prop} (h : FinR P kk rest Q) (rt : ∀ v s, Q (.ret v) s → Qb (.ret v) s) : FinR P kk rest Qb := fun v m' l' h' tk' H' hk => rt _ _ (h v m' l' h' tk' H' hk)
def FinP (P : Pt) (R : Value → Prop) (Qf : Flow → Shared → Prop) : Prop := ∀ fl m' l' h' tk', Led P m' l' h' → R (retv fl) → Qf fl (P.S h' tk')
def Born (P : Pt) (E : Value → Shared → Prop) : Prop := ∀ m h e t dd tk, Fr P.g P.L h m → h.get? e = some (excObj t dd) → P.g.get? e = none → E (.ref e) (P.S h tk)
def EscI (P P' : Pt) (env env' : Env) (E Ef : Value → Shared → Prop) : Prop := EscF P env E → Esc P' env' Ef ∧ Born P' Ef
noncomputable def okDef (s : Scope) (xs : List Str) : Bool := (!s.isCoroutine && !s.isGenerator) && (s.kind == .function && (xs.all (fun x => s.names.lookup x == some .local) && s.names.all (fun x => x.2 != .cell)))
theorem okDef_parts {s : Scope} {binds : List (Str × Value)} (h : okDef s (binds.map (·.1)) = true) : s.isCoroutine = false ∧ s.isGenerator = false ∧ s.kind = .function ∧ (∀ y ∈ binds, s.names.lookup y.1 = some .local) ∧ ∀ x ∈ s.names, x.2 ≠ .cell := by
  unfold okDef at h
  simp only [Bool.and_eq_true, Bool.not_eq_true', beq_iff_eq, List.all_eq_true, bne_iff_ne, List.mem_map, forall_exists_index, and_imp, forall_apply_eq_imp_iff₂] at h
  exact ⟨h.1.1, h.1.2, h.2.1, h.2.2.1, h.2.2.2⟩
section
variable {P : Pt} {env : Env} {m : Mp} {l : Ld} {k : Nat} {Q : Flow → Shared → Prop} {E : Value → Shared → Prop} {rest : List Stmt} {pos : Pos}
theorem W.perm (l' : Ld) (hs : ∀ q ∈ l', q ∈ l) (h : W P env m l' rest Q E) : W P env m l rest Q E := fun hp tk H => h hp tk (H.sub hs)
theorem W.map {m' : Mp} (e : m = m') (h : W P env m' l rest Q E) : W P env m l rest Q E := e ▸ h
theorem W.nil (h : ∀ hp tk, Led P m l hp → Q .next (P.S hp tk)) : W P env m l [] Q E := fun hp tk H _ _ _ _ => h hp tk H
theorem W.cons {st : Stmt} (h : ∀ hp tk, Led P m l hp → wpB P.b P.M P.A (exec st env) (fun f s' => match f with | .next => wpB P.b P.M P.A (execs rest env) Q E s' | f => Q f s') E (P.S hp tk)) :
    W P env m l (st :: rest) Q E := fun hp tk H => wpB.cons (h hp tk H)
theorem W.consA {st : Stmt} (h : ∀ hp tk, Led P m l hp → wpAny P.M P.A (exec st env) (fun f s' => match f with | .next => wpB P.b P.M P.A (execs rest env) Q E s' | f => Q f s') E (P.S hp tk)) :
    W P env m l (st :: rest) Q E := W.cons fun hp tk H => wpB.of_any (h hp tk H)
theorem W.ifs {test : Expr} {body orelse : List Stmt} {p : Prop} (ht : ET P env m l test p) (h1 : p → W P env m l (body ++ rest) Q E) (h0 : ¬ p → W P env m l (orelse ++ rest) Q E) :
    W P env m l (.If test body orelse pos :: rest) Q E := fun hp tk H Γ q hΓ hc => by
  rw [execs_cons, Sem.wp_bind']
  simp only [exec_If, Sem.wp_bind', Sem.wp_cmd_standAt]
  refine Sem.wp_mono P.M Γ _ (fun b p₂ s₂ h₂ => ?_) (fun _ _ _ h' => h') _ _
    (ht hp tk H (fun b s₂ => if b then wpB P.b P.M P.A (execs (body ++ rest) env) Q E s₂ else wpB P.b P.M P.A (execs (orelse ++ rest) env) Q E s₂) E (fun b h' tk' hb H' => ?_) Γ _ hΓ)
  · cases b <;> (refine Sem.wp_mono P.M Γ _ (fun f p' s' h' => ?_) (fun _ _ _ h' => h') _ _ (execs_app _ _ _ (h₂ Γ p₂ hΓ hc)); cases f <;> exact h')
  · cases b with
    | true => exact h1 (hb.mp rfl) _ _ H'
    | false => exact h0 (fun x => Bool.false_ne_true (hb.mpr x)) _ _ H'
theorem W.ret {e : Expr} {R : Value → Prop} (ha : Ev P env m l e R) (h : ∀ v hp tk, R v → Led P m l hp → Q (.ret v) (P.S hp tk)) : W P env m l (.Return (some e) pos :: rest) Q E :=
  W.consA fun hp tk H => wpAny_Return_some (ha hp tk H _ _ fun v h' tk' hv H' => h v h' tk' hv H')
theorem W.done {kk : Value → Ld → Prop} {rl : Ld} (fin : Fin P kk rl Q) (h : kk .none (l ++ rl)) : W P env m l [] Q E := W.nil fun _ _ H => fin _ _ _ _ _ H h
theorem W.retV {kk : Value → Ld → Prop} {rl : Ld} {e : Expr} {v : Value} (fin : FinR P kk rl Q) (ha : Ev P env m l e (V v)) (h : kk v (l ++ rl)) : W P env m l (.Return (some e) pos :: rest) Q E := W.ret ha fun _ _ _ q H => fin _ _ _ _ _ H (q ▸ h)
theorem W.retI {kk : Value → Ld → Prop} {rl : Ld} {e : Expr} {i : Int} (fin : FinR P kk rl Q) (ha : Ev P env m l e (I i)) (h : ∀ t, kk (.int i t) (l ++ rl)) : W P env m l (.Return (some e) pos :: rest) Q E := W.ret ha fun _ _ _ ⟨t, q⟩ H => fin _ _ _ _ _ H (q ▸ h t)
theorem W.retY {kk : Value → Ld → Prop} {rl : Ld} {e : Expr} {b : List UInt8} (fin : FinR P kk rl Q) (ha : Ev P env m l e (Y b)) (h : ∀ t, kk (.bytes b.toArray t) (l ++ rl)) : W P env m l (.Return (some e) pos :: rest) Q E := W.ret ha fun _ _ _ ⟨t, q⟩ H => fin _ _ _ _ _ H (q ▸ h t)
theorem W.retP {R R' : Value → Prop} {e : Expr} (fin : FinP P R Q) (ha : Ev P env m l e R') (h : ∀ v, R' v → R v) : W P env m l (.Return (some e) pos :: rest) Q E := W.ret ha fun v _ _ q H => fin _ _ _ _ _ H (h v q)
theorem W.retP' {R : Value → Prop} {e : Expr} (fin : FinP P R Q) (ha : Ev P env m l e R) : W P env m l (.Return (some e) pos :: rest) Q E := W.retP fin ha fun _ x => x
theorem W.pass (h : W P env m l rest Q E) : W P env m l (.Pass pos :: rest) Q E := W.consA fun hp tk H => wpAny_Pass (h hp tk H)
theorem W.brk (h : ∀ hp tk, Led P m l hp → Q .brk (P.S hp tk)) : W P env m l (.Break pos :: rest) Q E := W.consA fun hp tk H => wpAny_Break (h hp tk H)
end
section
variable {P : Pt} {env : Env} {k : Nat} {E : Value → Shared → Prop} {rest own l : Ld} {name qual : Str} {params : Arguments} {body : List Stmt} {scope : Scope} {dV kV doc pm cdv ct oc : Value} {an od : Option Addr} {osl : Array (Option Value)} {f : Addr} {args : List Value} {binds : List (Str × Value)}
theorem call_def (own : Ld) (binds : List (Str × Value)) {kk : Value → Ld → Prop} (O : Ok P env (k + 1)) (hout : ∀ m h, Led P m (own ++ rest) h → ∀ q ∈ rest, q.1 ∉ own.map (·.1))
    (ho : (Mine.H.hd.heap_1_1 P.w.params).lookup f = some ⟨oc, od, .func (fnOf name qual params body scope dV kV doc pm an cdv ct), osl⟩) (hcd : codeIn (Mine.H.hd.heap_1_1 P.w.params) cdv qual = true)
    (hbind : ∀ s, BindsTo s (fnOf name qual params body scope dV kV doc pm an cdv ct) ⟨args, []⟩ binds) (hs : okDef scope (binds.map (·.1)) = true)
    (walk : ∀ P' : Pt, Into P P' rest → Ok P' (envX qual scope P'.L f cdv []) k → ∀ Qf Ef, Fin P' kk rest Qf → EscI P P' env (envX qual scope P'.L f cdv []) E Ef → W P' (envX qual scope P'.L f cdv []) (fun y => binds.reverse.lookup y) (own ++ []) body Qf Ef) : CallW P (own ++ rest) (.ref f) args kk E := by
  obtain ⟨hco, hgen, hk, hloc, hcell⟩ := okDef_parts hs
  intro m hp tk H Q hQ
  cases hb : P.b with
  | false =>
    refine wpB.of_any (wpAny_call (enter (K := (Mine.H.hd.heap_1_1 P.w.params)) own binds O.C H.F H.N (hout _ _ H) (Top.nolimit O.T) O.X ho hcd (hbind _) hloc (fun g' L' h₁ tk₁ F' N' st X' C' FG rs ret => ?_) hcell hco hgen hk))
    exact (walk ⟨false, P.prog, P.w, P.A.deeper (envX qual scope L' f cdv []), P.base, env :: P.outer, g', L', P.mean, P.mg, P.mb, P.s⟩ ⟨hb.symm, rfl, rfl, st, rs⟩ ⟨C', X', O.T.keeps st⟩ _ _
      (fun fl m' l' h' tk' H' hkk => have R := ret _ _ _ _ H'.F H'.N; hQ _ _ _ _ hkk ⟨R.1, R.2⟩)
      (fun hE => ⟨⟨fun h' e tk' R => esc_on0 (s := P.S hp tk) C' st (fun h' e tk' => hE h' e tk') R, fun h' e tk' R => esc_held (s := P.S hp tk) C' st (fun h' e tk' => hE h' e tk') R⟩, fun m h e t dd tk' F he hn => fly_first (s := P.S h tk') C' F he hn st fun h' R => hE h' e tk' R⟩) h₁ tk₁ ⟨F', N'⟩).to_any
  | true =>
    refine wpB.of_n (wpN_call (enterN (K := (Mine.H.hd.heap_1_1 P.w.params)) own binds O.C H.F H.N (hout _ _ H) (Top.nolimit O.T) O.X ho hcd (hbind _) hloc (fun g' L' h₁ tk₁ F' N' st X' C' FG rs ret => ?_) hcell hco hgen hk))
    exact (walk ⟨true, P.prog, P.w, P.A.deeper (envX qual scope L' f cdv []), P.base, env :: P.outer, g', L', P.mean, P.mg, P.mb, P.s⟩ ⟨hb.symm, rfl, rfl, st, rs⟩ ⟨C', X', O.T.keeps st⟩ _ _
      (fun fl m' l' h' tk' H' hkk => have R := ret _ _ _ _ H'.F H'.N; hQ _ _ _ _ hkk ⟨R.1, R.2⟩)
      (fun hE => ⟨⟨fun h' e tk' R => esc_on0 (s := P.S hp tk) C' st (fun h' e tk' => hE h' e tk') R, fun h' e tk' R => esc_held (s := P.S hp tk) C' st (fun h' e tk' => hE h' e tk') R⟩, fun m h e t dd tk' F he hn => fly_first (s := P.S h tk') C' F he hn st fun h' R => hE h' e tk' R⟩) h₁ tk₁ ⟨F', N'⟩).to_n
theorem call_pure (binds : List (Str × Value)) {R : Value → Prop} (O : Ok P env (k + 1))
    (ho : (Mine.H.hd.heap_1_1 P.w.params).lookup f = some ⟨oc, od, .func (fnOf name qual params body scope dV kV doc pm an cdv ct), osl⟩) (hcd : codeIn (Mine.H.hd.heap_1_1 P.w.params) cdv qual = true)
    (hbind : ∀ s, BindsTo s (fnOf name qual params body scope dV kV doc pm an cdv ct) ⟨args, []⟩ binds) (hs : okDef scope (binds.map (·.1)) = true)
    (walk : ∀ P' : Pt, Into { P with b := false } P' l → Ok P' (envX qual scope P'.L f cdv []) k → ∀ Qf Ef, FinP P' R Qf → W P' (envX qual scope P'.L f cdv []) (fun y => binds.reverse.lookup y) [] body Qf Ef) : CallP P l (.ref f) args R := by
  obtain ⟨hco, hgen, hk, hloc, hcell⟩ := okDef_parts hs
  intro m hp tk H Q E hQ
  refine wpAny_call (enter (K := (Mine.H.hd.heap_1_1 P.w.params)) [] binds O.C H.F H.N (fun _ _ h => nomatch h) (Top.nolimit O.T) O.X ho hcd (hbind _) hloc (fun g' L' h₁ tk₁ F' N' st X' C' FG rs ret => ?_) hcell hco hgen hk)
  exact (walk ⟨false, P.prog, P.w, P.A.deeper (envX qual scope L' f cdv []), P.base, env :: P.outer, g', L', P.mean, P.mg, P.mb, P.s⟩ ⟨rfl, rfl, rfl, st, rs⟩ ⟨C', X', O.T.keeps st⟩ _ _
    (fun fl m' l' h' tk' H' hkk => have R := ret _ _ _ [] H'.F (fun _ h => nomatch h); hQ _ _ _ hkk ⟨R.1, R.2⟩) h₁ tk₁ ⟨F', N'⟩).to_any
end
end
section
section
variable {P : Pt} {env : Env} {m : Mp} {l : Ld} {k : Nat} {e a b c t : Expr} {pos : Pos}
theorem Ev.mono {R R' : Value → Prop} (h : Ev P env m l e R) (hR : ∀ v, R v → R' v) : Ev P env m l e R' := fun hp tk H Q E hQ => h hp tk H Q E fun v h' tk' hv => hQ v h' tk' (hR v hv)
theorem Ev.i {n : Int} {t : Tok} (h : Ev P env m l e (V (.int n t))) : Ev P env m l e (I n) := h.mono fun _ hv => ⟨t, hv⟩
theorem Ev.y {x : List UInt8} {t : Tok} (h : Ev P env m l e (V (.bytes x.toArray t))) : Ev P env m l e (Y x) := h.mono fun _ hv => ⟨t, hv⟩
theorem Ev.bo {x : Bool} (h : Ev P env m l e (V (.bool x))) : Ev P env m l e (Bp (x = true)) := h.mono fun _ hv => ⟨x, hv, Iff.rfl⟩
theorem ev_L {cn : Str} {cs : Scope} {f : Addr} {cd v : Value} {cl : List (Str × Addr)} {x : Str} (hm : m x = some v) (hx : (envX cn cs P.L f cd cl).kindOf x = some .local := by rfl)
    (hk : cs.kind = .function := by rfl) (hd : (x == ("__debug__" : Str)) = false := by decide) : Ev P (envX cn cs P.L f cd cl) m l (.Name x pos) (V v) :=
  fun hp tk H Q E hQ => nameX_L (s := P.S hp tk) H.F hm (hQ v hp tk rfl H) hk hx hd
theorem ev_K {cn : Str} {cs : Scope} {f : Addr} {cd v : Value} {cl : List (Str × Addr)} {x : Str} (O : Ok P (envX cn cs P.L f cd cl) k) (hm : nsIn (Mine.H.hd.heap_1_1 P.w.params) mainGlobals x = some (some v)) (hx : (envX cn cs P.L f cd cl).kindOf x = some .globalImplicit := by rfl)
    (hk : cs.kind = .function := by rfl) (hd : (x == ("__debug__" : Str)) = false := by decide) : Ev P (envX cn cs P.L f cd cl) m l (.Name x pos) (V v) :=
  fun hp tk H Q E hQ => nameX_K (s := P.S hp tk) H.F O.X (topRead_of O.T) hm (hQ v hp tk rfl H) hk hx hd
theorem ev_int {i : Int} {j : Nat} : Ev P env m l (.Constant (.int i) j pos) (I i) := fun hp tk H Q E hQ => wpAny_Constant_int (hQ _ _ _ ⟨_, rfl⟩ H)
theorem ev_bytes {x : List UInt8} {j : Nat} : Ev P env m l (.Constant (.bytes x) j pos) (Y x) := fun hp tk H Q E hQ => Constant_bytes (hQ _ _ _ ⟨_, rfl⟩ H)
theorem ev_none {j : Nat} : Ev P env m l (.Constant .none j pos) (V .none) := fun hp tk H Q E hQ => wpAny_Constant_none (hQ _ _ _ rfl H)
theorem ev_bool {x : Bool} {j : Nat} : Ev P env m l (.Constant (.bool x) j pos) (V (.bool x)) := fun hp tk H Q E hQ => wpAny_Constant_bool (hQ _ _ _ rfl H)
theorem behind_off {op : CmpOp} (h : (op == .In || op == .NotIn) = false) : behindInMarks op b = false := by
  unfold behindInMarks
  split
  · rw [h]; simp
  · rfl
def Cmp (P : Pt) (op : CmpOp) (v u : Value) (p : Prop) : Prop := ∀ (s : Shared) (Q : Value → Shared → Prop) (E : Value → Shared → Prop), (∀ c, (c = true ↔ p) → Q (.bool c) s) → wpAny P.M P.A (compareOp op v u) Q E s
theorem et_cmp {op : CmpOp} {p : Prop} {R1 R2 : Value → Prop} (ha : Ev P env m l a R1) (hb : Ev P env m l b R2) (hc : ∀ v u, R1 v → R2 u → Cmp P op v u p) (hm : behindInMarks op b = false) : ET P env m l (.Compare a [op] [b] pos) p :=
  fun hp tk H Q E hQ => wpAny_isTrue_Compare1 (ha hp tk H _ _ fun v h1 t1 hv H1 => hb h1 t1 H1 _ _ fun u h2 t2 hu H2 => hc v u hv hu _ _ _ fun c hc => wpAny_truthy_bool (hQ c h2 t2 hc H2)) hm
theorem ev_cmp {op : CmpOp} {p : Prop} {R1 R2 : Value → Prop} (ha : Ev P env m l a R1) (hb : Ev P env m l b R2) (hc : ∀ v u, R1 v → R2 u → Cmp P op v u p) (hm : behindInMarks op b = false) : Ev P env m l (.Compare a [op] [b] pos) (Bp p) :=
  fun hp tk H Q E hQ => wpAny_Compare1 (ha hp tk H _ _ fun v h1 t1 hv H1 => hb h1 t1 H1 _ _ fun u h2 t2 hu H2 => hc v u hv hu _ _ _ fun c hc => hQ _ h2 t2 ⟨c, rfl, hc⟩ H2) hm
noncomputable def cmpP : CmpOp → Int → Int → Prop
  | .Eq, a, b => a = b
  | .NotEq, a, b => ¬ a = b
  | .Lt, a, b => a < b
  | .LtE, a, b => a ≤ b
  | .Gt, a, b => b < a
  | .GtE, a, b => b ≤ a
  | _, _, _ => False
noncomputable def cmpI : CmpOp → Bool
  | .Eq | .NotEq | .Lt | .LtE | .Gt | .GtE => true
  | _ => false
theorem cmp_int {op : CmpOp} {i j : Int} (ho : cmpI op = true) : ∀ v u, I i v → I j u → Cmp P op v u (cmpP op i j) := by
  rintro v u ⟨t, rfl⟩ ⟨t', rfl⟩ s Q E hQ
  cases op <;> first | cases ho | skip
  · exact eq_int (hQ _ (by simp [cmpP]))
  · exact ne_int (hQ _ (by simp [cmpP]))
  · exact lt_int (hQ _ (by simp [cmpP]))
  · exact le_int (hQ _ (by simp [cmpP]))
  · exact gt_int (hQ _ (by simp [cmpP]))
  · exact ge_int (hQ _ (by simp [cmpP]))
theorem behind_I {op : CmpOp} (ho : cmpI op = true) : behindInMarks op b = false := behind_off (by cases op <;> first | rfl | cases ho)
theorem et_eq {i j : Int} (ha : Ev P env m l a (I i)) (hb : Ev P env m l b (I j)) : ET P env m l (.Compare a [.Eq] [b] pos) (i = j) := et_cmp ha hb (cmp_int rfl) (behind_I rfl)
theorem et_ne {i j : Int} (ha : Ev P env m l a (I i)) (hb : Ev P env m l b (I j)) : ET P env m l (.Compare a [.NotEq] [b] pos) (¬ i = j) := et_cmp ha hb (cmp_int rfl) (behind_I rfl)
theorem et_lt {i j : Int} (ha : Ev P env m l a (I i)) (hb : Ev P env m l b (I j)) : ET P env m l (.Compare a [.Lt] [b] pos) (i < j) := et_cmp ha hb (cmp_int rfl) (behind_I rfl)
theorem et_le {i j : Int} (ha : Ev P env m l a (I i)) (hb : Ev P env m l b (I j)) : ET P env m l (.Compare a [.LtE] [b] pos) (i ≤ j) := et_cmp ha hb (cmp_int rfl) (behind_I rfl)
theorem et_gt {i j : Int} (ha : Ev P env m l a (I i)) (hb : Ev P env m l b (I j)) : ET P env m l (.Compare a [.Gt] [b] pos) (j < i) := et_cmp ha hb (cmp_int rfl) (behind_I rfl)
theorem et_ge {i j : Int} (ha : Ev P env m l a (I i)) (hb : Ev P env m l b (I j)) : ET P env m l (.Compare a [.GtE] [b] pos) (j ≤ i) := et_cmp ha hb (cmp_int rfl) (behind_I rfl)
theorem ev_eq {i j : Int} (ha : Ev P env m l a (I i)) (hb : Ev P env m l b (I j)) : Ev P env m l (.Compare a [.Eq] [b] pos) (Bp (i = j)) := ev_cmp ha hb (cmp_int rfl) (behind_I rfl)
theorem et_chain {o1 o2 : CmpOp} {p1 p2 : Prop} {R1 R2 R3 : Value → Prop} (ha : Ev P env m l a R1) (hb : Ev P env m l b R2) (hc : Ev P env m l c R3) (h1 : ∀ v u, R1 v → R2 u → Cmp P o1 v u p1) (h2 : ∀ v u, R2 v → R3 u → Cmp P o2 v u p2)
    (hm : behindInMarks o2 c = false) : ET P env m l (.Compare a [o1, o2] [b, c] pos) (p1 ∧ p2) := fun hp tk H Q E hQ =>
  isTrue_chain (ha hp tk H _ _ fun v ha t1 hv H1 => test_link (hb ha t1 H1 _ _ fun u hb t2 hu H2 => h1 v u hv hu _ _ _ fun x hx => wpAny_truthy_bool (by
    cases x with
    | true => exact test_last (hc hb t2 H2 _ _ fun y hc t3 hy H3 => h2 u y hu hy _ _ _ fun z hz => wpAny_truthy_bool (hQ z hc t3 ⟨fun q => ⟨hx.mp rfl, hz.mp q⟩, fun q => hz.mpr q.2⟩ H3))
    | false => exact hQ false hb t2 ⟨nofun, fun q => hx.mpr q.1⟩ H2))) (by simpa [lastMarks] using hm)
theorem ev_chain {o1 o2 : CmpOp} {p1 p2 : Prop} {R1 R2 R3 : Value → Prop} (ha : Ev P env m l a R1) (hb : Ev P env m l b R2) (hc : Ev P env m l c R3) (h1 : ∀ v u, R1 v → R2 u → Cmp P o1 v u p1) (h2 : ∀ v u, R2 v → R3 u → Cmp P o2 v u p2)
    (hm : behindInMarks o2 c = false) : Ev P env m l (.Compare a [o1, o2] [b, c] pos) (Bp (p1 ∧ p2)) := fun hp tk H Q E hQ =>
  Compare_chain (ha hp tk H _ _ fun v ha t1 hv H1 => chain_link (hb ha t1 H1 _ _ fun u hb t2 hu H2 => h1 v u hv hu _ _ _ fun x hx => wpAny_truthy_bool (by
    cases x with
    | true => exact chain_last (hc hb t2 H2 _ _ fun y hc t3 hy H3 => h2 u y hu hy _ _ _ fun z hz => hQ _ hc t3 ⟨z, rfl, fun q => ⟨hx.mp rfl, hz.mp q⟩, fun q => hz.mpr q.2⟩ H3)
    | false => exact hQ _ hb t2 ⟨false, rfl, nofun, fun q => hx.mpr q.1⟩ H2))) (by simpa [lastMarks] using hm)
theorem et_lele {i j n : Int} (ha : Ev P env m l a (I i)) (hb : Ev P env m l b (I j)) (hc : Ev P env m l c (I n)) : ET P env m l (.Compare a [.LtE, .LtE] [b, c] pos) (i ≤ j ∧ j ≤ n) := et_chain ha hb hc (cmp_int rfl) (cmp_int rfl) (behind_I rfl)
theorem et_lelt {i j n : Int} (ha : Ev P env m l a (I i)) (hb : Ev P env m l b (I j)) (hc : Ev P env m l c (I n)) : ET P env m l (.Compare a [.LtE, .Lt] [b, c] pos) (i ≤ j ∧ j < n) := et_chain ha hb hc (cmp_int rfl) (cmp_int rfl) (behind_I rfl)
theorem ev_lele {i j n : Int} (ha : Ev P env m l a (I i)) (hb : Ev P env m l b (I j)) (hc : Ev P env m l c (I n)) : Ev P env m l (.Compare a [.LtE, .LtE] [b, c] pos) (Bp (i ≤ j ∧ j ≤ n)) := ev_chain ha hb hc (cmp_int rfl) (cmp_int rfl) (behind_I rfl)
theorem ev_lelt {i j n : Int} (ha : Ev P env m l a (I i)) (hb : Ev P env m l b (I j)) (hc : Ev P env m l c (I n)) : Ev P env m l (.Compare a [.LtE, .Lt] [b, c] pos) (Bp (i ≤ j ∧ j < n)) := ev_chain ha hb hc (cmp_int rfl) (cmp_int rfl) (behind_I rfl)
theorem bool_whole {op : BoolOp} {xs : List Expr} {w1 w2 : Sem Value} : isTrue (.BoolOp op xs pos) env w1 = isTrue (.BoolOp op xs pos) env w2 := by cases xs <;> rfl
theorem et_and {p q : Prop} {x y : Expr} {r : List Expr} (ha : ET P env m l x p) (hb : p → ET P env m l (.BoolOp .And (y :: r) pos) q) : ET P env m l (.BoolOp .And (x :: y :: r) pos) (p ∧ q) :=
  fun hp tk H Q E hQ => isTrue_and (ha hp tk H _ _ fun z h1 t1 hz H1 => by
    cases z with
    | true => rw [bool_whole (w2 := eval (.BoolOp .And (y :: r) pos) env)]; exact hb (hz.mp rfl) h1 t1 H1 _ _ fun u h2 t2 hu H2 => hQ u h2 t2 ⟨fun s => ⟨hz.mp rfl, hu.mp s⟩, fun s => hu.mpr s.2⟩ H2
    | false => exact hQ false h1 t1 ⟨nofun, fun s => hz.mpr s.1⟩ H1)
theorem et_and1 {p : Prop} {x : Expr} (ha : ET P env m l x p) : ET P env m l (.BoolOp .And [x] pos) p :=
  fun hp tk H Q E hQ => isTrue_and (ha hp tk H _ _ fun z h1 t1 hz H1 => by
    cases z with
    | true => exact isTrue_and_nil (hQ true h1 t1 hz H1)
    | false => exact hQ false h1 t1 hz H1)
theorem et_or {p q : Prop} {x y : Expr} {r : List Expr} (ha : ET P env m l x p) (hb : ¬ p → ET P env m l (.BoolOp .Or (y :: r) pos) q) : ET P env m l (.BoolOp .Or (x :: y :: r) pos) (p ∨ q) :=
  fun hp tk H Q E hQ => isTrue_or (ha hp tk H _ _ fun z h1 t1 hz H1 => by
    cases z with
    | true => exact hQ true h1 t1 ⟨fun _ => .inl (hz.mp rfl), fun _ => rfl⟩ H1
    | false =>
      have np : ¬ p := fun s => Bool.false_ne_true (hz.mpr s)
      rw [bool_whole (w2 := eval (.BoolOp .Or (y :: r) pos) env)]; exact hb np h1 t1 H1 _ _ fun u h2 t2 hu H2 => hQ u h2 t2 ⟨fun s => .inr (hu.mp s), fun s => s.elim (fun x => absurd x np) hu.mpr⟩ H2)
theorem et_or1 {p : Prop} {x : Expr} (ha : ET P env m l x p) : ET P env m l (.BoolOp .Or [x] pos) p :=
  fun hp tk H Q E hQ => isTrue_or (ha hp tk H _ _ fun z h1 t1 hz H1 => by
    cases z with
    | true => exact hQ true h1 t1 hz H1
    | false => exact isTrue_or_nil (hQ false h1 t1 hz H1))
theorem et_and2 {p q : Prop} {x y : Expr} (ha : ET P env m l x p) (hb : p → ET P env m l y q) : ET P env m l (.BoolOp .And [x, y] pos) (p ∧ q) := et_and ha fun h => et_and1 (hb h)
theorem et_or2 {p q : Prop} {x y : Expr} (ha : ET P env m l x p) (hb : ¬ p → ET P env m l y q) : ET P env m l (.BoolOp .Or [x, y] pos) (p ∨ q) := et_or ha fun h => et_or1 (hb h)
theorem et_not {p : Prop} {x : Expr} (ha : ET P env m l x p) : ET P env m l (.UnaryOp .Not x pos) (¬ p) :=
  fun hp tk H Q E hQ => isTrue_not (ha hp tk H _ _ fun z h1 t1 hz H1 => hQ _ h1 t1 (by cases z <;> simp_all) H1)
theorem et_v {p : Prop} {R : Value → Prop} (ha : Ev P env m l e R) (hR : ∀ v, R v → Bp p v) (he : isTrue e env (eval e env) = (do let v ← eval e env; standAt e.pos; holding [v] (truthy v)) := by rfl) : ET P env m l e p :=
  fun hp tk H Q E hQ => isTrue_plain (ha hp tk H _ _ fun v h1 t1 hv H1 => by
    obtain ⟨x, rfl, hx⟩ := hR v hv
    exact wpAny_truthy_bool (hQ x h1 t1 hx H1)) he
theorem et_b {p : Prop} (ha : Ev P env m l e (Bp p)) (he : isTrue e env (eval e env) = (do let v ← eval e env; standAt e.pos; holding [v] (truthy v)) := by rfl) : ET P env m l e p := et_v ha (fun _ x => x) he
theorem et_true {j : Nat} : ET P env m l (.Constant (.bool true) j pos) True := et_v ev_bool (fun v hv => ⟨true, hv, by simp⟩) rfl
theorem ev_and {p q : Prop} {x y : Expr} (ha : Ev P env m l x (Bp p)) (hb : p → Ev P env m l y (Bp q)) : Ev P env m l (.BoolOp .And [x, y] pos) (Bp (p ∧ q)) :=
  fun hp tk H Q E hQ => BoolOp_and (ha hp tk H _ _ fun v h1 t1 ⟨z, e, hz⟩ H1 => by
    subst e
    refine wpAny_truthy_bool ?_
    cases z with
    | true => exact BoolOp_one (hb (hz.mp rfl) h1 t1 H1 _ _ fun v h2 t2 ⟨u, e, hu⟩ H2 => hQ v h2 t2 ⟨u, e, ⟨fun s => ⟨hz.mp rfl, hu.mp s⟩, fun s => hu.mpr s.2⟩⟩ H2)
    | false => exact hQ _ h1 t1 ⟨false, rfl, nofun, fun s => hz.mpr s.1⟩ H1)
theorem ev_or {p q : Prop} {x y : Expr} {r : List Expr} (ha : Ev P env m l x (Bp p)) (hb : ¬ p → Ev P env m l (.BoolOp .Or (y :: r) pos) (Bp q)) : Ev P env m l (.BoolOp .Or (x :: y :: r) pos) (Bp (p ∨ q)) :=
  fun hp tk H Q E hQ => BoolOp_or (ha hp tk H _ _ fun v h1 t1 ⟨z, e, hz⟩ H1 => by
    subst e
    refine wpAny_truthy_bool ?_
    cases z with
    | true => exact hQ _ h1 t1 ⟨true, rfl, fun _ => .inl (hz.mp rfl), fun _ => rfl⟩ H1
    | false =>
      have np : ¬ p := fun s => Bool.false_ne_true (hz.mpr s)
      exact hb np h1 t1 H1 _ _ fun v h2 t2 ⟨u, e, hu⟩ H2 => hQ v h2 t2 ⟨u, e, ⟨fun s => .inr (hu.mp s), fun s => s.elim (fun x => absurd x np) hu.mpr⟩⟩ H2)
theorem ev_or1 {p : Prop} {x : Expr} (ha : Ev P env m l x (Bp p)) : Ev P env m l (.BoolOp .Or [x] pos) (Bp p) := fun hp tk H Q E hQ => BoolOp_one (ha hp tk H Q E hQ)
theorem ev_or2 {p q : Prop} {x y : Expr} (ha : Ev P env m l x (Bp p)) (hb : ¬ p → Ev P env m l y (Bp q)) : Ev P env m l (.BoolOp .Or [x, y] pos) (Bp (p ∨ q)) := ev_or ha fun h => ev_or1 (hb h)
theorem ev_if {p : Prop} {R : Value → Prop} (ht : ET P env m l t p) (h1 : p → Ev P env m l a R) (h0 : ¬ p → Ev P env m l b R) : Ev P env m l (.IfExp t a b pos) R :=
  fun hp tk H Q E hQ => IfExp_ (ht hp tk H _ _ fun z ha t1 hz H1 => by
    cases z with
    | true => exact h1 (hz.mp rfl) ha t1 H1 Q E hQ
    | false => exact h0 (fun s => Bool.false_ne_true (hz.mpr s)) ha t1 H1 Q E hQ)
def Bin (P : Pt) (op : Operator) (v u : Value) (R : Value → Prop) : Prop := ∀ (hp : Heap) (tk : Nat) (Q : Value → Shared → Prop) (E : Value → Shared → Prop), (∀ r tk', R r → Q r (P.S hp tk')) → wpAny P.M P.A (binaryOp op v u) Q E (P.S hp tk)
theorem ev_bin {op : Operator} {R1 R2 R : Value → Prop} (ha : Ev P env m l a R1) (hb : Ev P env m l b R2) (hc : ∀ v u, R1 v → R2 u → Bin P op v u R) : Ev P env m l (.BinOp a op b pos) R :=
  fun hp tk H Q E hQ => wpAny_BinOp (ha hp tk H _ _ fun v h1 t1 hv H1 => hb h1 t1 H1 _ _ fun u h2 t2 hu H2 => hc v u hv hu _ _ _ _ fun r tk' hr => hQ r h2 tk' hr H2)
theorem bin_add {i j : Int} : ∀ v u, I i v → I j u → Bin P .Add v u (I (i + j)) := by
  rintro _ _ ⟨t, rfl⟩ ⟨t', rfl⟩ hp tk Q E hQ; exact add_int (hQ _ _ ⟨_, rfl⟩)
theorem bin_sub {i j : Int} : ∀ v u, I i v → I j u → Bin P .Sub v u (I (i - j)) := by
  rintro _ _ ⟨t, rfl⟩ ⟨t', rfl⟩ hp tk Q E hQ; exact sub_int (hQ _ _ ⟨_, rfl⟩)
theorem bin_mul {i j : Int} (hz : IntMulOk i j) : ∀ v u, I i v → I j u → Bin P .Mult v u (I (i * j)) := by
  rintro _ _ ⟨t, rfl⟩ ⟨t', rfl⟩ hp tk Q E hQ; exact mul_int (hQ _ _ ⟨_, rfl⟩) hz
theorem bin_mod {i j : Int} (hz : j ≠ 0) : ∀ v u, I i v → I j u → Bin P .Mod v u (I (i.fmod j)) := by
  rintro _ _ ⟨t, rfl⟩ ⟨t', rfl⟩ hp tk Q E hQ; exact mod_int hz (hQ _ _ ⟨_, rfl⟩)
theorem bin_fdiv {i j : Int} (hz : j ≠ 0) (hd : Builtin.divisionGoesByPylong i j = false) : ∀ v u, I i v → I j u → Bin P .FloorDiv v u (I (i.fdiv j)) := by
  rintro _ _ ⟨t, rfl⟩ ⟨t', rfl⟩ hp tk Q E hQ; exact floordiv_int hz (hQ _ _ ⟨_, rfl⟩) (.inl hd)
theorem bin_and {i j : Int} : ∀ v u, I i v → I j u → Bin P .BitAnd v u (I (Builtin.bitAnd i j)) := by
  rintro _ _ ⟨t, rfl⟩ ⟨t', rfl⟩ hp tk Q E hQ; exact and_int (hQ _ _ ⟨_, rfl⟩)
theorem bin_shl {i j : Int} (h0 : 0 ≤ j) (h1 : (Builtin.Int.intBits i : Int) + j ≤ 2 ^ 27) : ∀ v u, I i v → I j u → Bin P .LShift v u (I (i * 2 ^ j.toNat)) := by
  rintro _ _ ⟨t, rfl⟩ ⟨t', rfl⟩ hp tk Q E hQ; exact lshift_int h0 h1 (hQ _ _ ⟨_, rfl⟩)
theorem ev_add {i j : Int} (ha : Ev P env m l a (I i)) (hb : Ev P env m l b (I j)) : Ev P env m l (.BinOp a .Add b pos) (I (i + j)) := ev_bin ha hb bin_add
theorem ev_sub {i j : Int} (ha : Ev P env m l a (I i)) (hb : Ev P env m l b (I j)) : Ev P env m l (.BinOp a .Sub b pos) (I (i - j)) := ev_bin ha hb bin_sub
theorem ev_neg {i : Int} (ha : Ev P env m l a (I i)) : Ev P env m l (.UnaryOp .USub a pos) (I (-i)) :=
  fun hp tk H Q E hQ => UnaryOp_ (ha hp tk H _ _ fun v h1 t1 ⟨t, e⟩ H1 => by subst e; exact neg_int (hQ _ _ _ ⟨_, rfl⟩ H1))
theorem evs_nil : Evs P env m l [] (fun vs => vs = []) := fun hp tk pos H Q E hQ => args_nil (hQ [] hp tk rfl H)
theorem evs_cons {es : List Expr} {R1 : Value → Prop} {R2 : List Value → Prop} (ha : Ev P env m l e R1) (hr : Evs P env m l es R2) (he : starEach (e :: es) env = (false, eval e env) :: starEach es env := by rfl) :
    Evs P env m l (e :: es) (fun vs => ∃ v us, vs = v :: us ∧ R1 v ∧ R2 us) :=
  fun hp tk pos H Q E hQ => args_cons (ha hp tk H _ _ fun v h1 t1 hv H1 => hr h1 t1 pos H1 _ _ fun us h2 t2 hu H2 => hQ _ h2 t2 ⟨v, us, rfl, hv, hu⟩ H2) he
end
end
section
section
variable {α β : Type} {b : Bool} {M : Model} {A : Around} {E : Value → Shared → Prop} {s : Shared} {env : Env}
theorem wpB.bindA {m : Sem α} {f : α → Sem β} {Q : β → Shared → Prop} (h : wpAny M A m (fun a s' => wpB b M A (f a) Q E s') E s) : wpB b M A (m >>= f) Q E s := wpB.bind (wpB.of_any h)
theorem wpB.keep {vs : List Value} {m : Sem α} {Q : α → Shared → Prop} (h : wpB b M A m Q E s) : wpB b M A (m.keep vs) Q E s :=
  fun Γ p hΓ hc => by rw [Sem.wp_keep]; exact h Γ p hΓ hc
theorem wpB.standAt {pos : Pos} {Q : Unit → Shared → Prop} (h : Q () s) : wpB b M A (PySem.standAt pos) Q E s := fun _ _ _ _ => h
theorem aEvalArgs {f : Value} : ∀ {args : List (Bool × Sem Value)} {Q : Args → Shared → Prop}, wpAny M A (spliced args) (fun vs s' => Q ⟨vs, []⟩ s') E s → (args.any (·.1)) = false → wpAny M A (evalArgs f true args []) Q E s
  | [], Q, h, _ => by
    unfold evalArgs
    show wpAny M A (spliced [] >>= _) Q E s
    exact wpAny_bind (wpAny_mono h (fun vs s' h' => wpAny_bind (wpAny_pure (wpAny_holding (wpAny_bind (wpAny_pure (wpAny_bind (wpAny_pure (wpAny_pure h'))))))) ) fun _ _ x => x)
  | (c, x) :: rest, Q, h, hp => by
    obtain rfl : c = false := by simp at hp; exact hp.1
    unfold evalArgs
    show wpAny M A (spliced ((false, x) :: rest) >>= _) Q E s
    refine wpAny_bind (wpAny_mono h (fun vs s' h' => ?_) fun _ _ x => x)
    refine wpAny_holding ?_
    exact wpAny_bind (wpAny_pure (wpAny_bind (wpAny_pure (wpAny_pure h'))))
theorem bCallWith {K : Frag} {pos : Pos} {f : Value} {first : List Value} {Q : Value → Shared → Prop} {args : List (Bool × Sem Value)} (hplain : args.any (·.1) = false) (hk : keepIn K f = true)
    (h : wpAny M A (spliced args) (fun vs s₁ => K.In s₁.heap ∧ wpB b M A (call f (first ++ vs)) Q E s₁) E s) : wpB b M A (callWith pos f first args []) Q E s := by
  unfold callWith
  refine wpB.bindA (wpAny_holding (wpAny_mono (aEvalArgs (f := f) (Q := fun a s₁ => K.In s₁.heap ∧ wpB b M A (call f (first ++ a.pos) a.kw) Q E s₁) h hplain) (fun a s₁ h₁ => wpB.bind (wpB.standAt ?_)) fun _ _ x => x))
  obtain ⟨k, hk', L⟩ := keeps_K (M := M) hk _ h₁.1
  have hp : (args.any (·.1) || ([] : List (Option Str × Sem Value)).any (·.1.isNone)) = false := by rw [hplain]; rfl
  simp only [hp]
  refine wpB.bindA (L.here ?_)
  have tail : ∀ {t : Sem Value}, wpB b M A t Q E s₁ → wpB b M A (t >>= fun r => PySem.holding [r] point >>= fun _ => pure r) Q E s₁ :=
    fun ht => wpB.bind (wpB.mono ht (fun r s₂ hr => wpB.bindA (wpAny_holding (wpAny_point (wpB.pure hr)))) fun _ _ x => x)
  have marked (mk : Value) : wpB b M A (callMarked mk f (first ++ a.pos) a.kw) Q E s₁ := by unfold callMarked; exact wpB.keep h₁.2
  rcases hk' with rfl | rfl | rfl <;> dsimp only <;> first | exact tail h₁.2 | (split <;> first | exact tail h₁.2 | exact tail (marked _))
theorem bCallWithP {pos : Pos} {f : Value} {first : List Value} {Q : Value → Shared → Prop} {args : List (Bool × Sem Value)} (hplain : args.any (·.1) = false)
    (hk : keeperOf f = pure .machine)
    (h : wpAny M A (spliced args) (fun vs s₁ => wpB b M A (call f (first ++ vs)) Q E s₁) E s) : wpB b M A (callWith pos f first args []) Q E s := by
  unfold callWith
  refine wpB.bindA (wpAny_holding (wpAny_mono (aEvalArgs (f := f) (Q := fun a s₁ => wpB b M A (call f (first ++ a.pos) a.kw) Q E s₁) h hplain) (fun a s₁ h₁ => wpB.bind (wpB.standAt ?_)) fun _ _ x => x))
  have hp : (args.any (·.1) || ([] : List (Option Str × Sem Value)).any (·.1.isNone)) = false := by rw [hplain]; rfl
  simp only [hp]
  refine wpB.bindA (wpAny_of_eq hk ?_)
  exact wpB.bind (wpB.mono h₁ (fun r s₂ hr => wpB.bindA (wpAny_holding (wpAny_point (wpB.pure hr)))) fun _ _ x => x)
theorem bCallMeth {o : Expr} {name : Str} {apos pos : Pos} {args : List Expr} {Q : Value → Shared → Prop}
    (h : wpAny M A (eval o env) (fun ov s₁ => wpAny M A (getMethod ov name (do return (← importBound o env).getD true)) (fun fp s₂ => wpB b M A (callWith pos fp.1 fp.2 (backTo pos (starEach args env)) []) Q E s₂) E s₁) E s)
    (hline : (apos.endLine == pos.line) = true)
    (hf : methodCallForm (args.length + 0) (backTo pos (starEach args env)) [] = true)
    (he : eval (.Call (.Attribute o name apos) args [] pos) env = (do let ov ← attributeBase o name env (eval o env); PySem.standAt apos.atName; methodCall o name apos pos env ov (args.length + 0) (backTo pos (starEach args env)) []))
    (hb : attributeBase o name env (eval o env) = eval o env) :
    wpB b M A (eval (.Call (.Attribute o name apos) args [] pos) env) Q E s := by
  rw [he, hb]
  refine wpB.bindA (wpAny_mono h (fun ov s₁ h₁ => wpB.bind (wpB.standAt ?_)) fun _ _ x => x)
  unfold methodCall
  rw [hf]
  refine wpB.bindA (wpAny_holding ?_)
  show wpAny M A (getMethod ov name (do return (← importBound o env).getD true)) _ E s₁
  have hpos : methodCallPos true o env apos pos = pure pos := by unfold methodCallPos; simp [hline]
  exact wpAny_mono h₁ (fun fp s₂ h₂ => wpB.bindA (wpAny_of_eq hpos h₂)) fun _ _ x => x
end
noncomputable def isL (cs : Scope) (x : Str) : Bool := cs.kind == .function && (cs.names.lookup x == some .local && !(x == ("__debug__" : Str)))
noncomputable def isG (cs : Scope) (x : Str) : Bool := cs.names.lookup x == some .globalImplicit && !(x == ("__debug__" : Str))
theorem isL_parts {cs : Scope} {x cn : Str} {L f : Addr} {cd : Value} {cl : List (Str × Addr)} (h : isL cs x = true) : cs.kind = .function ∧ (envX cn cs L f cd cl).kindOf x = some .local ∧ (x == ("__debug__" : Str)) = false := by
  unfold isL at h
  simp only [Bool.and_eq_true, beq_iff_eq, Bool.not_eq_true'] at h
  exact ⟨h.1, h.2.1, h.2.2⟩
theorem isG_parts {cs : Scope} {x cn : Str} {L f : Addr} {cd : Value} {cl : List (Str × Addr)} (h : isG cs x = true) : (envX cn cs L f cd cl).kindOf x = some .globalImplicit ∧ (x == ("__debug__" : Str)) = false := by
  unfold isG at h
  simp only [Bool.and_eq_true, beq_iff_eq, Bool.not_eq_true'] at h
  exact ⟨h.1, h.2⟩
noncomputable def okE : Expr → Bool
  | .Starred _ _ => false
  | _ => true
noncomputable def okEs (es : List Expr) : Bool := es.all okE && es.length < 30
theorem star_ok {env : Env} : ∀ {es : List Expr}, es.all okE = true → starEach es env = es.map fun e => (false, eval e env)
  | [], _ => rfl
  | e :: es, h => by
    simp only [List.all_cons, Bool.and_eq_true] at h
    rw [List.map_cons, ← star_ok h.2]
    cases e <;> first | rfl | (cases h.1)
theorem evalCall {x : Str} {p pos : Pos} {es : List Expr} {env : Env} : eval (.Call (.Name x p) es [] pos) env = (do callWith pos (← eval (.Name x p) env) [] (backTo pos (starEach es env)) []) := rfl
theorem evalMeth {x name : Str} {p p2 pos : Pos} {es : List Expr} {env : Env} : eval (.Call (.Attribute (.Name x p) name p2) es [] pos) env = (do let ov ← attributeBase (.Name x p) name env (eval (.Name x p) env); PySem.standAt p2.atName; methodCall (.Name x p) name p2 pos env ov (es.length + 0) (backTo pos (starEach es env)) []) := rfl
theorem baseName {x name : Str} {p : Pos} {w : Sem Value} {env : Env} : attributeBase (.Name x p) name env w = w := rfl
theorem evalAttr {x name : Str} {p pos : Pos} {env : Env} : eval (.Attribute (.Name x p) name pos) env = (do let o ← eval (.Name x p) env; PySem.standAt pos.atName; let r ← PySem.holding [o] (getAttr o name true); letTemporaryGo (.Name x p) o r; pure r) := rfl
end
section
theorem backTo_any {pos : Pos} {es : List Expr} {env : Env} (h : okEs es = true) : (backTo pos (starEach es env)).any (·.1) = false := by
  unfold okEs at h
  simp only [Bool.and_eq_true] at h
  rw [star_ok h.1]
  unfold backTo
  rw [List.any_eq_false]
  intro x hx
  simp only [List.map_map, List.mem_map] at hx
  obtain ⟨e, _, rfl⟩ := hx
  exact Bool.false_ne_true
theorem meth_form {pos : Pos} {es : List Expr} {env : Env} (h : okEs es = true) : methodCallForm (es.length + 0) (backTo pos (starEach es env)) [] = true := by
  have h2 := backTo_any (pos := pos) (env := env) h
  unfold okEs at h
  simp only [Bool.and_eq_true, decide_eq_true_eq] at h
  unfold methodCallForm
  simp only [List.all_nil, List.isEmpty_nil, if_true, Bool.and_true, Bool.and_eq_true, decide_eq_true_eq, List.all_eq_true, Bool.not_eq_true']
  refine ⟨fun x hx => ?_, h.2⟩
  have := List.any_eq_false.mp h2 x hx
  simpa using this
structure Fn (w : World) (x : Str) (a : Addr) : Prop where
  at_ : nsIn (Mine.H.hd.heap_1_1 w.params) mainGlobals x = some (some (.ref a))
  kp : keepIn (Mine.H.hd.heap_1_1 w.params) (.ref a) = true
structure Mt (w : World) (name : Str) (f : Addr) : Prop where
  pg : plainGet (Mine.H.hd.heap_1_1 w.params) 465 name = true
  at_ : findIn (Mine.H.hd.heap_1_1 w.params) (.ref 465) name = some (some (.ref f))
  fn : isFn (Mine.H.hd.heap_1_1 w.params) (.ref f) = true
  kp : keepIn (Mine.H.hd.heap_1_1 w.params) (.ref f) = true
  no : ∀ c y, getL name (lexEnt c y) = some none
structure At (w : World) (name : Str) : Prop where
  pg : plainGet (Mine.H.hd.heap_1_1 w.params) 465 name = true
  hs : hasDictIn (Mine.H.hd.heap_1_1 w.params) 465 = true
  at_ : ∃ attr, findIn (Mine.H.hd.heap_1_1 w.params) (.ref 465) name = some attr ∧ noGet (Mine.H.hd.heap_1_1 w.params) attr = true
theorem at_text {w} : At w "text" := ⟨by k_is, by k_is, _, by k_is, by k_is⟩
theorem at_at {w} : At w "at" := ⟨by k_is, by k_is, _, by k_is, by k_is⟩
theorem at_sign {w} : At w "sign" := ⟨by k_is, by k_is, _, by k_is, by k_is⟩
theorem at_line {w} : At w "line" := ⟨by k_is, by k_is, _, by k_is, by k_is⟩
theorem at_limits {w} : At w "limits" := ⟨by k_is, by k_is, _, by k_is, by k_is⟩
theorem at_kinds {w} : At w "kinds" := ⟨by k_is, by k_is, _, by k_is, by k_is⟩
theorem at_chunk {w} : At w "chunk" := ⟨by k_is, by k_is, _, by k_is, by k_is⟩
theorem at_buffer {w} : At w "buffer" := ⟨by k_is, by k_is, _, by k_is, by k_is⟩
theorem at_current {w} : At w "current" := ⟨by k_is, by k_is, _, by k_is, by k_is⟩
theorem at_ahead {w} : At w "ahead" := ⟨by k_is, by k_is, _, by k_is, by k_is⟩
section
variable {P : Pt} {cn x name : Str} {cs : Scope} {f a fm : Addr} {cd v : Value} {cl : List (Str × Addr)} {m : Mp} {l r : Ld} {k : Nat} {e e1 e2 e3 e4 : Expr} {es : List Expr} {p1 p2 p3 pos : Pos} {R R1 R2 R3 R4 : Value → Prop} {Rs : List Value → Prop} {c : LC} {y : LD}
  {kk : Value → Ld → Prop} {E : Value → Shared → Prop} {Q : Flow → Shared → Prop} {rest : List Stmt}
theorem Ev.loc (hm : m x = some v) (hx : isL cs x = true := by rfl) : Ev P (envX cn cs P.L f cd cl) m l (.Name x pos) (V v) :=
  have h := isL_parts (cn := cn) (L := P.L) (f := f) (cd := cd) (cl := cl) hx
  ev_L hm h.2.1 h.1 h.2.2
theorem Ev.glob (O : Ok P (envX cn cs P.L f cd cl) k) (hm : nsIn (Mine.H.hd.heap_1_1 P.w.params) mainGlobals x = some (some v)) (hx : isG cs x = true := by rfl) : Ev P (envX cn cs P.L f cd cl) m l (.Name x pos) (V v) :=
  have h := isG_parts (cn := cn) (L := P.L) (f := f) (cd := cd) (cl := cl) hx
  ev_K O hm h.1 O.C.kind h.2
theorem ev_self (O : Ok P (envX cn cs P.L f cd cl) k) (Hn : At P.w name) (hm : m x = some (.ref c.x)) (hl : getL name (lexEnt c y) = some (some v)) (hv : handedIn v = true) (hx : isL cs x = true := by rfl) :
    Ev P (envX cn cs P.L f cd cl) m (Lx c y ++ r) (.Attribute (.Name x p1) name p2) (V v) := fun hp tk H Q E hQ => by
  refine Attribute_Name_ (Ev.loc hm hx hp tk H _ _ fun v' h' tk' hv' H' => ?_) evalAttr
  subst hv'
  obtain ⟨at_, ha, hn⟩ := Hn.at_
  exact get_own (s := P.S h' tk') (K := (Mine.H.hd.heap_1_1 P.w.params)) (C := 465) (es := lexEnt c y) (n := c.n) H'.F O.X (lx_inst (s := P.S h' tk') H'.N) Hn.pg Hn.hs ha hn hl hv (hQ _ _ _ rfl H')
theorem ev_text (O : Ok P (envX cn cs P.L f cd cl) k) (hm : m x = some (.ref c.x)) (hx : isL cs x = true := by rfl) : Ev P (envX cn cs P.L f cd cl) m (Lx c y ++ r) (.Attribute (.Name x p1) (Str.ofString "text") p2) (Y c.tx) := (ev_self O at_text hm rfl rfl hx).y
theorem ev_at (O : Ok P (envX cn cs P.L f cd cl) k) (hm : m x = some (.ref c.x)) (hx : isL cs x = true := by rfl) : Ev P (envX cn cs P.L f cd cl) m (Lx c y ++ r) (.Attribute (.Name x p1) (Str.ofString "at") p2) (I y.at_) := (ev_self O at_at hm rfl rfl hx).i
theorem ev_sign (O : Ok P (envX cn cs P.L f cd cl) k) (hm : m x = some (.ref c.x)) (hx : isL cs x = true := by rfl) : Ev P (envX cn cs P.L f cd cl) m (Lx c y ++ r) (.Attribute (.Name x p1) (Str.ofString "sign") p2) (I y.sg) := (ev_self O at_sign hm rfl rfl hx).i
theorem ev_line (O : Ok P (envX cn cs P.L f cd cl) k) (hm : m x = some (.ref c.x)) (hx : isL cs x = true := by rfl) : Ev P (envX cn cs P.L f cd cl) m (Lx c y ++ r) (.Attribute (.Name x p1) (Str.ofString "line") p2) (I y.ln) := (ev_self O at_line hm rfl rfl hx).i
theorem ev_limits (O : Ok P (envX cn cs P.L f cd cl) k) (hm : m x = some (.ref c.x)) (hx : isL cs x = true := by rfl) : Ev P (envX cn cs P.L f cd cl) m (Lx c y ++ r) (.Attribute (.Name x p1) (Str.ofString "limits") p2) (V (.ref c.lim)) := ev_self O at_limits hm rfl rfl hx
theorem ev_kinds (O : Ok P (envX cn cs P.L f cd cl) k) (hm : m x = some (.ref c.x)) (hx : isL cs x = true := by rfl) : Ev P (envX cn cs P.L f cd cl) m (Lx c y ++ r) (.Attribute (.Name x p1) (Str.ofString "kinds") p2) (V (.ref c.kd)) := ev_self O at_kinds hm rfl rfl hx
theorem ev_chunk (O : Ok P (envX cn cs P.L f cd cl) k) (hm : m x = some (.ref c.x)) (hx : isL cs x = true := by rfl) : Ev P (envX cn cs P.L f cd cl) m (Lx c y ++ r) (.Attribute (.Name x p1) (Str.ofString "chunk") p2) (V (.bytes c.cv c.ct)) := ev_self O at_chunk hm rfl rfl hx
theorem ev_buffer (O : Ok P (envX cn cs P.L f cd cl) k) (hm : m x = some (.ref c.x)) (hx : isL cs x = true := by rfl) : Ev P (envX cn cs P.L f cd cl) m (Lx c y ++ r) (.Attribute (.Name x p1) (Str.ofString "buffer") p2) (V (.ref y.b)) := ev_self O at_buffer hm rfl rfl hx
theorem ev_ahead (O : Ok P (envX cn cs P.L f cd cl) k) (hm : m x = some (.ref c.x)) (hx : isL cs x = true := by rfl) : Ev P (envX cn cs P.L f cd cl) m (Lx c y ++ r) (.Attribute (.Name x p1) (Str.ofString "ahead") p2) (V .none) := ev_self O at_ahead hm rfl rfl hx
theorem ev_current (O : Ok P (envX cn cs P.L f cd cl) k) (hm : m x = some (.ref c.x)) (hc : handedIn y.cur = true) (hx : isL cs x = true := by rfl) : Ev P (envX cn cs P.L f cd cl) m (Lx c y ++ r) (.Attribute (.Name x p1) (Str.ofString "current") p2) (V y.cur) := ev_self O at_current hm rfl hc hx
theorem ev_calls (Fx : Fn P.w x a) (O : Ok P (envX cn cs P.L f cd cl) k) (ha : Evs P (envX cn cs P.L f cd cl) m l es Rs) (hc : ∀ vs, Rs vs → CallP P l (.ref a) vs R) (hx : isG cs x = true) (hz : okEs es = true) :
    Ev P (envX cn cs P.L f cd cl) m l (.Call (.Name x p1) es [] pos) R := fun hp tk H Q E hQ => by
  refine Call_ (Ev.glob O Fx.at_ hx hp tk H _ _ fun v' h' tk' hv' H' => ?_) evalCall
  subst hv'
  exact wpB.to_any (bCallWith (b := false) (first := []) (backTo_any hz) Fx.kp (ha h' tk' pos H' _ _ fun vs h2 t2 hv H2 => ⟨O.X.keeps H2.F.keep, wpB.of_any (hc vs hv m h2 t2 H2 Q E hQ)⟩))
theorem em_calls (Fx : Fn P.w x a) (O : Ok P (envX cn cs P.L f cd cl) k) (ha : Evs P (envX cn cs P.L f cd cl) m l es Rs) (hc : ∀ vs, Rs vs → CallW P l (.ref a) vs kk E) (hx : isG cs x = true) (hz : okEs es = true) :
    Em P (envX cn cs P.L f cd cl) m l (.Call (.Name x p1) es [] pos) kk E := fun hp tk H Q hQ => by
  rw [evalCall]
  refine wpB.bindA (Ev.glob O Fx.at_ hx hp tk H _ _ fun v' h' tk' hv' H' => ?_)
  subst hv'
  exact bCallWith (first := []) (backTo_any hz) Fx.kp (ha h' tk' pos H' _ _ fun vs h2 t2 hv H2 => ⟨O.X.keeps H2.F.keep, hc vs hv m h2 t2 H2 Q hQ⟩)
theorem em_meths (Mx : Mt P.w name fm) (O : Ok P (envX cn cs P.L f cd cl) k) (hm : m x = some (.ref c.x)) (ha : Evs P (envX cn cs P.L f cd cl) m (Lx c y ++ r) es Rs) (hc : ∀ vs, Rs vs → CallW P (Lx c y ++ r) (.ref fm) (.ref c.x :: vs) kk E)
    (hx : isL cs x = true) (hz : okEs es = true) (hl : (p2.endLine == pos.line) = true) :
    Em P (envX cn cs P.L f cd cl) m (Lx c y ++ r) (.Call (.Attribute (.Name x p1) name p2) es [] pos) kk E := fun hp tk H Q hQ => by
  refine bCallMeth (Ev.loc hm hx hp tk H _ _ fun v' h' tk' hv' H' => ?_) hl (meth_form hz) evalMeth baseName
  subst hv'
  refine method_inst (s := P.S h' tk') (K := (Mine.H.hd.heap_1_1 P.w.params)) (C := 465) (es := lexEnt c y) (n := c.n) H'.F O.X (lx_inst (s := P.S h' tk') H'.N) Mx.pg Mx.at_ Mx.fn (Mx.no c y) ?_
  exact bCallWith (first := [.ref c.x]) (backTo_any hz) Mx.kp (ha h' tk' pos H' _ _ fun vs h2 t2 hv H2 => ⟨O.X.keeps H2.F.keep, hc vs hv m h2 t2 H2 Q hQ⟩)
theorem evs0 {env : Env} : Evs P env m l [] (fun vs => vs = []) := evs_nil
theorem star1 {env : Env} {es : List Expr} (h : okEs (e :: es) = true) : starEach (e :: es) env = (false, eval e env) :: starEach es env := by
  unfold okEs at h
  simp only [List.all_cons, Bool.and_eq_true] at h
  cases e <;> first | rfl | (cases h.1.1)
theorem okEs_tail {es : List Expr} (h : okEs (e :: es) = true) : okEs es = true := by
  unfold okEs at h ⊢
  simp only [List.all_cons, Bool.and_eq_true, decide_eq_true_eq, List.length_cons] at h ⊢
  exact ⟨h.1.2, by omega⟩
theorem evs1 {env : Env} {R : Value → Prop} (h1 : Ev P env m l e1 R) (hz : okEs [e1] = true) : Evs P env m l [e1] (fun vs => ∃ v, vs = [v] ∧ R v) :=
  fun hp tk pos H Q E hQ => evs_cons h1 evs_nil (star1 hz) hp tk pos H Q E fun vs h' tk' ⟨v, us, e, hv, hu⟩ H' => hQ vs h' tk' ⟨v, by rw [e, hu], hv⟩ H'
theorem evs2 {env : Env} (h1 : Ev P env m l e1 R1) (h2 : Ev P env m l e2 R2) (hz : okEs [e1, e2] = true) : Evs P env m l [e1, e2] (fun vs => ∃ v u, vs = [v, u] ∧ R1 v ∧ R2 u) :=
  fun hp tk pos H Q E hQ => evs_cons h1 (evs1 h2 (okEs_tail hz)) (star1 hz) hp tk pos H Q E fun vs h' tk' ⟨v, us, e, hv, u, e', hu⟩ H' => hQ vs h' tk' ⟨v, u, by rw [e, e'], hv, hu⟩ H'
theorem evs3 {env : Env} (h1 : Ev P env m l e1 R1) (h2 : Ev P env m l e2 R2) (h3 : Ev P env m l e3 R3) (hz : okEs [e1, e2, e3] = true) : Evs P env m l [e1, e2, e3] (fun vs => ∃ v u t, vs = [v, u, t] ∧ R1 v ∧ R2 u ∧ R3 t) :=
  fun hp tk pos H Q E hQ => evs_cons h1 (evs2 h2 h3 (okEs_tail hz)) (star1 hz) hp tk pos H Q E fun vs h' tk' ⟨v, us, e, hv, u, t, e', hu, ht⟩ H' => hQ vs h' tk' ⟨v, u, t, by rw [e, e'], hv, hu, ht⟩ H'
theorem evs4 {env : Env} (h1 : Ev P env m l e1 R1) (h2 : Ev P env m l e2 R2) (h3 : Ev P env m l e3 R3) (h4 : Ev P env m l e4 R4) (hz : okEs [e1, e2, e3, e4] = true) : Evs P env m l [e1, e2, e3, e4] (fun vs => ∃ v u t s, vs = [v, u, t, s] ∧ R1 v ∧ R2 u ∧ R3 t ∧ R4 s) :=
  fun hp tk pos H Q E hQ => evs_cons h1 (evs3 h2 h3 h4 (okEs_tail hz)) (star1 hz) hp tk pos H Q E fun vs h' tk' ⟨v, us, e, hv, u, t, s, e', hu, ht, hs⟩ H' => hQ vs h' tk' ⟨v, u, t, s, by rw [e, e'], hv, hu, ht, hs⟩ H'
section
variable (Fx : Fn P.w x a) (O : Ok P (envX cn cs P.L f cd cl) k)
include Fx O
theorem ev_call1 (h1 : Ev P (envX cn cs P.L f cd cl) m l e1 R1) (hc : ∀ v, R1 v → CallP P l (.ref a) [v] R) (hx : isG cs x = true := by rfl) (hz : okEs [e1] = true := by rfl) : Ev P (envX cn cs P.L f cd cl) m l (.Call (.Name x p1) [e1] [] pos) R :=
  ev_calls Fx O (evs1 h1 hz) (fun vs ⟨v, e, hv⟩ => e ▸ hc v hv) hx hz
theorem ev_call2 (h1 : Ev P (envX cn cs P.L f cd cl) m l e1 R1) (h2 : Ev P (envX cn cs P.L f cd cl) m l e2 R2) (hc : ∀ v u, R1 v → R2 u → CallP P l (.ref a) [v, u] R) (hx : isG cs x = true := by rfl) (hz : okEs [e1, e2] = true := by rfl) : Ev P (envX cn cs P.L f cd cl) m l (.Call (.Name x p1) [e1, e2] [] pos) R :=
  ev_calls Fx O (evs2 h1 h2 hz) (fun vs ⟨v, u, e, hv, hu⟩ => e ▸ hc v u hv hu) hx hz
theorem ev_call3 (h1 : Ev P (envX cn cs P.L f cd cl) m l e1 R1) (h2 : Ev P (envX cn cs P.L f cd cl) m l e2 R2) (h3 : Ev P (envX cn cs P.L f cd cl) m l e3 R3) (hc : ∀ v u t, R1 v → R2 u → R3 t → CallP P l (.ref a) [v, u, t] R) (hx : isG cs x = true := by rfl) (hz : okEs [e1, e2, e3] = true := by rfl) :
    Ev P (envX cn cs P.L f cd cl) m l (.Call (.Name x p1) [e1, e2, e3] [] pos) R := ev_calls Fx O (evs3 h1 h2 h3 hz) (fun vs ⟨v, u, t, e, hv, hu, ht⟩ => e ▸ hc v u t hv hu ht) hx hz
theorem em_call1 (h1 : Ev P (envX cn cs P.L f cd cl) m l e1 R1) (hc : ∀ v, R1 v → CallW P l (.ref a) [v] kk E) (hx : isG cs x = true := by rfl) (hz : okEs [e1] = true := by rfl) : Em P (envX cn cs P.L f cd cl) m l (.Call (.Name x p1) [e1] [] pos) kk E :=
  em_calls Fx O (evs1 h1 hz) (fun vs ⟨v, e, hv⟩ => e ▸ hc v hv) hx hz
theorem em_call2 (h1 : Ev P (envX cn cs P.L f cd cl) m l e1 R1) (h2 : Ev P (envX cn cs P.L f cd cl) m l e2 R2) (hc : ∀ v u, R1 v → R2 u → CallW P l (.ref a) [v, u] kk E) (hx : isG cs x = true := by rfl) (hz : okEs [e1, e2] = true := by rfl) : Em P (envX cn cs P.L f cd cl) m l (.Call (.Name x p1) [e1, e2] [] pos) kk E :=
  em_calls Fx O (evs2 h1 h2 hz) (fun vs ⟨v, u, e, hv, hu⟩ => e ▸ hc v u hv hu) hx hz
end
section
variable (Mx : Mt P.w name fm) (O : Ok P (envX cn cs P.L f cd cl) k)
include Mx O
theorem em_meth0 (hm : m x = some (.ref c.x)) (hc : CallW P (Lx c y ++ r) (.ref fm) [.ref c.x] kk E) (hx : isL cs x = true := by rfl) (hl : (p2.endLine == pos.line) = true := by rfl) :
    Em P (envX cn cs P.L f cd cl) m (Lx c y ++ r) (.Call (.Attribute (.Name x p1) name p2) [] [] pos) kk E := em_meths Mx O hm evs_nil (fun vs e => e ▸ hc) hx rfl hl
theorem em_meth1 (hm : m x = some (.ref c.x)) (h1 : Ev P (envX cn cs P.L f cd cl) m (Lx c y ++ r) e1 R1) (hc : ∀ v, R1 v → CallW P (Lx c y ++ r) (.ref fm) [.ref c.x, v] kk E) (hx : isL cs x = true := by rfl) (hl : (p2.endLine == pos.line) = true := by rfl) (hz : okEs [e1] = true := by rfl) :
    Em P (envX cn cs P.L f cd cl) m (Lx c y ++ r) (.Call (.Attribute (.Name x p1) name p2) [e1] [] pos) kk E := em_meths Mx O hm (evs1 h1 hz) (fun vs ⟨v, e, hv⟩ => e ▸ hc v hv) hx hz hl
theorem em_meth2 (hm : m x = some (.ref c.x)) (h1 : Ev P (envX cn cs P.L f cd cl) m (Lx c y ++ r) e1 R1) (h2 : Ev P (envX cn cs P.L f cd cl) m (Lx c y ++ r) e2 R2) (hc : ∀ v u, R1 v → R2 u → CallW P (Lx c y ++ r) (.ref fm) [.ref c.x, v, u] kk E) (hx : isL cs x = true := by rfl) (hl : (p2.endLine == pos.line) = true := by rfl)
    (hz : okEs [e1, e2] = true := by rfl) : Em P (envX cn cs P.L f cd cl) m (Lx c y ++ r) (.Call (.Attribute (.Name x p1) name p2) [e1, e2] [] pos) kk E := em_meths Mx O hm (evs2 h1 h2 hz) (fun vs ⟨v, u, e, hv, hu⟩ => e ▸ hc v u hv hu) hx hz hl
end
theorem Em.of {env : Env} (h : Ev P env m l e R) (hk : ∀ v, R v → kk v l) : Em P env m l e kk E := fun hp tk H Q hQ => wpB.of_any (h hp tk H _ _ fun v h' tk' hv H' => hQ v l h' tk' (hk v hv) H')
noncomputable def kE (P : Pt) (env : Env) (m : Mp) (rest : List Stmt) (Q : Flow → Shared → Prop) (E : Value → Shared → Prop) : Value → Ld → Prop := fun v l' => match v with | .ref _ => False | _ => W P env m l' rest Q E
noncomputable def kA (P : Pt) (env : Env) (m : Mp) (x : Str) (rest : List Stmt) (Q : Flow → Shared → Prop) (E : Value → Shared → Prop) : Value → Ld → Prop := fun v l' => W P env (upd m x v) l' rest Q E
noncomputable def kR (kk : Value → Ld → Prop) (rl : Ld) : Value → Ld → Prop := fun v l' => kk v (l' ++ rl)
theorem W.expr {env : Env} (h : Em P env m l e (kE P env m rest Q E) E) (hi : interactive env = false := by rfl) (hs : swapsWith e none pos.line env = pure false := by rfl) : W P env m l (.Expr e pos :: rest) Q E :=
  W.cons fun hp tk H => by
    rw [exec_Expr env e pos hi hs]
    refine wpB.bind (wpB.standAt (wpB.bind (h hp tk H _ fun v l' h' tk' hv H' => ?_)))
    have hn : ∀ a, v ≠ .ref a := fun a q => by subst q; exact hv
    rw [dropValue_plain hn]
    refine wpB.pure ?_
    cases v <;> first | exact hv _ _ H' | exact (hn _ rfl).elim
theorem W.retM {env : Env} (h : Em P env m l e (fun v l' => ∀ hp tk, Led P m l' hp → Q (.ret v) (P.S hp tk)) E) : W P env m l (.Return (some e) pos :: rest) Q E :=
  W.cons fun hp tk H Γ p hΓ hc => by
    simp only [exec_Return_some, Sem.wp_bind', Sem.wp_cmd_standAt, Sem.wp_pure']
    exact h hp tk H (fun v s' => Q (.ret v) s') (fun v l' h' tk' hv H' => hv h' tk' H') Γ _ hΓ hc
theorem W.ret0 {env : Env} (h : ∀ hp tk, Led P m l hp → Q (.ret .none) (P.S hp tk)) : W P env m l (.Return none pos :: rest) Q E := W.consA fun hp tk H => wpAny_Return_none (h hp tk H)
theorem W.retE {env : Env} {rl : Ld} (fin : FinR P kk rl Q) (h : Em P env m l e (kR kk rl) E) : W P env m l (.Return (some e) pos :: rest) Q E :=
  W.retM fun hp tk H Q' hQ => h hp tk H Q' fun v l' h' tk' hv H' => hQ v l' h' tk' (fun _ _ H => fin _ _ _ _ _ H hv) H'
theorem W.asgM (h : Em P (envX cn cs P.L f cd cl) m l e (kA P (envX cn cs P.L f cd cl) m x rest Q E) E) (hx : isL cs x = true := by rfl) (hs : swapsWith e (some (.Name x p1)) pos.line (envX cn cs P.L f cd cl) = pure false := by rfl) :
    W P (envX cn cs P.L f cd cl) m l (.Assign [.Name x p1] e pos :: rest) Q E :=
  have hk := isL_parts (cn := cn) (L := P.L) (f := f) (cd := cd) (cl := cl) hx
  W.cons fun hp tk H Γ p hΓ hc => by
    simp only [exec_Assign_Name (envX cn cs P.L f cd cl) x p1 e pos hs, Sem.wp_bind', Sem.wp_cmd_standAt, Sem.wp_bindName, Sem.wp_pure']
    refine Sem.wp_mono P.M Γ _ (fun v p' s₁ h₁ => h₁ Γ _ hΓ) (fun _ _ _ h' => h') _ _ (h hp tk H (fun v s₁ => wpAny P.M P.A (storeName (envX cn cs P.L f cd cl) x v) (fun _ s' => wpB P.b P.M P.A (execs rest (envX cn cs P.L f cd cl)) Q E s') E s₁) (fun v l' h' tk' hv H' => ?_) Γ _ hΓ hc)
    exact storeX_L (s := P.S h' tk') H'.F H'.N (fun h2 F2 N2 => hv h2 _ ⟨F2, N2⟩) hk.1 hk.2.1
theorem W.asg (ha : Ev P (envX cn cs P.L f cd cl) m l e R) (h : ∀ v, R v → W P (envX cn cs P.L f cd cl) (upd m x v) l rest Q E) (hx : isL cs x = true := by rfl) (hs : swapsWith e (some (.Name x p1)) pos.line (envX cn cs P.L f cd cl) = pure false := by rfl) :
    W P (envX cn cs P.L f cd cl) m l (.Assign [.Name x p1] e pos :: rest) Q E := W.asgM (Em.of ha h) hx hs
theorem W.asgI {i : Int} (ha : Ev P (envX cn cs P.L f cd cl) m l e (I i)) (h : ∀ t, W P (envX cn cs P.L f cd cl) (upd m x (.int i t)) l rest Q E) (hx : isL cs x = true := by rfl) (hs : swapsWith e (some (.Name x p1)) pos.line (envX cn cs P.L f cd cl) = pure false := by rfl) :
    W P (envX cn cs P.L f cd cl) m l (.Assign [.Name x p1] e pos :: rest) Q E := W.asg ha (fun v ⟨t, q⟩ => q ▸ h t) hx hs
theorem W.asgY {i : List UInt8} (ha : Ev P (envX cn cs P.L f cd cl) m l e (Y i)) (h : ∀ t, W P (envX cn cs P.L f cd cl) (upd m x (.bytes i.toArray t)) l rest Q E) (hx : isL cs x = true := by rfl) (hs : swapsWith e (some (.Name x p1)) pos.line (envX cn cs P.L f cd cl) = pure false := by rfl) :
    W P (envX cn cs P.L f cd cl) m l (.Assign [.Name x p1] e pos :: rest) Q E := W.asg ha (fun v ⟨t, q⟩ => q ▸ h t) hx hs
end
end
section
set_option maxHeartbeats 1000000
section
variable {prog : Program} {w : World} {A : Around} {E : Value → Shared → Prop} {s : Shared}
theorem lenB {l : List UInt8} {t : Tok} {Q : Value → Shared → Prop} (hz : l.length < 1000000) (h : ∀ t tk, Q (.int l.length t) { s with toks := tk }) : wpAny (model prog w) A (call (.builtin "len") [.bytes l.toArray t]) Q E s :=
  len_bytes (by rw [List.size_toArray]; omega) (by rw [List.size_toArray]; exact h _ _)
theorem itemB {x : List UInt8} {i : Int} {t ui : Tok} {value slice : Expr} {Q : Value → Shared → Prop} (hz : x.length < 1000000) (h0 : 0 ≤ i) (h1 : i < (x.length : Int))
    (h : ∀ tk, Q (.int (((x.getD i.toNat 0).toNat : Nat) : Int) tk) { s with toks := tk + 1 })
    (hs : subscripted slice false (.bytes x.toArray t) (.int i ui) = operate [.bytes x.toArray t, .int i ui] (getItem (.bytes x.toArray t) (.int i ui)) := by with_unfolding_all rfl)
    (ht : ∀ r, letTemporaryGo value (.bytes x.toArray t) r = pure () := by intro _; with_unfolding_all rfl) : wpAny (model prog w) A (subscriptTail value slice (.bytes x.toArray t) (.int i ui)) Q E s :=
  bytes_item_K (by omega) h0 h1 rfl (h _) hs ht
end
noncomputable def sgnL : List UInt8 → Int
  | [] => -1
  | a :: _ => a.toNat
structure Inv (c : LC) (y : LD) (r buf : List UInt8) : Prop where
  suf : ∃ p, c.tx = p ++ r ∧ y.at_ = p.length
  sg : y.sg = sgnL r
  buf : y.buf = buf
  ln : 1 ≤ y.ln ∧ y.ln ≤ y.at_ + 1
  sz : c.tx.length ≤ 90
theorem Inv.at_lt {c : LC} {y : LD} {r buf : List UInt8} (I : Inv c y r buf) : 0 ≤ y.at_ ∧ y.at_ + r.length = c.tx.length := by
  obtain ⟨p, e, h⟩ := I.suf
  rw [e, h, List.length_append]; omega
theorem Inv.nx {c : LC} {y : LD} {a : UInt8} {r buf : List UInt8} (I : Inv c y (a :: r) buf) : (y.at_ + 1 < (c.tx.length : Int) → (((c.tx.getD (y.at_ + 1).toNat 0).toNat : Nat) : Int) = sgnL r) ∧ (¬ y.at_ + 1 < (c.tx.length : Int) → -1 = sgnL r) := by
  obtain ⟨p, e, h⟩ := I.suf
  have h1 : (y.at_ + 1).toNat = p.length + 1 := by rw [h]; omega
  have h2 : c.tx.length = p.length + (r.length + 1) := by rw [e, List.length_append, List.length_cons]
  rw [h1, e]
  simp only [List.getD_eq_getElem?_getD, List.getElem?_append_right (Nat.le_add_right _ _), Nat.add_sub_cancel_left]
  rw [← e, h2, h]
  cases r with
  | nil => simp [sgnL]
  | cons b r => simp [sgnL]; omega
theorem Inv.move {c : LC} {y : LD} {a : UInt8} {r buf : List UInt8} {t u : Tok} {i : Int} (I : Inv c y (a :: r) buf) (e : i = sgnL r) : Inv c { y with at_ := y.at_ + 1, ta := t, sg := i, ts := u } r buf := by
  obtain ⟨p, e', h⟩ := I.suf
  refine ⟨⟨p ++ [a], by rw [e']; simp, by simp [h]⟩, e, I.buf, ?_, I.sz⟩
  have := I.ln
  show 1 ≤ y.ln ∧ y.ln ≤ y.at_ + 1 + 1
  omega
noncomputable def resList : List (List UInt8) := [[97, 110, 100], [98, 114, 101, 97, 107], [100, 111], [101, 108, 115, 101], [101, 108, 115, 101, 105, 102], [101, 110, 100], [102, 97, 108, 115, 101], [102, 111, 114], [102, 117, 110, 99, 116, 105, 111, 110], [105, 102], [105, 110], [108, 111, 99, 97, 108], [110, 105, 108], [110, 111, 116], [111, 114], [114, 101, 112, 101, 97, 116], [114, 101, 116, 117, 114, 110], [116, 104, 101, 110], [116, 114, 117, 101], [117, 110, 116, 105, 108], [119, 104, 105, 108, 101]]
structure Stat (prog : Program) (w : World) (c : LC) (g : Heap) : Prop where
  chunk : c.cv.size ≤ 1000
  lim : ∃ es n, InstAt g c.lim (instObj 53 c.ld) 53 (some (dictOf es n)) ∧ getL (Str.ofString "text") es = some (some (.int 1000000 c.lt)) ∧ getL (Str.ofString "width") es = some (some (.int 64 c.lw))
  kinds : ∃ ts : List Tok, ts.length = 21 ∧ g.DictOf (bytesKind prog w) c.kd ((resList.zip ts).zipIdx.map fun p => (p.1.1, Value.int (257 + p.2) p.1.2))
  kd0 : (c.kd == sysModules) = false
theorem Stat.keeps {prog : Program} {w : World} {c : LC} {g g' : Heap} (S : Stat prog w c g) (st : g.StaysIn g') : Stat prog w c g' := by
  obtain ⟨es, n, I, h1, h2⟩ := S.lim
  obtain ⟨ts, hl, D⟩ := S.kinds
  exact ⟨S.chunk, ⟨es, n, ⟨st _ _ I.at_, I.cls, I.no, st _ _ I.dict⟩, h1, h2⟩, ⟨ts, hl, D.keep fun b o e => st b o e⟩, S.kd0⟩
section
variable {prog : Program} {w : World} {A : Around} {s : Shared} {g : Heap} {L : Addr} {m : Str → Option Value} {E : Value → Shared → Prop} {c : LC} {y : LD} {rest : List (Addr × Obj)} {Q : Value → Shared → Prop}
theorem Stat.limH (S : Stat prog w c g) (F : Fr g L s.heap m) : ∃ es n, InstAt s.heap c.lim (instObj 53 c.ld) 53 (some (dictOf es n)) ∧ getL (Str.ofString "text") es = some (some (.int 1000000 c.lt)) ∧ getL (Str.ofString "width") es = some (some (.int 64 c.lw)) :=
  let ⟨es, n, I, h1, h2⟩ := S.lim
  ⟨es, n, ⟨F.keep _ _ I.at_, I.cls, I.no, F.keep _ _ I.dict⟩, h1, h2⟩
theorem get_lim {expr : Bool} (F : Fr g L s.heap m) (X : (Mine.H.hd.heap_1_1 w.params).In g) (S : Stat prog w c g) 
    (h : ∀ tk', Q (.int 1000000 c.lt) { s with toks := tk' }) : wpAny (model prog w) A (getAttr (.ref c.lim) (Str.ofString "text") expr) Q E s := by
  obtain ⟨es, n, I, h1, h2⟩ := S.limH F
  exact get_own (K := Mine.H.hd.heap_1_1 w.params) (C := 53) (es := es) (n := n) F X I (by k_is) (by k_is) (attr := none) (by k_is) (by k_is) h1 (by rfl) (h _)
theorem get_limW {expr : Bool} (F : Fr g L s.heap m) (X : (Mine.H.hd.heap_1_1 w.params).In g) (S : Stat prog w c g) 
    (h : ∀ tk', Q (.int 64 c.lw) { s with toks := tk' }) : wpAny (model prog w) A (getAttr (.ref c.lim) (Str.ofString "width") expr) Q E s := by
  obtain ⟨es, n, I, h1, h2⟩ := S.limH F
  exact get_own (K := Mine.H.hd.heap_1_1 w.params) (C := 53) (es := es) (n := n) F X I (by k_is) (by k_is) (attr := none) (by k_is) (by k_is) h2 (by rfl) (h _)
theorem Inv.sgr {a : UInt8} {r buf : List UInt8} (I : Inv c y (a :: r) buf) : 0 ≤ y.sg ∧ y.sg < 256 := by
  rw [I.sg]
  have := a.toNat_lt
  show 0 ≤ (a.toNat : Int) ∧ (a.toNat : Int) < 256
  omega
theorem Inv.sga {a : UInt8} {r buf : List UInt8} (I : Inv c y (a :: r) buf) : y.sg.toNat.toUInt8 = a := by
  rw [I.sg]
  show ((a.toNat : Int).toNat).toUInt8 = a
  simp
theorem lx_buf (N : News g L s.heap (Lx c y ++ rest)) : s.heap.get? y.b = some (baObj y.buf) := (N _ (.tail _ (.tail _ (.head _)))).1
theorem append_lx (F : Fr g L s.heap m) (N : News g L s.heap (Lx c y ++ rest)) (hr : RestOK c rest) {buf r : List UInt8} (I : Inv c y r buf) {i : Int} {t : Tok} (h0 : 0 ≤ i ∧ i < 256) (hz : buf.length < 1000000)
    (h : ∀ y' h', Inv c y' r (buf ++ [i.toNat.toUInt8]) → Fr g L h' m → News g L h' (Lx c y' ++ rest) → Q .none { s with heap := h' }) :
    wpN (model prog w) A (call (.builtin "bytearray.append") [.ref y.b, .int i t]) Q E s := by
  have hn := lx_ne N
  have ho := rest_out N hr
  refine append_ba (lx_buf N) h0.1 h0.2 (by rw [I.buf]; exact hz) fun h' sb hb => h { y with buf := y.buf ++ [i.toNat.toUInt8] } h' ⟨I.suf, I.sg, by show y.buf ++ _ = _; rw [I.buf], I.ln, I.sz⟩ ?_ ?_
  · have nb := N _ (.tail _ (.tail _ (.head _)))
    refine ⟨F.ns.at fun o e => (sb.2 L (Ne.symm nb.2.1)).trans e, fun a o e => (sb.2 a fun q => ?_).trans (F.keep a o e), F.above⟩
    have := nb.2.2
    dsimp only at this
    rw [← q, e] at this
    cases this
  · refine fun q hq => ?_
    have nb := N _ (.tail _ (.tail _ (.head _)))
    rcases List.mem_cons.mp hq with rfl | hq
    · exact ⟨(sb.2 _ hn.2.2).trans (N _ (.head _)).1, (N _ (.head _)).2⟩
    rcases List.mem_cons.mp hq with rfl | hq
    · exact ⟨(sb.2 _ (Ne.symm hn.2.1)).trans (N _ (.tail _ (.head _))).1, (N _ (.tail _ (.head _))).2⟩
    rcases List.mem_cons.mp hq with rfl | hq
    · exact ⟨hb, nb.2⟩
    · have z := N q (.tail _ (.tail _ (.tail _ hq)))
      exact ⟨(sb.2 _ fun e => ho q hq (by simp [e])).trans z.1, z.2⟩
end
section
variable {prog : Program} {w : World} {A : Around} {E : Value → Shared → Prop} {s : Shared}
theorem aLoop {test body orelse pos env} {Q : Flow → Shared → Prop} (I : Nat → Shared → Prop)
    (turn : ∀ n s, I n s →
      wpAny (model prog w) A (isTrue test env (eval test env)) (fun b s₂ =>
        if b then wpAny (model prog w) A (execs body env) (fun f s₃ => match f with
            | .next | .cont => Kept (∃ m, m < n ∧ I m s₃)
            | .brk => Q .next s₃
            | .ret v => Q (.ret v) s₃) (notedBy (model prog w) A env fun e s' => cameBackBy (model prog w) A env E e s') s₂
        else wpAny (model prog w) A (execs orelse env) Q (notedBy (model prog w) A env fun e s' => cameBackBy (model prog w) A env E e s') s₂)
        (notedBy (model prog w) A env fun e s' => cameBackBy (model prog w) A env E e s') s)
    (n : Nat) (h : I n s) : wpAny (model prog w) A (exec (.While test body orelse pos) env) Q E s := by
  rw [exec_While]
  refine wpAny_bind (wpAny_standAt (wpAny_runOwn (codeAny_whileLoop I (fun n s hI => ?_) n h)))
  refine wpAny_mono (turn n s hI) (fun b s₂ h₂ => ?_) fun _ _ x => x
  cases b with
  | false => exact h₂
  | true =>
    simp only [if_true] at h₂ ⊢
    refine wpAny_mono h₂ (fun f s₃ h₃ => ?_) fun _ _ x => x
    cases f <;> first | exact h₃.it | exact h₃
end
end
section
set_option maxHeartbeats 4000000
noncomputable def isDigI (i : Int) : Bool := decide (48 ≤ i ∧ i ≤ 57)
noncomputable def isLetI (i : Int) : Bool := decide ((65 ≤ i ∧ i ≤ 90) ∨ (97 ≤ i ∧ i ≤ 122) ∨ i = 95)
noncomputable def isNamI (i : Int) : Bool := isLetI i || isDigI i
noncomputable def isBlkI (i : Int) : Bool := decide (i = 32 ∨ (9 ≤ i ∧ i ≤ 13))
noncomputable def isCtlI (i : Int) : Bool := decide ((0 ≤ i ∧ i < 32) ∨ i = 127)
noncomputable def isNlI (i : Int) : Bool := decide (i = 10 ∨ i = 13)
section
variable {prog : Program} {w : World} {A : Around} {s : Shared} {base g : Heap} {outer : List Env} {L : Addr} {m : Str → Option Value} {env : Env} {k : Nat}
  {mean : ExcName → Option Value} {mg mb : Str → Option Value} {Q E : Value → Shared → Prop} {c : LC} {y : LD} {news rest : List (Addr × Obj)}
noncomputable def isNlB (a : UInt8) : Bool := a == 10 || a == 13
noncomputable def nlRest (a : UInt8) : List UInt8 → List UInt8
  | [] => []
  | b :: r => if isNlB b && b != a then r else b :: r
theorem isNl_sgn {r : List UInt8} : isNlI (sgnL r) = (match r with | [] => false | a :: _ => isNlB a) := by
  cases r with
  | nil => rfl
  | cons a r =>
    show isNlI (a.toNat : Int) = isNlB a
    rw [Bool.eq_iff_iff]
    simp only [isNlI, isNlB, decide_eq_true_eq, Bool.or_eq_true, beq_iff_eq, ← UInt8.toNat_inj]
    show _ ↔ a.toNat = 10 ∨ a.toNat = 13
    lia
theorem endLine1 {c : LC} {y y1 y2 : LD} {a b : UInt8} {r buf : List UInt8} {t : Tok} (I : Inv c y (a :: b :: r) buf) (I1 : Inv c y1 (b :: r) buf) (I2 : Inv c y2 r buf) (e1 : y1.ln = y.ln) (e2 : y2.ln = y1.ln) (n1 : isNlI y1.sg = true) (n2 : y1.sg ≠ y.sg) :
    Inv c { y2 with ln := y2.ln + 1, tl := t } (nlRest a (b :: r)) buf := by
  have hb : b ≠ a := fun e => n2 (by rw [I1.sg, I.sg, e]; rfl)
  have e : nlRest a (b :: r) = r := by
    rw [I1.sg, isNl_sgn] at n1
    simp only [nlRest]
    rw [if_pos (by simp only [Bool.and_eq_true, bne_iff_ne]; exact ⟨n1, hb⟩)]
  rw [e]
  refine ⟨I2.suf, I2.sg, I2.buf, ?_, I2.sz⟩
  have h1 := I.at_lt
  have h2 := I2.at_lt
  have h3 := I.ln
  simp only [List.length_cons] at h1
  show 1 ≤ y2.ln + 1 ∧ y2.ln + 1 ≤ y2.at_ + 1
  lia
theorem endLine2 {c : LC} {y y1 : LD} {a : UInt8} {r buf : List UInt8} {t : Tok} (I : Inv c y (a :: r) buf) (I1 : Inv c y1 r buf) (e1 : y1.ln = y.ln) (n : isNlI y1.sg = true → y1.sg = y.sg) :
    Inv c { y1 with ln := y1.ln + 1, tl := t } (nlRest a r) buf := by
  have e : nlRest a r = r := by
    cases r with
    | nil => rfl
    | cons b r =>
      simp only [nlRest]
      rw [if_neg]
      intro q
      simp only [Bool.and_eq_true, bne_iff_ne] at q
      have := n (by rw [I1.sg, isNl_sgn]; exact q.1)
      rw [I1.sg, I.sg] at this
      refine q.2 (UInt8.toNat_inj.mp ?_)
      simp [sgnL] at this
      lia
  rw [e]
  refine ⟨I1.suf, I1.sg, I1.buf, ?_, I1.sz⟩
  have h1 := I.at_lt
  have h2 := I1.at_lt
  have h3 := I.ln
  simp only [List.length_cons] at h1
  show 1 ≤ y1.ln + 1 ∧ y1.ln + 1 ≤ y1.at_ + 1
  lia
end
section
variable {g h : Heap} {L : Addr} {m : Str → Option Value} {x x1 : Str} {v v' v1 : Value}
end
noncomputable def eqs : List UInt8 → Nat × List UInt8
  | [] => (0, [])
  | a :: r => if a = 61 then ((eqs r).1 + 1, (eqs r).2) else (0, a :: r)
section
variable {prog : Program} {w : World} {A : Around} {s : Shared} {base g : Heap} {outer : List Env} {L : Addr} {m : Str → Option Value} {env : Env} {k : Nat}
  {mean : ExcName → Option Value} {mg mb : Str → Option Value} {Q E : Value → Shared → Prop} {c : LC} {y : LD} {news rest : List (Addr × Obj)}
theorem eqs_len : ∀ r : List UInt8, (eqs r).1 + (eqs r).2.length = r.length
  | [] => rfl
  | a :: r => by
    simp only [eqs]
    split
    · have := eqs_len r
      simp only [List.length_cons]; lia
    · simp
theorem eqs_yes {r : List UInt8} : eqs (61 :: r) = ((eqs r).1 + 1, (eqs r).2) := by simp [eqs]
theorem eqs_no {r : List UInt8} (h : sgnL r ≠ 61) : eqs r = (0, r) := by
  cases r with
  | nil => rfl
  | cons a r =>
    simp only [eqs]
    rw [if_neg]
    rintro rfl
    exact h rfl
theorem sg_eq {a : UInt8} {i : Int} (n : UInt8) (h : i = a.toNat) (h2 : i = n.toNat) : a = n := UInt8.toNat_inj.mp (by lia)
end
noncomputable def othList : List (List UInt8) := [[46, 46], [46, 46, 46], [61, 61], [62, 61], [60, 61], [126, 61], [60, 110, 117, 109, 98, 101, 114, 62], [60, 110, 97, 109, 101, 62], [60, 115, 116, 114, 105, 110, 103, 62], [60, 101, 111, 102, 62]]
noncomputable def tokTx (i : Int) : List UInt8 := (resList ++ othList).getD (i - 257).toNat []
noncomputable def valsOf (l : List (List UInt8)) (n : Nat) : List Value := (l.zipIdx n).map fun p => Value.bytes p.1.toArray p.2
theorem valsOf_get : ∀ (l : List (List UInt8)) (n i : Nat), i < l.length → (valsOf l n)[i]? = some (.bytes (l.getD i []).toArray (n + i))
  | a :: l, n, 0, _ => rfl
  | a :: l, n, i + 1, h => by
    have := valsOf_get l (n + 1) i (Nat.lt_of_succ_lt_succ h)
    simp only [valsOf, List.zipIdx_cons, List.map_cons, List.getElem?_cons_succ] at this ⊢
    rw [this, List.getD_cons_succ, show n + 1 + i = n + (i + 1) by lia]
section
variable {prog : Program} {w : World} {A : Around} {s : Shared} {base g : Heap} {outer : List Env} {L : Addr} {m : Str → Option Value} {env : Env} {k : Nat}
  {mean : ExcName → Option Value} {mg mb : Str → Option Value} {Q E : Value → Shared → Prop} {c : LC} {y : LD} {news rest : List (Addr × Obj)}
theorem tokTx_len {i : Int} (hi : 257 ≤ i ∧ i ≤ 287) : (tokTx i).length ≤ 10 := by
  have e : ∀ n : Nat, n < 31 → ((resList ++ othList).getD n []).length ≤ 10 := by decide +kernel
  exact e (i - 257).toNat (by lia)
end
section
variable {prog : Program} {w : World} {A : Around} {s : Shared} {base g : Heap} {outer : List Env} {L : Addr} {m : Str → Option Value} {env : Env} {k : Nat}
  {mean : ExcName → Option Value} {mg mb : Str → Option Value} {Q E : Value → Shared → Prop} {c : LC} {y : LD} {news rest : List (Addr × Obj)}
end
noncomputable abbrev tokEnt (a b : Int) (ka kb : Tok) (i : Int) (t : Tok) (v : Value) : List DictEntry := [⟨a, .str (Str.ofString "kind") ka, .int i t⟩, ⟨b, .str (Str.ofString "value") kb, v⟩]
section
variable {prog : Program} {w : World} {A : Around} {s : Shared} {base g : Heap} {outer : List Env} {L : Addr} {m : Str → Option Value} {env : Env} {k : Nat}
  {mean : ExcName → Option Value} {mg mb : Str → Option Value} {Q E : Value → Shared → Prop} {c : LC} {y : LD} {news rest : List (Addr × Obj)}
theorem boot_ba : bootBuiltins "bytearray" = some (.type "bytearray") := by decide +kernel
end
section
variable {prog : Program} {w : World} {A : Around} {s : Shared} {base g : Heap} {outer : List Env} {L : Addr} {m : Str → Option Value} {env : Env} {k : Nat}
  {mean : ExcName → Option Value} {mg mb : Str → Option Value} {Q E : Value → Shared → Prop} {c : LC} {y : LD} {news rest : List (Addr × Obj)}
noncomputable abbrev tupObj (vs : Array Value) : Obj := { cls := .type "tuple", data := .seq vs }
end
inductive Vl
  | no
  | by (b : List UInt8)
  | nu (i : Int)
noncomputable def Vl.is : Vl → Value → Prop
  | .no, v => v = .none
  | .by b, v => ∃ t, v = .bytes b.toArray t
  | .nu i, v => ∃ t, v = .int i t
def TokAt (x : Addr) (k : Int) (v : Vl) (l : List (Addr × Obj)) : Prop :=
  ∃ d a b ka kb t u, l = [(x, instObj 262 d), (d, dictOf (tokEnt a b ka kb k t u) 2)] ∧ v.is u
noncomputable def cmpR (a : UInt8) : List UInt8 → Int × List UInt8
  | [] => (a.toNat, [])
  | b :: r => if b = 61 then ((if a = 61 then 280 else if a = 60 then 282 else if a = 62 then 281 else 283), r) else (a.toNat, b :: r)
theorem cmpR_no {a : UInt8} {r : List UInt8} (h : sgnL r ≠ 61) : cmpR a r = ((a.toNat : Int), r) := by
  cases r with
  | nil => rfl
  | cons b r =>
    simp only [cmpR]
    rw [if_neg]
    rintro rfl
    exact h rfl
theorem cmpR_yes {a : UInt8} {r : List UInt8} : cmpR a (61 :: r) = ((if a = 61 then 280 else if a = 60 then 282 else if a = 62 then 281 else 283), r) := by simp [cmpR]
theorem byte_of {a : UInt8} (n : UInt8) (h : (a.toNat : Int) = n.toNat) : a = n := UInt8.toNat_inj.mp (by lia)
noncomputable def digI (o : Int) : Int := if 48 ≤ o ∧ o ≤ 57 then o - 48 else if 97 ≤ o ∧ o ≤ 122 then o - 87 else if 65 ≤ o ∧ o ≤ 90 then o - 55 else -1
noncomputable def isBlkV (a : UInt8) : Bool := [32, 9, 10, 11, 12, 13].contains a
noncomputable def skipB : List UInt8 → List UInt8
  | [] => []
  | a :: r => if isBlkV a then skipB r else a :: r
noncomputable def readDg (base : Int) : List UInt8 → Int → Int × List UInt8
  | [], f => (f, [])
  | a :: r, f => if digI a.toNat < 0 ∨ digI a.toNat ≥ base then (f, a :: r) else readDg base r ((f * base + digI a.toNat) % 2 ^ 64)
theorem getD_drop {l : List UInt8} {j : Nat} (h : j < l.length) : l.drop j = l.getD j 0 :: l.drop (j + 1) := by
  rw [List.drop_eq_getElem_cons h]
  simp [List.getD_eq_getElem?_getD, h]
theorem skipB_len : ∀ l : List UInt8, (skipB l).length ≤ l.length
  | [] => Nat.le_refl _
  | a :: r => by
    unfold skipB
    split
    · have := skipB_len r
      simp only [List.length_cons]; lia
    · exact Nat.le_refl _
theorem readDg_stop {l : List UInt8} {i : Nat} {bs f : Int} (hl : i < l.length) (h : digI (l.getD (i : Int).toNat 0).toNat < 0 ∨ bs ≤ digI (l.getD (i : Int).toNat 0).toNat) : readDg bs (l.drop i) f = (f, l.drop i) := by
  have e : (i : Int).toNat = i := Int.toNat_natCast i
  rw [e] at h
  rw [getD_drop hl]
  exact if_pos h
section
variable {prog : Program} {w : World} {A : Around} {s : Shared} {base g : Heap} {outer : List Env} {L : Addr} {m : Str → Option Value} {env : Env} {k : Nat}
  {mean : ExcName → Option Value} {mg mb : Str → Option Value} {Q E : Value → Shared → Prop} {c : LC} {y : LD} {news rest : List (Addr × Obj)}
theorem readDg_len (b : Int) : ∀ (l : List UInt8) (f : Int), (readDg b l f).2.length ≤ l.length
  | [], f => Nat.le_refl _
  | a :: r, f => by
    unfold readDg
    split
    · exact Nat.le_refl _
    · exact Nat.le_succ_of_le (readDg_len b r _)
theorem readDg_suf (b : Int) : ∀ (l : List UInt8) (f : Int), l.drop (l.length - (readDg b l f).2.length) = (readDg b l f).2
  | [], f => rfl
  | a :: r, f => by
    unfold readDg
    split
    · simp
    · have h := readDg_len b r ((f * b + digI a.toNat) % 2 ^ 64)
      rw [List.length_cons, Nat.succ_sub h]
      exact readDg_suf b r _
noncomputable def isMk (l : List UInt8) : Bool := decide (2 < l.length) && (l.getD 0 0 == 48) && #[120, 88].contains (l.getD 1 0)
noncomputable def hexHead (l : List UInt8) : Bool := isMk l && decide (0 ≤ digI (l.getD 2 0).toNat ∧ digI (l.getD 2 0).toNat < 16)
theorem hex_len {l : List UInt8} (h : hexHead l = true) : 2 < l.length := by
  simp only [hexHead, isMk, Bool.and_eq_true, decide_eq_true_eq] at h
  exact h.1.1.1
noncomputable def wrapI (i : Int) : Int := if i % 2 ^ 64 ≥ 2 ^ 63 then i % 2 ^ 64 - 2 ^ 64 else i % 2 ^ 64
noncomputable def numVal (l : List UInt8) : Option Int :=
  if hexHead l then (if (readDg 16 (l.drop 2) 0).2.length = l.length - 2 ∨ skipB (readDg 16 (l.drop 2) 0).2 ≠ [] then none else some (wrapI (readDg 16 (l.drop 2) 0).1))
  else (if (readDg 10 l 0).2.length = l.length ∨ skipB (readDg 10 l 0).2 ≠ [] then none else some (wrapI (readDg 10 l 0).1))
end
noncomputable abbrev Bs := List UInt8
noncomputable abbrev Tk := Option (Int × Vl × Bs)
noncomputable def isDD (a : UInt8) : Bool := isDigI a.toNat || decide ((a.toNat : Int) = 46)
noncomputable def isNm (a : UInt8) : Bool := isNamI a.toNat
noncomputable def expR : Bs → Bs × Bs
  | [] => ([], [])
  | e :: r => if e = 69 ∨ e = 101 then (match r with
      | s :: r3 => if s = 43 ∨ s = 45 then ([e, s], r3) else ([e], s :: r3)
      | [] => ([e], [])) else ([], e :: r)
noncomputable def numR (buf r : Bs) : Bs × Bs :=
  ((buf ++ r.takeWhile isDD) ++ (expR (r.dropWhile isDD)).1 ++ (expR (r.dropWhile isDD)).2.takeWhile isNm, (expR (r.dropWhile isDD)).2.dropWhile isNm)
noncomputable def numTok (buf r : Bs) : Tk := (numVal (numR buf r).1).map fun v => (284, .nu v, (numR buf r).2)
noncomputable def dotR : Bs → Tk
  | 46 :: 46 :: r => some (279, .no, r)
  | 46 :: r => some (278, .no, r)
  | r => if isDigI (sgnL r) then numTok [46] r else some (46, .no, r)
noncomputable def kwOf (w : Bs) : Option Nat := resList.findIdx? (· == w)
noncomputable def wordTok (r : Bs) : Tk := match kwOf (r.takeWhile isNm) with
  | some i => some (257 + i, .no, r.dropWhile isNm)
  | none => some (285, .by (r.takeWhile isNm), r.dropWhile isNm)
noncomputable def escSign (b : UInt8) : UInt8 := if b = 97 then 7 else if b = 98 then 8 else if b = 102 then 12 else if b = 110 then 10 else if b = 114 then 13 else if b = 116 then 9 else if b = 118 then 11 else b
noncomputable def dig3 : Nat → Int → Bs → Int × Bs
  | 0, v, r => (v, r)
  | _ + 1, v, [] => (v, [])
  | n + 1, v, a :: r => if isDigI a.toNat then dig3 n (10 * v + a.toNat - 48) r else (v, a :: r)
noncomputable def escR (buf : Bs) : Bs → Option (Bs × Bs)
  | [] => some (buf, [])
  | b :: r => if isNlI b.toNat then some (buf ++ [10], nlRest b r)
    else if isDigI b.toNat then (if (dig3 3 0 (b :: r)).1 > 255 then none else some (buf ++ [(dig3 3 0 (b :: r)).1.toNat.toUInt8], (dig3 3 0 (b :: r)).2))
    else some (buf ++ [escSign b], r)
noncomputable def strR (q : UInt8) (buf : Bs) : Bs → Option (Bs × Bs)
  | [] => none
  | a :: r => if a = q then some (buf ++ [q], r) else if isNlI a.toNat then none
    else if a = 92 then (match escR buf r with
      | none => none
      | some (b2, r2) => if _h : r2.length < (a :: r).length then strR q b2 r2 else none)
    else strR q (buf ++ [a]) r
termination_by r => r.length
theorem eqs_le (r : Bs) : (eqs r).2.length ≤ r.length := by have := eqs_len r; lia
theorem nlRest_le (a : UInt8) (r : Bs) : (nlRest a r).length ≤ r.length := by
  cases r with
  | nil => exact Nat.le_refl _
  | cons b r => simp only [nlRest]; split <;> simp
noncomputable def longR (lv : Nat) (t : Bool) (beg : Nat) (buf : Bs) : Bs → Option (Bs × Bs)
  | [] => none
  | a :: r => if a = 91 then (if sgnL (eqs r).2 = 91 ∧ (eqs r).1 = lv then (if lv = 0 then none else longR lv t beg (buf ++ 91 :: List.replicate (eqs r).1 61 ++ [91]) (eqs r).2.tail)
      else longR lv t beg (buf ++ 91 :: List.replicate (eqs r).1 61) (eqs r).2)
    else if a = 93 then (if sgnL (eqs r).2 = 93 ∧ (eqs r).1 = lv then some (buf ++ 93 :: List.replicate (eqs r).1 61 ++ [93], (eqs r).2.tail)
      else longR lv t beg (buf ++ 93 :: List.replicate (eqs r).1 61) (eqs r).2)
    else if isNlI a.toNat then longR lv t beg (if t then buf ++ [10] else (buf ++ [10]).take beg) (nlRest a r)
    else if t then longR lv t beg (buf ++ [a]) r else longR lv t beg buf r
termination_by r => r.length
decreasing_by
  all_goals simp_wf
  all_goals first | lia | (have := eqs_le r; lia) | (have := nlRest_le a r; lia)
noncomputable def openR : Bs → Bs
  | [] => []
  | b :: r => if isNlI b.toNat then nlRest b r else b :: r
noncomputable def brkR (r : Bs) : Tk :=
  if sgnL (eqs r).2 = 91 then (longR (eqs r).1 true ((eqs r).1 + 2) (91 :: List.replicate (eqs r).1 61 ++ [91]) (openR (eqs r).2.tail)).map fun p => (286, .by ((p.1.drop ((eqs r).1 + 2)).take (p.1.length - (eqs r).1 - 2 - ((eqs r).1 + 2))), p.2)
  else if (eqs r).1 > 0 then none else some (91, .no, (eqs r).2)
noncomputable def lineR (r : Bs) : Bs := r.dropWhile fun a => !isNlI a.toNat
noncomputable def cmtR (r : Bs) : Option Bs := match r with
  | 91 :: r1 => if sgnL (eqs r1).2 = 91 then (longR (eqs r1).1 false 1 [91] (openR (eqs r1).2.tail)).map (·.2) else some (lineR (eqs r1).2)
  | r => some (lineR r)
noncomputable def skipR : Bs → Option Bs
  | [] => some []
  | a :: r => if isNlI a.toNat then skipR (nlRest a r) else if isBlkI a.toNat then skipR r
    else if a = 45 ∧ sgnL r = 45 then (match cmtR r.tail with
      | none => none
      | some r2 => if _h : r2.length < (a :: r).length then skipR r2 else none)
    else some (a :: r)
termination_by r => r.length
decreasing_by
  all_goals simp_wf
  all_goals first | omega | (have := nlRest_le a r; omega)
inductive TC
  | str | brk | dot | num | word | minus | cmp | other
noncomputable def tcOf (a : UInt8) : TC := if a = 34 ∨ a = 39 then .str else if a = 91 then .brk else if a = 46 then .dot else if isDigI a.toNat then .num else if isLetI a.toNat then .word else if a = 45 then .minus else if a = 61 ∨ a = 60 ∨ a = 62 ∨ a = 126 then .cmp else .other
noncomputable def tokK (a : UInt8) (r : Bs) : TC → Tk
  | .str => (strR a [a] r).map fun p => (286, .by ((p.1.drop 1).take (p.1.length - 1 - 1)), p.2)
  | .brk => brkR r
  | .dot => dotR r
  | .num => numTok [] (a :: r)
  | .word => wordTok (a :: r)
  | .minus => some (45, .no, r)
  | .cmp => some ((cmpR a r).1, .no, (cmpR a r).2)
  | .other => some (a.toNat, .no, r)
noncomputable def tokS : Bs → Tk
  | [] => some (287, .no, [])
  | a :: r => tokK a r (tcOf a)
theorem tc_num {a : UInt8} (h : tcOf a = .num) : isDigI a.toNat = true := by
  unfold tcOf at h
  iterate 3 (split at h; cases h)
  split at h
  · assumption
  · iterate 3 (split at h; cases h)
    cases h
theorem tc_word {a : UInt8} (h : tcOf a = .word) : isLetI a.toNat = true := by
  unfold tcOf at h
  iterate 4 (split at h; cases h)
  split at h
  · assumption
  · iterate 2 (split at h; cases h)
    cases h
section
variable {a : UInt8} (n1 : ¬ (a = 34 ∨ a = 39)) (n2 : ¬ a = 91) (n3 : ¬ a = 46)
include n1 n2 n3
theorem tcNum (q : isDigI a.toNat = true) : tcOf a = .num := by unfold tcOf; rw [if_neg n1, if_neg n2, if_neg n3, if_pos q]
variable (n4 : ¬ isDigI a.toNat = true)
include n4
theorem tcWord (q : isLetI a.toNat = true) : tcOf a = .word := by unfold tcOf; rw [if_neg n1, if_neg n2, if_neg n3, if_neg n4, if_pos q]
variable (n5 : ¬ isLetI a.toNat = true) (n6 : ¬ a = 45)
include n5 n6
theorem tcCmp (q : a = 61 ∨ a = 60 ∨ a = 62 ∨ a = 126) : tcOf a = .cmp := by unfold tcOf; rw [if_neg n1, if_neg n2, if_neg n3, if_neg n4, if_neg n5, if_neg n6, if_pos q]
theorem tcOther (q : ¬ (a = 61 ∨ a = 60 ∨ a = 62 ∨ a = 126)) : tcOf a = .other := by unfold tcOf; rw [if_neg n1, if_neg n2, if_neg n3, if_neg n4, if_neg n5, if_neg n6, if_neg q]
end
noncomputable def readS (r : Bs) : Tk := (skipR r).bind tokS
noncomputable def toks (r : Bs) : Option (List (Int × Vl)) := match readS r with
  | none => none
  | some (k, v, r2) => if k = 287 then some [] else if _h : r2.length < r.length then (toks r2).map ((k, v) :: ·) else none
termination_by r.length
section
variable {prog : Program} {w : World} {A : Around} {E : Value → Shared → Prop} {s : Shared} {env : Env}
theorem tw_step {p : UInt8 → Bool} {a : UInt8} {b r : Bs} (h : p a = true) : (b ++ [a]) ++ r.takeWhile p = b ++ (a :: r).takeWhile p := by rw [List.takeWhile_cons_of_pos h]; simp
theorem dw_step {p : UInt8 → Bool} {a : UInt8} {r : Bs} (h : p a = true) : r.dropWhile p = (a :: r).dropWhile p := (List.dropWhile_cons_of_pos h).symm
theorem tw_stop {p : UInt8 → Bool} {r : Bs} (h : ∀ a r', r = a :: r' → p a = false) : r.takeWhile p = [] ∧ r.dropWhile p = r := by
  cases r with
  | nil => exact ⟨rfl, rfl⟩
  | cons a r =>
    have := h a r rfl
    exact ⟨List.takeWhile_cons_of_neg (by rw [this]; decide), List.dropWhile_cons_of_neg (by rw [this]; decide)⟩
theorem kw_val {wd : Bs} : ∀ (rs : List Bs) (ts : List Tok) (n : Nat), rs.length = ts.length →
    (match rs.findIdx? (· == wd) with
    | none => valueAt (((rs.zip ts).zipIdx n).map fun p => (p.1.1, Value.int (257 + p.2) p.1.2)) wd = none
    | some i => ∃ u, valueAt (((rs.zip ts).zipIdx n).map fun p => (p.1.1, Value.int (257 + p.2) p.1.2)) wd = some (.int (257 + (i + n : Nat)) u))
  | [], ts, n, _ => rfl
  | r :: rs, t :: ts, n, h => by
    have ih := kw_val (wd := wd) rs ts (n + 1) (Nat.succ.inj h)
    rw [List.findIdx?_cons]
    simp only [List.zip_cons_cons, List.zipIdx_cons, List.map_cons, valueAt, List.find?_cons] at ih ⊢
    by_cases e : r = wd
    · subst e
      simp
    · have e1 : (r == wd) = false := beq_eq_false_iff_ne.mpr e
      simp only [e1, e, decide_false, Bool.false_eq_true, if_false]
      cases hf : rs.findIdx? (· == wd) with
      | none => rw [hf] at ih; exact ih
      | some i =>
        rw [hf] at ih
        obtain ⟨u, hu⟩ := ih
        exact ⟨u, by rw [hu, show i + (n + 1) = i + 1 + n by lia]⟩
end
section
variable {prog : Program} {w : World} {A : Around} {s : Shared} {base g : Heap} {outer : List Env} {L : Addr} {m : Str → Option Value} {env : Env} {k : Nat}
  {mean : ExcName → Option Value} {mg mb : Str → Option Value} {Q E : Value → Shared → Prop} {c : LC} {y : LD} {news rest : List (Addr × Obj)}
theorem expR_no {r : Bs} (h : ([69, 101].any fun x => x == sgnL r) = false) : expR r = ([], r) := by
  cases r with
  | nil => rfl
  | cons a r =>
    simp only [sgnL, List.any_cons, List.any_nil, Bool.or_false, Bool.or_eq_false_iff, beq_eq_false_iff_ne] at h
    simp only [expR]
    rw [if_neg]
    rintro (rfl | rfl)
    · exact h.1 rfl
    · exact h.2 rfl
theorem is_e {a : UInt8} (h : ([69, 101].any fun x => x == (a.toNat : Int)) = true) : a = 69 ∨ a = 101 := by
  simp only [List.any_cons, List.any_nil, Bool.or_false, Bool.or_eq_true, beq_iff_eq] at h
  exact h.imp (fun q => byte_of 69 q.symm) (fun q => byte_of 101 q.symm)
theorem is_pm {a : UInt8} (h : ([43, 45].any fun x => x == (a.toNat : Int)) = true) : a = 43 ∨ a = 45 := by
  simp only [List.any_cons, List.any_nil, Bool.or_false, Bool.or_eq_true, beq_iff_eq] at h
  exact h.imp (fun q => byte_of 43 q.symm) (fun q => byte_of 45 q.symm)
theorem expR_1 {a : UInt8} {r : Bs} (h : ([69, 101].any fun x => x == (a.toNat : Int)) = true) (h2 : ([43, 45].any fun x => x == sgnL r) = false) : expR (a :: r) = ([a], r) := by
  simp only [expR]
  rw [if_pos (is_e h)]
  cases r with
  | nil => rfl
  | cons b r =>
    simp only [sgnL, List.any_cons, List.any_nil, Bool.or_false, Bool.or_eq_false_iff, beq_eq_false_iff_ne] at h2
    refine if_neg ?_
    rintro (rfl | rfl)
    · exact h2.1 rfl
    · exact h2.2 rfl
theorem expR_2 {a b : UInt8} {r : Bs} (h : ([69, 101].any fun x => x == (a.toNat : Int)) = true) (h2 : ([43, 45].any fun x => x == (b.toNat : Int)) = true) : expR (a :: b :: r) = ([a, b], r) := by
  simp only [expR]
  rw [if_pos (is_e h), if_pos (is_pm h2)]
end
theorem dd1 {i : Int} {a : UInt8} (e : i = a.toNat) (h : isDigI i = true) : isDD a = true := by unfold isDD; rw [← e, h, Bool.true_or]
theorem dot_no {r : Bs} (h : ([46].any fun x => x == sgnL r) = false) : ∀ r', r ≠ 46 :: r' := by
  rintro r' rfl
  exact absurd h (by simp [sgnL])
theorem is_dot {a : UInt8} (h : ([46].any fun x => x == (a.toNat : Int)) = true) : a = 46 := by
  simp only [List.any_cons, List.any_nil, Bool.or_false, beq_iff_eq] at h
  exact byte_of 46 h.symm
theorem dotR_dots {a b : UInt8} {r : Bs} (h : ([46].any fun x => x == (a.toNat : Int)) = true) (h2 : ([46].any fun x => x == (b.toNat : Int)) = true) : dotR (a :: b :: r) = some (279, .no, r) := by
  rw [is_dot h, is_dot h2]; rfl
theorem dotR_cat {a : UInt8} {r : Bs} (h : ([46].any fun x => x == (a.toNat : Int)) = true) (h2 : ([46].any fun x => x == sgnL r) = false) : dotR (a :: r) = some (278, .no, r) := by
  rw [is_dot h]
  unfold dotR
  split
  · rename_i r' e; cases e; exact absurd rfl (dot_no h2 _)
  · rename_i r' _ e; cases e; rfl
  · rename_i hn; exact absurd rfl (hn _)
theorem dotR_num {r : Bs} (h2 : ([46].any fun x => x == sgnL r) = false) : dotR r = if isDigI (sgnL r) then numTok [46] r else some (46, .no, r) := by
  unfold dotR
  split
  · exact absurd rfl (dot_no h2 _)
  · exact absurd rfl (dot_no h2 _)
  · rfl
theorem fnd_lt (a : UInt8) : fndI a < 7 := by
  unfold fndI
  repeat' split
  all_goals decide
theorem fnd_yes {a : UInt8} (h : 0 ≤ fndI a) : ([7, 8, 12, 10, 13, 9, 11] : List UInt8).getD (fndI a).toNat 0 = escSign a := by
  revert h
  unfold fndI escSign
  repeat' split
  all_goals intro h
  all_goals first | rfl | exact absurd h (by decide)
theorem fnd_no {a : UInt8} (h : fndI a < 0) : escSign a = a := by
  revert h
  unfold fndI escSign
  repeat' split
  all_goals intro h
  all_goals first | rfl | exact absurd h (by decide)
theorem dig3_len : ∀ (n : Nat) (v : Int) (r : Bs), (dig3 n v r).2.length ≤ r.length
  | 0, v, r => Nat.le_refl _
  | n + 1, v, [] => Nat.le_refl _
  | n + 1, v, a :: r => by
    simp only [dig3]
    split
    · exact Nat.le_succ_of_le (dig3_len n _ r)
    · exact Nat.le_refl _
theorem dig3_yes {n : Nat} {v : Int} {a : UInt8} {r : Bs} (h : isDigI a.toNat = true) : dig3 (n + 1) v (a :: r) = dig3 n (10 * v + a.toNat - 48) r := by simp only [dig3]; rw [if_pos h]
theorem dig3_go {n : Nat} {i v : Int} {a : UInt8} {r : Bs} (e : i = a.toNat) (h : isDigI i = true) : dig3 (n + 1) v (a :: r) = dig3 n (10 * v + i - 48) r := by subst e; exact dig3_yes h
theorem dig3_no {n : Nat} {v : Int} {r : Bs} (h : isDigI (sgnL r) = false) : dig3 (n + 1) v r = (v, r) := by
  cases r with
  | nil => rfl
  | cons a r =>
    have h : isDigI a.toNat = false := h
    simp only [dig3]; rw [if_neg (by rw [h]; decide)]
theorem dig_rng {i : Int} (h : isDigI i = true) : 48 ≤ i ∧ i ≤ 57 := by simpa [isDigI] using h
section
variable {prog : Program} {w : World} {A : Around} {s : Shared} {base g : Heap} {outer : List Env} {L : Addr} {m : Str → Option Value} {env : Env} {k : Nat}
  {mean : ExcName → Option Value} {mg mb : Str → Option Value} {Q E : Value → Shared → Prop} {c : LC} {y : LD} {news rest : List (Addr × Obj)}
theorem escR_nl {a : UInt8} {r buf : Bs} (h : isNlI a.toNat = true) : escR buf (a :: r) = some (buf ++ [10], nlRest a r) := by simp only [escR]; rw [if_pos h]
theorem escR_dig {a : UInt8} {r buf : Bs} (h : isNlI a.toNat = false) (h2 : isDigI a.toNat = true) : escR buf (a :: r) = if (dig3 3 0 (a :: r)).1 > 255 then none else some (buf ++ [(dig3 3 0 (a :: r)).1.toNat.toUInt8], (dig3 3 0 (a :: r)).2) := by
  simp only [escR]; rw [if_neg (by rw [h]; decide), if_pos h2]
theorem escR_oth {a : UInt8} {r buf : Bs} (h : isNlI a.toNat = false) (h2 : isDigI a.toNat = false) : escR buf (a :: r) = some (buf ++ [escSign a], r) := by
  simp only [escR]; rw [if_neg (by rw [h]; decide), if_neg (by rw [h2]; decide)]
end
noncomputable def strTok (q : UInt8) (r : Bs) : Tk := (strR q [q] r).map fun p => (286, .by ((p.1.drop 1).take (p.1.length - 1 - 1)), p.2)
section
variable {prog : Program} {w : World} {A : Around} {E : Value → Shared → Prop} {s : Shared} {g h : Heap} {L : Addr} {c : LC} {y : LD} {rest : List (Addr × Obj)} {r buf : Bs}
theorem clip_in {n : Nat} {i : Int} (h0 : 0 ≤ i) (h1 : i ≤ n) : clipAt n i = i.toNat := by unfold clipAt; first | (split <;> lia) | lia
theorem cut_mid {l : Bs} {i j : Int} (h0 : 0 ≤ i) (h1 : i ≤ l.length) (h2 : 0 ≤ j) (h3 : j ≤ l.length) : cutB l (some i) (some j) = (l.drop i.toNat).take (j.toNat - i.toNat) := by
  unfold cutB
  show List.take (clipAt _ j - clipAt _ i) (List.drop (clipAt _ i) l) = _
  rw [clip_in h0 h1, clip_in h2 h3]
end
theorem sgn_cons {r : Bs} (h : sgnL r ≠ -1) : ∃ a r', r = a :: r' ∧ sgnL r = (a.toNat : Int) := by
  cases r with
  | nil => exact absurd rfl h
  | cons a r => exact ⟨a, r, rfl, rfl⟩
theorem strR_end {q : UInt8} {b r : Bs} : strR q b (q :: r) = some (b ++ [q], r) := by rw [strR]; exact if_pos rfl
theorem strR_esc0 {q : UInt8} {b r : Bs} (h : (92 : UInt8) ≠ q) (e : escR b r = none) : strR q b (92 :: r) = none := by
  rw [strR, if_neg h, if_neg (by decide), if_pos rfl]
  split
  · rfl
  · rename_i h2; rw [e] at h2; cases h2
theorem strR_esc1 {q : UInt8} {b r b2 r2 : Bs} (h : (92 : UInt8) ≠ q) (e : escR b r = some (b2, r2)) (hl : r2.length ≤ r.length) : strR q b (92 :: r) = strR q b2 r2 := by
  rw [strR, if_neg h, if_neg (by decide), if_pos rfl]
  split
  · rename_i h2; rw [e] at h2; cases h2
  · rename_i h2
    rw [e] at h2
    cases h2
    rw [dif_pos (by rw [List.length_cons]; lia)]
theorem strR_nl {q a : UInt8} {b r : Bs} (h : a ≠ q) (h2 : isNlI a.toNat = true) : strR q b (a :: r) = none := by rw [strR, if_neg h, if_pos h2]
theorem strR_go {q a : UInt8} {b r : Bs} (h : a ≠ q) (h2 : isNlI a.toNat = false) (h3 : a ≠ 92) : strR q b (a :: r) = strR q (b ++ [a]) r := by rw [strR, if_neg h, if_neg (by rw [h2]; decide), if_neg h3]
theorem escR_len {b r b2 r2 : Bs} (h : escR b r = some (b2, r2)) : r2.length ≤ r.length ∧ b2.length + r2.length ≤ b.length + r.length := by
  cases r with
  | nil => cases h; exact ⟨Nat.le_refl _, Nat.le_refl _⟩
  | cons a r =>
    cases hn : isNlI a.toNat with
    | true =>
      rw [escR_nl hn] at h
      cases h
      have := nlRest_le a r
      simp only [List.length_cons, List.length_append, List.length_nil]; lia
    | false =>
      cases hd : isDigI a.toNat with
      | true =>
        rw [escR_dig hn hd] at h
        split at h
        · cases h
        · cases h
          have e : dig3 3 0 (a :: r) = dig3 2 (10 * 0 + a.toNat - 48) r := dig3_yes hd
          have := dig3_len 2 (10 * 0 + a.toNat - 48) r
          rw [e]
          simp only [List.length_cons, List.length_append, List.length_nil]; lia
      | false =>
        rw [escR_oth hn hd] at h
        cases h
        simp only [List.length_cons, List.length_append, List.length_nil]; lia
noncomputable def inR (lv : Nat) (b r : Bs) : Option (Bs × Bs) :=
  if sgnL (eqs r).2 = 91 ∧ (eqs r).1 = lv then (if lv = 0 then none else some (b ++ 91 :: List.replicate (eqs r).1 61 ++ [91], (eqs r).2.tail)) else some (b ++ 91 :: List.replicate (eqs r).1 61, (eqs r).2)
theorem inR_yes {lv : Nat} {b r r2 : Bs} {a : UInt8} (h : sgnL (eqs r).2 = 91) (h2 : ((eqs r).1 : Int) = lv) (e : (eqs r).2 = a :: r2) (h0 : lv ≠ 0) : inR lv b r = some (b ++ 91 :: List.replicate (eqs r).1 61 ++ [a], r2) := by
  have ha : a = 91 := byte_of 91 (by rw [e] at h; exact h)
  unfold inR
  rw [if_pos ⟨h, by lia⟩, if_neg h0, e, ha]; rfl
theorem inR_err {lv : Nat} {b r : Bs} (h : sgnL (eqs r).2 = 91) (h2 : ((eqs r).1 : Int) = lv) (h0 : lv = 0) : inR lv b r = none := by
  unfold inR
  rw [if_pos ⟨h, by lia⟩, if_pos h0]
theorem inR_no {lv : Nat} {b r : Bs} (h : sgnL (eqs r).2 = 91 → ((eqs r).1 : Int) ≠ lv) : inR lv b r = some (b ++ 91 :: List.replicate (eqs r).1 61, (eqs r).2) := by
  unfold inR
  rw [if_neg]
  rintro ⟨h1, h2⟩
  exact h h1 (by lia)
theorem lR_in {lv beg : Nat} {t : Bool} {b r : Bs} : longR lv t beg b (91 :: r) = (match inR lv b r with | none => none | some (b2, r2) => longR lv t beg b2 r2) := by
  rw [longR, if_pos rfl]
  unfold inR
  split
  · split <;> rfl
  · rfl
theorem lR_in1 {lv beg : Nat} {t : Bool} {b r b2 r2 : Bs} (e : inR lv b r = some (b2, r2)) : longR lv t beg b (91 :: r) = longR lv t beg b2 r2 := by rw [lR_in, e]
theorem lR_in0 {lv beg : Nat} {t : Bool} {b r : Bs} (e : inR lv b r = none) : longR lv t beg b (91 :: r) = none := by rw [lR_in, e]
theorem lR_end {lv beg : Nat} {t : Bool} {b r r2 : Bs} {a : UInt8} (h : sgnL (eqs r).2 = 93) (h2 : ((eqs r).1 : Int) = lv) (e : (eqs r).2 = a :: r2) : longR lv t beg b (93 :: r) = some (b ++ 93 :: List.replicate (eqs r).1 61 ++ [a], r2) := by
  have ha : a = 93 := byte_of 93 (by rw [e] at h; exact h)
  rw [longR, if_neg (by decide), if_pos rfl, if_pos ⟨h, by lia⟩, e, ha]; rfl
theorem lR_out {lv beg : Nat} {t : Bool} {b r : Bs} (h : sgnL (eqs r).2 = 93 → ((eqs r).1 : Int) ≠ lv) : longR lv t beg b (93 :: r) = longR lv t beg (b ++ 93 :: List.replicate (eqs r).1 61) (eqs r).2 := by
  rw [longR, if_neg (by decide), if_pos rfl, if_neg]
  rintro ⟨h1, h2⟩
  exact h h1 (by lia)
theorem lR_nl {lv beg : Nat} {t : Bool} {a : UInt8} {b r : Bs} (h1 : a ≠ 91) (h2 : a ≠ 93) (h : isNlI a.toNat = true) : longR lv t beg b (a :: r) = longR lv t beg (if t then b ++ [10] else (b ++ [10]).take beg) (nlRest a r) := by
  rw [longR, if_neg h1, if_neg h2, if_pos h]
theorem lR_go {lv beg : Nat} {t : Bool} {a : UInt8} {b r : Bs} (h1 : a ≠ 91) (h2 : a ≠ 93) (h : isNlI a.toNat = false) : longR lv t beg b (a :: r) = longR lv t beg (if t then b ++ [a] else b) r := by
  rw [longR, if_neg h1, if_neg h2, if_neg (by rw [h]; decide)]
  cases t <;> rfl
theorem inR_len {lv : Nat} {b r b2 r2 : Bs} (h : inR lv b r = some (b2, r2)) : r2.length ≤ r.length ∧ b2.length + r2.length ≤ b.length + r.length + 1 ∧ b.length ≤ b2.length := by
  have hq := eqs_len r
  unfold inR at h
  split at h
  · split at h
    · cases h
    · cases h
      rename_i h1 _
      cases he : (eqs r).2 with
      | nil => rw [he] at h1; exact absurd h1.1 (by decide)
      | cons a r3 => rw [he] at hq; simp only [List.tail_cons, List.length_append, List.length_cons, List.length_nil, List.length_replicate] at *; lia
  · cases h
    simp only [List.length_append, List.length_cons, List.length_replicate]; lia
theorem openR_nl {a : UInt8} {r : Bs} (h : isNlI a.toNat = true) : openR (a :: r) = nlRest a r := by simp only [openR]; rw [if_pos h]
theorem openR_no {r : Bs} (h : isNlI (sgnL r) = false) : openR r = r := by
  cases r with
  | nil => rfl
  | cons a r => simp only [openR]; exact if_neg (by rw [show isNlI a.toNat = false from h]; decide)
section
variable {prog : Program} {w : World} {A : Around} {s : Shared} {base g : Heap} {outer : List Env} {L : Addr} {m : Str → Option Value} {env : Env} {k : Nat}
  {mean : ExcName → Option Value} {mg mb : Str → Option Value} {Q E : Value → Shared → Prop} {c : LC} {y : LD} {news rest : List (Addr × Obj)}
theorem cut_pre {l : Bs} {j : Int} (h0 : 0 ≤ j) (h1 : j ≤ l.length) : cutB l none (some j) = l.take j.toNat := by
  unfold cutB
  show List.take (clipAt _ j - 0) (List.drop 0 l) = _
  rw [clip_in h0 h1]; simp
end
theorem longR_len {lv : Nat} {t : Bool} {beg : Nat} {b r b2 r2 : Bs} (hb : beg ≤ b.length) (h : longR lv t beg b r = some (b2, r2)) : beg + lv + 2 ≤ b2.length := by
  induction hn : r.length using Nat.strongRecOn generalizing b r with
  | ind n ih =>
    cases r with
    | nil => rw [longR] at h; cases h
    | cons a r =>
      have hq := eqs_len r
      have hnl := nlRest_le a r
      rw [List.length_cons] at hn
      rw [longR] at h
      split at h
      · split at h
        · split at h
          · cases h
          · exact ih _ (by rw [List.length_tail]; lia) (by simp only [List.length_append]; lia) h rfl
        · exact ih _ (by lia) (by simp only [List.length_append]; lia) h rfl
      · split at h
        · split at h
          · rename_i h1
            cases h
            simp only [List.length_append, List.length_cons, List.length_nil, List.length_replicate]
            lia
          · exact ih _ (by lia) (by simp only [List.length_append]; lia) h rfl
        · split at h
          · refine ih _ (by lia) ?_ h rfl
            split
            · simp only [List.length_append]; lia
            · rw [List.length_take, List.length_append]; lia
          · split at h
            · exact ih _ (by lia) (by simp only [List.length_append]; lia) h rfl
            · exact ih _ (by lia) hb h rfl
theorem lvl_len (n : Nat) : ([] ++ (91 : UInt8) :: List.replicate n 61).length + 1 = n + 2 := by simp
theorem brk_err {r : Bs} (h : sgnL (eqs r).2 ≠ 91) (h2 : 0 < (eqs r).1) : brkR r = none := by unfold brkR; rw [if_neg h, if_pos h2]
theorem brk_open {r : Bs} (h : sgnL (eqs r).2 ≠ 91) (h2 : ¬ 0 < (eqs r).1) : brkR r = some (91, .no, (eqs r).2) := by unfold brkR; rw [if_neg h, if_neg h2]
theorem brk_long {r r' : Bs} (h : sgnL (eqs r).2 = 91) (e : (eqs r).2 = 91 :: r') : brkR r = (longR (eqs r).1 true (([] ++ (91 : UInt8) :: List.replicate (eqs r).1 61).length + 1) ([] ++ 91 :: List.replicate (eqs r).1 61 ++ [91]) (openR r')).map fun p => (286, .by ((p.1.drop ((eqs r).1 + 2)).take (p.1.length - (eqs r).1 - 2 - ((eqs r).1 + 2))), p.2) := by
  unfold brkR
  rw [if_pos h, e]
  simp
theorem brk_long1 {r r' b2 r2 : Bs} (h : sgnL (eqs r).2 = 91) (e : (eqs r).2 = 91 :: r') (q : longR (eqs r).1 true (([] ++ (91 : UInt8) :: List.replicate (eqs r).1 61).length + 1) ([] ++ 91 :: List.replicate (eqs r).1 61 ++ [91]) (openR r') = some (b2, r2)) :
    brkR r = some (286, .by ((b2.drop ((eqs r).1 + 2)).take (b2.length - (eqs r).1 - 2 - ((eqs r).1 + 2))), r2) := by rw [brk_long h e, q]; rfl
theorem brk_cut {n : Nat} {b2 : Bs} (h : n + 2 + n + 2 ≤ b2.length) : cutB b2 (some ((([] ++ (91 : UInt8) :: List.replicate n 61).length + 1 : Nat) : Int)) (some ((b2.length : Int) - n - 2)) = (b2.drop (n + 2)).take (b2.length - n - 2 - (n + 2)) := by
  rw [lvl_len, cut_mid (by lia) (by lia) (by lia) (by lia)]
  congr 1
  lia
theorem brk_cut1 {n : Nat} {b2 r2 r' : Bs} (q : longR n true (([] ++ (91 : UInt8) :: List.replicate n 61).length + 1) ([] ++ 91 :: List.replicate n 61 ++ [91]) r' = some (b2, r2)) : cutB b2 (some ((([] ++ (91 : UInt8) :: List.replicate n 61).length + 1 : Nat) : Int)) (some ((b2.length : Int) - n - 2)) = (b2.drop (n + 2)).take (b2.length - n - 2 - (n + 2)) := by
  have := longR_len (by simp) q
  rw [lvl_len] at this
  exact brk_cut this
theorem lineR_go {a : UInt8} {r : Bs} (h : isNlI a.toNat = false) : lineR (a :: r) = lineR r := List.dropWhile_cons_of_pos (by rw [h]; rfl)
theorem lineR_stop {r : Bs} (h : isNlI (sgnL r) = true) : lineR r = r := by
  cases r with
  | nil => rfl
  | cons a r => exact List.dropWhile_cons_of_neg (by rw [show isNlI a.toNat = true from h]; decide)
theorem cmt_line {r : Bs} (h : sgnL r ≠ 91) : cmtR r = some (lineR r) := by
  unfold cmtR
  split
  · exact absurd rfl h
  · rfl
theorem cmt_lvl {r : Bs} (h : sgnL (eqs r).2 ≠ 91) : cmtR (91 :: r) = some (lineR (eqs r).2) := by
  unfold cmtR; exact if_neg h
theorem cmt_long {r r' : Bs} (h : sgnL (eqs r).2 = 91) (e : (eqs r).2 = 91 :: r') : cmtR (91 :: r) = (longR (eqs r).1 false 1 [91] (openR r')).map (·.2) := by
  show (if sgnL (eqs r).2 = 91 then (longR (eqs r).1 false 1 [91] (openR (eqs r).2.tail)).map (·.2) else some (lineR (eqs r).2)) = _
  rw [if_pos h, e]; rfl
theorem cmt_long1 {r r' b2 r2 : Bs} (h : sgnL (eqs r).2 = 91) (e : (eqs r).2 = 91 :: r') (q : longR (eqs r).1 false (([] : Bs).length + 1) ([] ++ [91]) (openR r') = some (b2, r2)) : cmtR (91 :: r) = some r2 := by
  rw [cmt_long h e]
  exact congrArg (Option.map _) q
noncomputable def skO : Bs → Option (Bool × Bs)
  | [] => some (false, [])
  | a :: r => if isNlI a.toNat then some (true, nlRest a r) else if isBlkI a.toNat then some (true, r)
    else if a = 45 ∧ sgnL r = 45 then (cmtR r.tail).map (fun x => (true, x)) else some (false, a :: r)
theorem skO_nl {a : UInt8} {r : Bs} (h : isNlI a.toNat = true) : skO (a :: r) = some (true, nlRest a r) := if_pos h
theorem skO_bl {a : UInt8} {r : Bs} (h : isNlI a.toNat = false) (h2 : isBlkI a.toNat = true) : skO (a :: r) = some (true, r) := by simp only [skO]; rw [if_neg (by rw [h]; decide), if_pos h2]
theorem skO_no {a : UInt8} {r : Bs} (h : isNlI a.toNat = false) (h2 : isBlkI a.toNat = false) (h3 : ¬(a = 45 ∧ sgnL r = 45)) : skO (a :: r) = some (false, a :: r) := by
  simp only [skO]; rw [if_neg (by rw [h]; decide), if_neg (by rw [h2]; decide), if_neg h3]
theorem skO_cm {r : Bs} : skO (45 :: 45 :: r) = (cmtR r).map (fun x => (true, x)) := by
  simp only [skO]; rw [if_neg (by decide), if_neg (by decide), if_pos (show True ∧ sgnL (45 :: r) = 45 from ⟨trivial, (rfl : ((45 : UInt8).toNat : Int) = 45)⟩)]; rfl
theorem longR_le {lv : Nat} {t : Bool} {beg : Nat} {b r b2 r2 : Bs} (h : longR lv t beg b r = some (b2, r2)) : r2.length ≤ r.length := by
  induction hn : r.length using Nat.strongRecOn generalizing b r with
  | ind n ih =>
    cases r with
    | nil => rw [longR] at h; cases h
    | cons a r =>
      have hq := eqs_len r
      have hnl := nlRest_le a r
      rw [List.length_cons] at hn
      have go : ∀ {b' : Bs} {r' : Bs}, r'.length ≤ r.length → longR lv t beg b' r' = some (b2, r2) → r2.length ≤ n := fun hl h' => by have := ih _ (by lia) h' rfl; lia
      rw [longR] at h
      split at h
      · split at h
        · split at h
          · cases h
          · exact go (by rw [List.length_tail]; lia) h
        · exact go (by lia) h
      · split at h
        · split at h
          · cases h; rw [List.length_tail]; lia
          · exact go (by lia) h
        · split at h
          · exact go (by lia) h
          · split at h
            · exact go (by lia) h
            · exact go (by lia) h
theorem openR_le (r : Bs) : (openR r).length ≤ r.length := by
  cases r with
  | nil => exact Nat.le_refl _
  | cons a r =>
    simp only [openR]
    split
    · exact Nat.le_succ_of_le (nlRest_le a r)
    · exact Nat.le_refl _
theorem lineR_le (r : Bs) : (lineR r).length ≤ r.length := (List.dropWhile_suffix _).length_le
theorem cmtR_le {r r2 : Bs} (h : cmtR r = some r2) : r2.length ≤ r.length := by
  unfold cmtR at h
  split at h
  · rename_i r1
    have hq := eqs_len r1
    split at h
    · cases hl : longR (eqs r1).1 false 1 [91] (openR (eqs r1).2.tail) with
      | none => rw [hl] at h; cases h
      | some p =>
        rw [hl] at h
        cases h
        have h1 := longR_le hl
        have h2 := openR_le (eqs r1).2.tail
        rw [List.length_tail] at h2
        simp only [List.length_cons]; lia
    · cases h
      have := lineR_le (eqs r1).2
      simp only [List.length_cons]; lia
  · cases h
    exact lineR_le _
theorem skO_lt {r r2 : Bs} (h : skO r = some (true, r2)) : r2.length < r.length ∧ skipR r = skipR r2 := by
  cases r with
  | nil => cases h
  | cons a r =>
    cases hn : isNlI a.toNat with
    | true => rw [skO_nl hn] at h; cases h; exact ⟨Nat.lt_succ_of_le (nlRest_le a r), by rw [skipR, if_pos hn]⟩
    | false =>
      cases hb : isBlkI a.toNat with
      | true => rw [skO_bl hn hb] at h; cases h; exact ⟨Nat.lt_succ_self _, by rw [skipR, if_neg (by rw [hn]; decide), if_pos hb]⟩
      | false =>
        by_cases hc : a = 45 ∧ sgnL r = 45
        · obtain ⟨rfl, hs⟩ := hc
          obtain ⟨b, r3, rfl, hb⟩ := sgn_cons (r := r) (by rw [hs]; decide)
          obtain rfl : b = 45 := byte_of 45 (hb.symm.trans hs)
          rw [skO_cm] at h
          cases hk : cmtR r3 with
          | none => rw [hk] at h; cases h
          | some r4 =>
            rw [hk] at h
            cases h
            have hle := cmtR_le hk
            have hlt : r2.length < (45 :: 45 :: r3).length := by simp only [List.length_cons]; lia
            refine ⟨hlt, ?_⟩
            rw [skipR, if_neg (by decide), if_neg (by decide), if_pos ⟨rfl, rfl⟩]
            split
            · rename_i h2; rw [List.tail_cons, hk] at h2; cases h2
            · rename_i h2; rw [List.tail_cons, hk] at h2; cases h2; rw [dif_pos hlt]
        · rw [skO_no hn hb hc] at h; cases h
theorem skO_F {r : Bs} (h : skO r = some (false, r)) : skipR r = some r := by
  cases r with
  | nil => rw [skipR]
  | cons a r =>
    cases hn : isNlI a.toNat with
    | true => rw [skO_nl hn] at h; cases h
    | false =>
      cases hb : isBlkI a.toNat with
      | true => rw [skO_bl hn hb] at h; cases h
      | false =>
        by_cases hc : a = 45 ∧ sgnL r = 45
        · obtain ⟨rfl, hs⟩ := hc
          obtain ⟨b, r3, rfl, hb⟩ := sgn_cons (r := r) (by rw [hs]; decide)
          obtain rfl : b = 45 := byte_of 45 (hb.symm.trans hs)
          rw [skO_cm] at h
          cases hk : cmtR r3 with
          | none => rw [hk] at h; cases h
          | some r4 => rw [hk] at h; cases h
        · rw [skipR, if_neg (by rw [hn]; decide), if_neg (by rw [hb]; decide), if_neg hc]
theorem skO_0 {r : Bs} (h : skO r = none) : skipR r = none := by
  cases r with
  | nil => cases h
  | cons a r =>
    cases hn : isNlI a.toNat with
    | true => rw [skO_nl hn] at h; cases h
    | false =>
      cases hb : isBlkI a.toNat with
      | true => rw [skO_bl hn hb] at h; cases h
      | false =>
        by_cases hc : a = 45 ∧ sgnL r = 45
        · obtain ⟨rfl, hs⟩ := hc
          obtain ⟨b, r3, rfl, hb⟩ := sgn_cons (r := r) (by rw [hs]; decide)
          obtain rfl : b = 45 := byte_of 45 (hb.symm.trans hs)
          rw [skO_cm] at h
          cases hk : cmtR r3 with
          | none =>
            rw [skipR, if_neg (by decide), if_neg (by decide), if_pos ⟨rfl, rfl⟩]
            split
            · rfl
            · rename_i h2; rw [List.tail_cons, hk] at h2; cases h2
          | some r4 => rw [hk] at h; cases h
        · rw [skO_no hn hb hc] at h; cases h
theorem num_head {i : Int} {a : UInt8} {r : Bs} (hi : i = a.toNat) (h : isDigI i = true) : ∃ a' b', [] ++ (a :: r).takeWhile isDD = a' :: b' ∧ (isDigI a'.toNat = true ∨ a' = 46) :=
  ⟨a, _, by rw [List.takeWhile_cons_of_pos (dd1 hi h)]; rfl, .inl (hi ▸ h)⟩
theorem is_cmp {a : UInt8} : ([61, 60, 62, 126].any fun x => x == (a.toNat : Int)) = true ↔ (a = 61 ∨ a = 60 ∨ a = 62 ∨ a = 126) := by
  simp only [List.any_cons, List.any_nil, Bool.or_false, Bool.or_eq_true, beq_iff_eq]
  constructor
  · rintro (h | h | h | h)
    · exact .inl (byte_of 61 h.symm)
    · exact .inr (.inl (byte_of 60 h.symm))
    · exact .inr (.inr (.inl (byte_of 62 h.symm)))
    · exact .inr (.inr (.inr (byte_of 126 h.symm)))
  · rintro (rfl | rfl | rfl | rfl) <;> decide
theorem inv_ll {c : LC} {y : LD} {r buf : Bs} {i : Int} {t : Tok} (I : Inv c y r buf) : Inv c { y with ll := i, tm := t } r buf := ⟨I.suf, I.sg, I.buf, I.ln, I.sz⟩
theorem inv_cur {c : LC} {y : LD} {r buf : Bs} {v : Value} (I : Inv c y r buf) : Inv c { y with cur := v } r buf := ⟨I.suf, I.sg, I.buf, I.ln, I.sz⟩
theorem tok_rest {g h : Heap} {L x : Addr} {c : LC} {y : LD} {k : Int} {v : Vl} {l rest : List (Addr × Obj)} (ht : TokAt x k v l) (N : News g L h (Lx c y ++ (l ++ rest))) (hr : RestOK c rest) : RestOK c (l ++ rest) := by
  obtain ⟨d, a, b, ka, kb, t, u, rfl, hu⟩ := ht
  have nd := N (c.d, lexD c y) (List.mem_append_left _ (.tail _ (.head _)))
  have nx := N (x, instObj 262 d) (List.mem_append_right _ (.head _))
  have ne := N (d, dictOf (tokEnt a b ka kb k t u) 2) (List.mem_append_right _ (.tail _ (.head _)))
  refine RestOK.cons (fun e => ?_) (by simp [instObj]) (by simp [instObj]) (RestOK.cons (fun e => ?_) (by simp [dictOf]) (by simp [dictOf]) hr)
  · have a1 := nx.1
    have a2 := nd.1
    dsimp only at a1 a2
    rw [e, a2] at a1
    have := congrArg (fun o => o.map (·.cls)) a1
    simp [lexD, dictOf, instObj] at this
  · have a1 := ne.1
    have a2 := nd.1
    dsimp only at a1 a2
    rw [e, a2] at a1
    have := congrArg (fun o : Option Obj => o.map (·.data)) a1
    simp [lexD, dictOf, lexEnt, tokEnt] at this
noncomputable def kBytes : ItemKind Bs := ⟨fun a v => ∃ t, v = .bytes a.toArray t, fun v => match v with | .bytes a _ => some a.toList | _ => none, fun _ _ h => by obtain ⟨t, rfl⟩ := h; rfl⟩
theorem areB : ∀ (l : List Bs) (n : Nat), AreOf kBytes (valsOf l n) l
  | [], n => .nil
  | a :: l, n => .cons ⟨n, rfl⟩ (areB l (n + 1))
noncomputable def kvOf (rs : List Bs) (ts : List Tok) : List (Bs × Value) := (rs.zip ts).zipIdx.map fun p => (p.1.1, Value.int (257 + p.2) p.1.2)
theorem kv_snoc {rs : List Bs} {ts : List Tok} {a : Bs} {t : Tok} (h : rs.length = ts.length) : kvOf (rs ++ [a]) (ts ++ [t]) = kvOf rs ts ++ [(a, .int (257 + rs.length) t)] := by
  unfold kvOf
  rw [List.zip_append h, List.zipIdx_append, List.map_append]
  simp [List.length_zip, h]
theorem kv_keys : ∀ (rs : List Bs) (ts : List Tok) (n : Nat), ∀ p ∈ ((rs.zip ts).zipIdx n).map (fun p => (p.1.1, Value.int (257 + p.2) p.1.2)), p.1 ∈ rs
  | [], ts, n, p, h => by simp at h
  | r :: rs, [], n, p, h => by simp at h
  | r :: rs, t :: ts, n, p, h => by
    simp only [List.zip_cons_cons, List.zipIdx_cons, List.map_cons, List.mem_cons] at h
    rcases h with rfl | h
    · exact .head _
    · exact .tail _ (kv_keys rs ts (n + 1) p h)
theorem kv_len (rs : List Bs) (ts : List Tok) : (kvOf rs ts).length ≤ rs.length := by
  unfold kvOf; simp [List.length_zip]; lia
theorem stored_kv {i : Nat} {a : Bs} {ts : List Tok} {t : Tok} (hi : resList[i]? = some a) (h : ts.length = i) : stored (kvOf (resList.take i) ts) a (.int (257 + (i : Nat)) t) = kvOf (resList.take (i + 1)) (ts ++ [t]) := by
  have hl : i < resList.length := (List.getElem?_eq_some_iff.mp hi).1
  have ht : (resList.take i).length = i := by rw [List.length_take]; lia
  rw [List.take_add_one, hi]
  show _ = kvOf (resList.take i ++ [a]) (ts ++ [t])
  rw [kv_snoc (by lia), ht]
  unfold stored
  rw [if_neg]
  intro q
  obtain ⟨p, hp, e⟩ := List.any_eq_true.mp q
  have hm := kv_keys _ _ 0 p hp
  have e : p.1 = a := by simpa using e
  rw [e] at hm
  have key : ∀ i : Nat, i < 21 → ∀ j : Nat, j < i → resList[i]? ≠ resList[j]? := by decide
  obtain ⟨j, hj, hja⟩ := List.getElem_of_mem hm
  rw [List.length_take] at hj
  rw [List.getElem_take] at hja
  exact key i hl j (by lia) (hi.trans (List.getElem?_eq_some_iff.mpr ⟨by lia, hja⟩).symm)
theorem dict_nil {prog : Program} {w : World} {K K' : Type} [DecidableEq K] [DecidableEq K'] {knd : KeyKind prog w K} {knd' : KeyKind prog w K'} {o : Obj} (h : o.IsDictOf knd []) : o.IsDictOf knd' [] := by
  obtain ⟨es, ep, hx, hd, hk, hp, hn⟩ := h
  have e : es.toList = [] := by cases hq : es.toList with
    | nil => rfl
    | cons a l => rw [hq] at hp; cases hp
  have e2 : es = #[] := by cases es; simp_all
  subst e2
  exact ⟨_, ep, hx, hd, fun e he => by simp at he, .nil, List.nodup_nil⟩
theorem updOwn {d : Addr} {o : Obj} : ∀ {own : List (Addr × Obj)}, (∀ p ∈ own, p.1 ≠ d) → UpdF d o (own ++ [(d, o)]) (fun o' => own ++ [(d, o')])
  | [], _ => .head fun _ h => nomatch h
  | p :: own, h => .tail (h p (.head _)) (updOwn fun q hq => h q (.tail _ hq))
section
variable {prog : Program} {w : World} {A : Around} {s : Shared} {base g : Heap} {outer : List Env} {L : Addr} {m : Str → Option Value} {env : Env} {k : Nat}
  {mean : ExcName → Option Value} {mg mb : Str → Option Value} {Q E : Value → Shared → Prop} {c : LC} {y : LD} {news rest : List (Addr × Obj)}
def LimIn (l : List (Addr × Obj)) (lim ld : Addr) (lw lt : Tok) : Prop := ∃ es n, (lim, instObj 53 ld) ∈ l ∧ (ld, dictOf es n) ∈ l ∧ getL (Str.ofString "text") es = some (some (.int 1000000 lt)) ∧ getL (Str.ofString "width") es = some (some (.int 64 lw))
theorem sg_some {l : Bs} (h : (0 : Int) < (l.length : Int)) : (((l.getD (0 : Int).toNat 0).toNat : Nat) : Int) = sgnL l := by
  cases l with
  | nil => exact absurd h (by simp)
  | cons a l => rfl
theorem sg_none {l : Bs} (h : ¬ (0 : Int) < (l.length : Int)) : (-1 : Int) = sgnL l := by
  cases l with
  | nil => rfl
  | cons a l => exact absurd (by simp) h
theorem dict_cls {prog : Program} {w : World} {K : Type} [DecidableEq K] {knd : KeyKind prog w K} {o : Obj} {kvs : List (K × Value)} (h : o.IsDictOf knd kvs) : o.cls = .type "dict" := by
  obtain ⟨es, ep, hx, _⟩ := h
  exact hx.1
theorem dict_cls1 {prog : Program} {w : World} {K : Type} [DecidableEq K] {knd : KeyKind prog w K} {o : Obj} {kvs : List (K × Value)} (h : o.IsDictOf knd kvs) : o.cls ≠ .type "bytearray" := by rw [dict_cls h]; decide
theorem dict_cls2 {prog : Program} {w : World} {K : Type} [DecidableEq K] {knd : KeyKind prog w K} {o : Obj} {kvs : List (K × Value)} (h : o.IsDictOf knd kvs) : o.cls ≠ .ref 465 := by rw [dict_cls h]; exact nofun
end
def PairAt (l : List (Addr × Obj)) (v : Value) (kv : Int × Vl) : Prop := ∃ p t u n, v = .ref p ∧ (p, ({ cls := .type "tuple", data := .seq #[.int kv.1 t, u] n } : Obj)) ∈ l ∧ kv.2.is u
theorem PairAt.mono {l l' : List (Addr × Obj)} {v : Value} {kv : Int × Vl} (h : PairAt l v kv) (hs : ∀ q ∈ l, q ∈ l') : PairAt l' v kv :=
  let ⟨p, t, u, n, e, hm, hv⟩ := h; ⟨p, t, u, n, e, hs _ hm, hv⟩
inductive PairsAt (l : List (Addr × Obj)) : List Value → List (Int × Vl) → Prop
  | nil : PairsAt l [] []
  | cons {v kv vs ts} : PairAt l v kv → PairsAt l vs ts → PairsAt l (v :: vs) (kv :: ts)
theorem PairsAt.mono {l l' : List (Addr × Obj)} (hs : ∀ q ∈ l, q ∈ l') : ∀ {vs : List Value} {ts : List (Int × Vl)}, PairsAt l vs ts → PairsAt l' vs ts
  | _, _, .nil => .nil
  | _, _, .cons h r => .cons (h.mono hs) (r.mono hs)
theorem PairsAt.snoc {l : List (Addr × Obj)} {v : Value} {kv : Int × Vl} (hv : PairAt l v kv) : ∀ {vs : List Value} {ts : List (Int × Vl)}, PairsAt l vs ts → PairsAt l (vs ++ [v]) (ts ++ [kv])
  | _, _, .nil => .cons hv .nil
  | _, _, .cons h r => .cons h (r.snoc hv)
theorem PairsAt.len {l : List (Addr × Obj)} : ∀ {vs : List Value} {ts : List (Int × Vl)}, PairsAt l vs ts → vs.length = ts.length
  | _, _, .nil => rfl
  | _, _, .cons _ r => by rw [List.length_cons, List.length_cons, r.len]
section
variable {prog : Program} {w : World} {A : Around} {s : Shared} {base g : Heap} {outer : List Env} {L : Addr} {m : Str → Option Value} {env : Env} {k : Nat}
  {mean : ExcName → Option Value} {mg mb : Str → Option Value} {Q E : Value → Shared → Prop} {c : LC} {y : LD} {news rest : List (Addr × Obj)}
theorem led_ne {h : Heap} {led : List (Addr × Obj)} (N : News g L h led) {p q : Addr × Obj} (hp : p ∈ led) (hq : q ∈ led) (hc : p.2.cls ≠ q.2.cls) : p.1 ≠ q.1 := fun e => by
  have a := (N p hp).1
  have b := (N q hq).1
  rw [e, b] at a
  exact hc (by rw [Option.some.inj a])
theorem stat_of {g₀ : Heap} {lim ld : Addr} {lw lt : Tok} {led rest : List (Addr × Obj)} {o : Obj} (hl : LimIn led lim ld lw lt) (rs : ∀ q ∈ led, g₀.get? q.1 = some q.2) (el : c.lim = lim) (ed : c.ld = ld) (ew : c.lw = lw) (et : c.lt = lt) (hc : c.cv.size ≤ 1000)
    (ho : ∃ ts, ts.length = 21 ∧ o.IsDictOf (bytesKind prog w) (kvOf resList ts)) (h0 : (c.kd == sysModules) = false) (hm : (c.kd, o) ∈ rest) : ∀ g', g₀.StaysIn g' → (∀ q ∈ rest, g'.get? q.1 = some q.2) → Stat prog w c g' := fun g' st rr => by
  obtain ⟨es, n, h1, h2, h3, h4⟩ := hl
  obtain ⟨ts, hts, hd⟩ := ho
  subst el ed ew et
  exact ⟨hc, ⟨es, n, ⟨st _ _ (rs _ h1), rfl, rfl, st _ _ (rs _ h2)⟩, h3, h4⟩, ⟨ts, hts, Heap.dictOf_iff.mpr ⟨o, rr _ hm, hd⟩⟩, h0⟩
theorem vl_handed {v : Vl} {u : Value} (h : v.is u) : handedIn u = true := by
  cases v with
  | no => cases h; rfl
  | «by» b => obtain ⟨t, rfl⟩ := h; rfl
  | nu i => obtain ⟨t, rfl⟩ := h; rfl
end
end
section
set_option maxHeartbeats 1000000
def Ew (P : Pt) (env : Env) (m : Mp) (l : Ld) (e : Expr) (kk : Value → Ld → Prop) : Prop :=
  ∀ h tk, Led P m l h → ∀ (Q : Value → Shared → Prop) (E : Value → Shared → Prop), (∀ v l' h' tk', kk v l' → Led P m l' h' → Q v (P.S h' tk')) → wpAny P.M P.A (eval e env) Q E (P.S h tk)
def CallX (P : Pt) (l : Ld) (f : Value) (args : List Value) (kk : Value → Ld → Prop) : Prop :=
  ∀ m h tk, Led P m l h → ∀ (Q : Value → Shared → Prop) (E : Value → Shared → Prop), (∀ v l' h' tk', kk v l' → Led P m l' h' → Q v (P.S h' tk')) → wpAny P.M P.A (call f args) Q E (P.S h tk)
def EtM (P : Pt) (env : Env) (m : Mp) (l : Ld) (e : Expr) (kt kf : Ld → Prop) (E : Value → Shared → Prop) : Prop :=
  ∀ h tk, Led P m l h → ∀ Q : Bool → Shared → Prop, (∀ l' h' tk', kt l' → Led P m l' h' → Q true (P.S h' tk')) → (∀ l' h' tk', kf l' → Led P m l' h' → Q false (P.S h' tk')) → wpB P.b P.M P.A (isTrue e env (eval e env)) Q E (P.S h tk)
def SetL (P : Pt) (x : Addr) (name : Str) (v : Value) (l l' : Ld) : Prop :=
  ∀ m h tk, Led P m l h → ∀ (Q : Unit → Shared → Prop) (E : Value → Shared → Prop), (∀ h' tk', Led P m l' h' → Q () (P.S h' tk')) → wpAny P.M P.A (setAttr (.ref x) name v) Q E (P.S h tk)
noncomputable abbrev tupO (vs : List Value) : Obj := { cls := .type "tuple", data := .seq vs.toArray }
section
variable {P : Pt} {env : Env} {k : Nat} {E : Value → Shared → Prop} {rest own l : Ld} {name qual : Str} {params : Arguments} {body : List Stmt} {scope : Scope} {dV kV doc pm cdv ct oc : Value} {an od : Option Addr} {osl : Array (Option Value)} {f : Addr} {args : List Value}
theorem callx_def (binds : List (Str × Value)) {kk : Value → Ld → Prop} (O : Ok P env (k + 1))
    (ho : (Mine.H.hd.heap_1_1 P.w.params).lookup f = some ⟨oc, od, .func (fnOf name qual params body scope dV kV doc pm an cdv ct), osl⟩) (hcd : codeIn (Mine.H.hd.heap_1_1 P.w.params) cdv qual = true)
    (hbind : ∀ s, BindsTo s (fnOf name qual params body scope dV kV doc pm an cdv ct) ⟨args, []⟩ binds) (hs : okDef scope (binds.map (·.1)) = true)
    (walk : ∀ P' : Pt, Into { P with b := false } P' l → Ok P' (envX qual scope P'.L f cdv []) k → ∀ Qf Ef, Fin P' kk l Qf → W P' (envX qual scope P'.L f cdv []) (fun y => binds.reverse.lookup y) [] body Qf Ef) : CallX P l (.ref f) args kk := by
  obtain ⟨hco, hgen, hk, hloc, hcell⟩ := okDef_parts hs
  intro m hp tk H Q E hQ
  refine wpAny_call (enter (K := (Mine.H.hd.heap_1_1 P.w.params)) [] binds O.C H.F H.N (fun _ _ h => nomatch h) (Top.nolimit O.T) O.X ho hcd (hbind _) hloc (fun g' L' h₁ tk₁ F' N' st X' C' FG rs ret => ?_) hcell hco hgen hk)
  exact (walk ⟨false, P.prog, P.w, P.A.deeper (envX qual scope L' f cdv []), P.base, env :: P.outer, g', L', P.mean, P.mg, P.mb, P.s⟩ ⟨rfl, rfl, rfl, st, rs⟩ ⟨C', X', O.T.keeps st⟩ _ _
    (fun fl m' l' h' tk' H' hkk => have R := ret _ _ _ _ H'.F H'.N; hQ _ _ _ _ hkk ⟨R.1, R.2⟩) h₁ tk₁ ⟨F', N'⟩).to_any
theorem CallX.w {v : Value} {as : List Value} {kk : Value → Ld → Prop} (h : CallX P l v as kk) : CallW P l v as kk E := fun m hp tk H Q hQ => wpB.of_any (h m hp tk H _ _ hQ)
end
section
variable {P : Pt} {cn x name : Str} {cs : Scope} {f a fm : Addr} {cd v : Value} {m : Mp} {l r : Ld} {k : Nat} {e e1 e2 e3 e4 : Expr} {es : List Expr} {p1 p2 p3 pos : Pos} {R R1 R2 R3 R4 : Value → Prop} {Rs : List Value → Prop} {c : LC} {y : LD}
  {kk : Value → Ld → Prop} {E : Value → Shared → Prop} {Q : Flow → Shared → Prop} {rest : List Stmt} {env : Env} {kt kf : Ld → Prop} {p : Prop}
theorem EtM.of (ht : ET P env m l e p) (h1 : p → kt l) (h0 : ¬ p → kf l) : EtM P env m l e kt kf E := fun hp tk H Q q1 q0 => wpB.of_any (ht hp tk H _ _ fun b h' tk' hb H' => by
  cases b with
  | true => exact q1 _ _ _ (h1 (hb.mp rfl)) H'
  | false => exact q0 _ _ _ (h0 fun x => Bool.false_ne_true (hb.mpr x)) H')
theorem EtM.call (h : Em P env m l e (fun v l' => (v = .bool true ∧ kt l') ∨ (v = .bool false ∧ kf l')) E)
    (he : isTrue e env (eval e env) = (do let v ← eval e env; PySem.standAt e.pos; PySem.holding [v] (truthy v)) := by rfl) : EtM P env m l e kt kf E := fun hp tk H Q q1 q0 => by
  rw [he]
  refine wpB.bind (h hp tk H _ fun v l' h' tk' hv H' => wpB.of_any (wpAny_bind (wpAny_standAt (wpAny_holding ?_))))
  rcases hv with ⟨rfl, w⟩ | ⟨rfl, w⟩
  · exact wpAny_truthy_bool (q1 _ _ _ w H')
  · exact wpAny_truthy_bool (q0 _ _ _ w H')
theorem EtM.cmp {op : CmpOp} {b : Expr} (h : Em P env m l e (fun v l' => ∃ (R : Value → Prop) (p : Prop), Ev P env m l' b R ∧ (∀ u, R u → Cmp P op v u p) ∧ (p → kt l') ∧ (¬ p → kf l')) E) (hm : behindInMarks op b = false) :
    EtM P env m l (.Compare e [op] [b] pos) kt kf E := fun hp tk H Q q1 q0 Γ p₀ hΓ hcl => by
  simp only [isTrue_Compare1, markedBehindIn_of_false hm, Sem.wp_bind', Sem.wp_holding, Sem.wp_cmd_standAt, Sem.wp_operate]
  refine Sem.wp_mono P.M Γ _ (fun a p₁ s₁ h₁ => Sem.wp_mono P.M Γ _ (fun b _ s₂ h₂ => Sem.wp_mono P.M Γ _ (fun c p₃ s₃ h₃ => h₃ Γ p₃ hΓ)
    (fun _ _ _ h' => h') _ _ (h₂ Γ _ hΓ)) (fun _ _ _ h' => h') _ _ (h₁ Γ p₁ hΓ)) (fun _ _ _ h' => h') _ _
    (h hp tk H (fun v s₁ => wpAny P.M P.A (eval b env) (fun u s₂ => wpAny P.M P.A (compareOp op v u) (fun c s₃ => wpAny P.M P.A (truthy c) Q E s₃) E s₂) E s₁) (fun v l' h' tk' hv H' => ?_) Γ p₀ hΓ hcl)
  obtain ⟨R, p, hb, hc, w1, w0⟩ := hv
  refine hb h' tk' H' _ _ fun u h2 t2 hu H2 => hc u hu _ _ _ fun z hz => wpAny_truthy_bool ?_
  cases z with
  | true => exact q1 _ _ _ (w1 (hz.mp rfl)) H2
  | false => exact q0 _ _ _ (w0 fun x => Bool.false_ne_true (hz.mpr x)) H2
theorem W.ifT {test : Expr} {body orelse : List Stmt} (h : EtM P env m l test (fun l' => W P env m l' (body ++ rest) Q E) (fun l' => W P env m l' (orelse ++ rest) Q E) E) : W P env m l (.If test body orelse pos :: rest) Q E := fun hp tk H Γ q hΓ hc => by
  rw [execs_cons, Sem.wp_bind']
  simp only [exec_If, Sem.wp_bind', Sem.wp_cmd_standAt]
  refine Sem.wp_mono P.M Γ _ (fun b p₂ s₂ h₂ => ?_) (fun _ _ _ h' => h') _ _
    (h hp tk H (fun b s₂ => if b then wpB P.b P.M P.A (execs (body ++ rest) env) Q E s₂ else wpB P.b P.M P.A (execs (orelse ++ rest) env) Q E s₂) (fun l' h' tk' w H' => w h' tk' H') (fun l' h' tk' w H' => w h' tk' H') Γ _ hΓ hc)
  cases b <;> (refine Sem.wp_mono P.M Γ _ (fun f p' s' h' => ?_) (fun _ _ _ h' => h') _ _ (execs_app _ _ _ (h₂ Γ p₂ hΓ hc)); cases f <;> exact h')
structure Lp (P : Pt) (env : Env) (rest : List Stmt) (Q : Flow → Shared → Prop) (E : Value → Shared → Prop) (Qb : Flow → Shared → Prop) (Eb : Value → Shared → Prop) : Prop where
  br : ∀ m l pos st, W P env m l rest Q E → W P env m l (.Break pos :: st) Qb Eb
  rt : ∀ v s, Q (.ret v) s → Qb (.ret v) s
  es : Esc P env E → Esc P env Eb
theorem W.whl {ι : Type} (J : ι → Prop) (mu : ι → Nat) (mm : ι → Mp) (ll : ι → Ld) {test : Expr} {body : List Stmt} (O : Ok P env k)
    (turn : ∀ i, J i → ∀ Qb Eb, Lp P env rest Q E Qb Eb → (∀ j, J j → mu j < mu i → W P env (mm j) (ll j) [] Qb Eb) →
      EtM P env (mm i) (ll i) test (fun l' => W P env (mm i) l' body Qb Eb) (fun l' => W P env (mm i) l' rest Q E) Eb)
    (i : ι) (hi : J i) : W P env (mm i) (ll i) (.While test body [] pos :: rest) Q E := fun hp tk H => by
  have esc : Esc P env E → Esc P env (notedBy P.M P.A env fun e s' => cameBackBy P.M P.A env E e s') := fun hE =>
    ⟨fun h' e tk' R => loop_fly (s := P.S h' tk') O.C R fun h2 R2 => hE.h h2 e tk' R2, fun h' e tk' R => loop_held (s := P.S h' tk') O.C R fun h2 R2 => hE.h h2 e tk' R2⟩
  refine wpB.cons ?_
  cases hb : P.b with
  | false =>
    refine wpB.of_any (aLoop (fun n s => ∃ i h tk, n = mu i ∧ J i ∧ s = P.S h tk ∧ Led P (mm i) (ll i) h) ?_ (mu i) ⟨i, hp, tk, rfl, hi, rfl, H⟩)
    rintro n s ⟨i, h, tk, rfl, hi, rfl, H⟩
    have T := turn i hi (fun f s₃ => match f with
            | .next | .cont => Kept (∃ m, m < mu i ∧ ∃ j h tk, m = mu j ∧ J j ∧ s₃ = P.S h tk ∧ Led P (mm j) (ll j) h)
            | .brk => wpB false P.M P.A (execs rest env) Q E s₃
            | .ret v => Q (.ret v) s₃) _ ⟨fun m l pos st w => W.brk fun h tk H' => by have := w h tk H'; rw [hb] at this; exact this, fun v s h => h, esc⟩
      (fun j hj hlt => W.nil fun h tk H' => ⟨mu j, hlt, j, h, tk, rfl, hj, rfl, H'⟩) h tk H
      (fun b s₂ => if b then wpAny P.M P.A (execs body env) (fun f s₃ => match f with
            | .next | .cont => Kept (∃ m, m < mu i ∧ ∃ j h tk, m = mu j ∧ J j ∧ s₃ = P.S h tk ∧ Led P (mm j) (ll j) h)
            | .brk => wpB false P.M P.A (execs rest env) Q E s₃
            | .ret v => Q (.ret v) s₃) (notedBy P.M P.A env fun e s' => cameBackBy P.M P.A env E e s') s₂
        else wpB false P.M P.A (execs rest env) Q E s₂) (fun l' h' tk' w H' => by have := w h' tk' H'; rw [hb] at this; exact this.to_any) (fun l' h' tk' w H' => by have := w h' tk' H'; rw [hb] at this; exact this)
    rw [hb] at T
    refine wpAny_mono T.to_any (fun b s₂ h₂ => ?_) fun _ _ x => x
    cases b with
    | true => exact wpAny_mono h₂ (fun f s₃ h₃ => by cases f <;> exact h₃) fun _ _ x => x
    | false => exact fun _ _ _ => h₂
  | true =>
    refine wpB.of_n (nLoop (fun n s => ∃ i h tk, n = mu i ∧ J i ∧ s = P.S h tk ∧ Led P (mm i) (ll i) h) ?_ (mu i) ⟨i, hp, tk, rfl, hi, rfl, H⟩)
    rintro n s ⟨i, h, tk, rfl, hi, rfl, H⟩
    have T := turn i hi (fun f s₃ => match f with
            | .next | .cont => Kept (∃ m, m < mu i ∧ ∃ j h tk, m = mu j ∧ J j ∧ s₃ = P.S h tk ∧ Led P (mm j) (ll j) h)
            | .brk => wpB true P.M P.A (execs rest env) Q E s₃
            | .ret v => Q (.ret v) s₃) _ ⟨fun m l pos st w => W.brk fun h tk H' => by have := w h tk H'; rw [hb] at this; exact this, fun v s h => h, esc⟩
      (fun j hj hlt => W.nil fun h tk H' => ⟨mu j, hlt, j, h, tk, rfl, hj, rfl, H'⟩) h tk H
      (fun b s₂ => if b then wpN P.M P.A (execs body env) (fun f s₃ => match f with
            | .next | .cont => Kept (∃ m, m < mu i ∧ ∃ j h tk, m = mu j ∧ J j ∧ s₃ = P.S h tk ∧ Led P (mm j) (ll j) h)
            | .brk => wpB true P.M P.A (execs rest env) Q E s₃
            | .ret v => Q (.ret v) s₃) (notedBy P.M P.A env fun e s' => cameBackBy P.M P.A env E e s') s₂
        else wpB true P.M P.A (execs rest env) Q E s₂) (fun l' h' tk' w H' => by have := w h' tk' H'; rw [hb] at this; exact this.to_n) (fun l' h' tk' w H' => by have := w h' tk' H'; rw [hb] at this; exact this)
    rw [hb] at T
    refine wpN_mono T.to_n (fun b s₂ h₂ => ?_) fun _ _ x => x
    cases b with
    | true => exact wpN_mono h₂ (fun f s₃ h₃ => by cases f <;> exact h₃) fun _ _ x => x
    | false => exact fun _ _ _ _ => h₂
theorem W.whl2 {α β : Type} (J : α → β → Prop) (mu : α → β → Nat) (mm : α → β → Mp) (ll : α → β → Ld) {test : Expr} {body : List Stmt} (O : Ok P env k)
    (turn : ∀ a b, J a b → ∀ Qb Eb, Lp P env rest Q E Qb Eb → (∀ a' b', J a' b' → mu a' b' < mu a b → W P env (mm a' b') (ll a' b') [] Qb Eb) →
      EtM P env (mm a b) (ll a b) test (fun l' => W P env (mm a b) l' body Qb Eb) (fun l' => W P env (mm a b) l' rest Q E) Eb)
    (a : α) ( b : β) (hi : J a b) : W P env (mm a b) (ll a b) (.While test body [] pos :: rest) Q E :=
  W.whl (ι := α × β) (fun i => J i.1 i.2) (fun i => mu i.1 i.2) (fun i => mm i.1 i.2) (fun i => ll i.1 i.2) O (fun i hi Qb Eb lp nx => turn i.1 i.2 hi Qb Eb lp fun a' b' hj hlt => nx (a', b') hj hlt) (a, b) hi
theorem W.whl3 {α β δ : Type} (J : α → β → δ → Prop) (mu : α → β → δ → Nat) (mm : α → β → δ → Mp) (ll : α → β → δ → Ld) {test : Expr} {body : List Stmt} (O : Ok P env k)
    (turn : ∀ a b d, J a b d → ∀ Qb Eb, Lp P env rest Q E Qb Eb → (∀ a' b' d', J a' b' d' → mu a' b' d' < mu a b d → W P env (mm a' b' d') (ll a' b' d') [] Qb Eb) →
      EtM P env (mm a b d) (ll a b d) test (fun l' => W P env (mm a b d) l' body Qb Eb) (fun l' => W P env (mm a b d) l' rest Q E) Eb)
    (a : α) ( b : β) ( d : δ) (hi : J a b d) : W P env (mm a b d) (ll a b d) (.While test body [] pos :: rest) Q E :=
  W.whl (ι := α × β × δ) (fun i => J i.1 i.2.1 i.2.2) (fun i => mu i.1 i.2.1 i.2.2) (fun i => mm i.1 i.2.1 i.2.2) (fun i => ll i.1 i.2.1 i.2.2) O (fun i hi Qb Eb lp nx => turn i.1 i.2.1 i.2.2 hi Qb Eb lp fun a' b' d' hj hlt => nx (a', b', d') hj hlt) (a, b, d) hi
theorem W.whl4 {α β δ γ : Type} (J : α → β → δ → γ → Prop) (mu : α → β → δ → γ → Nat) (mm : α → β → δ → γ → Mp) (ll : α → β → δ → γ → Ld) {test : Expr} {body : List Stmt} (O : Ok P env k)
    (turn : ∀ a b d g, J a b d g → ∀ Qb Eb, Lp P env rest Q E Qb Eb → (∀ a' b' d' g', J a' b' d' g' → mu a' b' d' g' < mu a b d g → W P env (mm a' b' d' g') (ll a' b' d' g') [] Qb Eb) →
      EtM P env (mm a b d g) (ll a b d g) test (fun l' => W P env (mm a b d g) l' body Qb Eb) (fun l' => W P env (mm a b d g) l' rest Q E) Eb)
    (a : α) ( b : β) ( d : δ) ( g : γ) (hi : J a b d g) : W P env (mm a b d g) (ll a b d g) (.While test body [] pos :: rest) Q E :=
  W.whl (ι := α × β × δ × γ) (fun i => J i.1 i.2.1 i.2.2.1 i.2.2.2) (fun i => mu i.1 i.2.1 i.2.2.1 i.2.2.2) (fun i => mm i.1 i.2.1 i.2.2.1 i.2.2.2) (fun i => ll i.1 i.2.1 i.2.2.1 i.2.2.2) O (fun i hi Qb Eb lp nx => turn i.1 i.2.1 i.2.2.1 i.2.2.2 hi Qb Eb lp fun a' b' d' g' hj hlt => nx (a', b', d', g') hj hlt) (a, b, d, g) hi
theorem W.whl5 {α β δ γ ε : Type} (J : α → β → δ → γ → ε → Prop) (mu : α → β → δ → γ → ε → Nat) (mm : α → β → δ → γ → ε → Mp) (ll : α → β → δ → γ → ε → Ld) {test : Expr} {body : List Stmt} (O : Ok P env k)
    (turn : ∀ a b d g e, J a b d g e → ∀ Qb Eb, Lp P env rest Q E Qb Eb → (∀ a' b' d' g' e', J a' b' d' g' e' → mu a' b' d' g' e' < mu a b d g e → W P env (mm a' b' d' g' e') (ll a' b' d' g' e') [] Qb Eb) →
      EtM P env (mm a b d g e) (ll a b d g e) test (fun l' => W P env (mm a b d g e) l' body Qb Eb) (fun l' => W P env (mm a b d g e) l' rest Q E) Eb)
    (a : α) ( b : β) ( d : δ) ( g : γ) ( e : ε) (hi : J a b d g e) : W P env (mm a b d g e) (ll a b d g e) (.While test body [] pos :: rest) Q E :=
  W.whl (ι := α × β × δ × γ × ε) (fun i => J i.1 i.2.1 i.2.2.1 i.2.2.2.1 i.2.2.2.2) (fun i => mu i.1 i.2.1 i.2.2.1 i.2.2.2.1 i.2.2.2.2) (fun i => mm i.1 i.2.1 i.2.2.1 i.2.2.2.1 i.2.2.2.2) (fun i => ll i.1 i.2.1 i.2.2.1 i.2.2.2.1 i.2.2.2.2) O (fun i hi Qb Eb lp nx => turn i.1 i.2.1 i.2.2.1 i.2.2.2.1 i.2.2.2.2 hi Qb Eb lp fun a' b' d' g' e' hj hlt => nx (a', b', d', g', e') hj hlt) (a, b, d, g, e) hi
theorem W.whl6 {α β δ γ ε ζ : Type} (J : α → β → δ → γ → ε → ζ → Prop) (mu : α → β → δ → γ → ε → ζ → Nat) (mm : α → β → δ → γ → ε → ζ → Mp) (ll : α → β → δ → γ → ε → ζ → Ld) {test : Expr} {body : List Stmt} (O : Ok P env k)
    (turn : ∀ a b d g e u, J a b d g e u → ∀ Qb Eb, Lp P env rest Q E Qb Eb → (∀ a' b' d' g' e' u', J a' b' d' g' e' u' → mu a' b' d' g' e' u' < mu a b d g e u → W P env (mm a' b' d' g' e' u') (ll a' b' d' g' e' u') [] Qb Eb) →
      EtM P env (mm a b d g e u) (ll a b d g e u) test (fun l' => W P env (mm a b d g e u) l' body Qb Eb) (fun l' => W P env (mm a b d g e u) l' rest Q E) Eb)
    (a : α) ( b : β) ( d : δ) ( g : γ) ( e : ε) ( u : ζ) (hi : J a b d g e u) : W P env (mm a b d g e u) (ll a b d g e u) (.While test body [] pos :: rest) Q E :=
  W.whl (ι := α × β × δ × γ × ε × ζ) (fun i => J i.1 i.2.1 i.2.2.1 i.2.2.2.1 i.2.2.2.2.1 i.2.2.2.2.2) (fun i => mu i.1 i.2.1 i.2.2.1 i.2.2.2.1 i.2.2.2.2.1 i.2.2.2.2.2) (fun i => mm i.1 i.2.1 i.2.2.1 i.2.2.2.1 i.2.2.2.2.1 i.2.2.2.2.2) (fun i => ll i.1 i.2.1 i.2.2.1 i.2.2.2.1 i.2.2.2.2.1 i.2.2.2.2.2) O (fun i hi Qb Eb lp nx => turn i.1 i.2.1 i.2.2.1 i.2.2.2.1 i.2.2.2.2.1 i.2.2.2.2.2 hi Qb Eb lp fun a' b' d' g' e' u' hj hlt => nx (a', b', d', g', e', u') hj hlt) (a, b, d, g, e, u) hi
end
end
section
set_option maxHeartbeats 1000000
section
variable {P : Pt} {cn x z name : Str} {cs : Scope} {f a fm : Addr} {cd v v1 v2 : Value} {cl : List (Str × Addr)} {m : Mp} {l r : Ld} {k : Nat} {e e1 e2 e3 e4 lo hi : Expr} {es : List Expr} {p1 p2 p3 p4 pos : Pos} {R R1 R2 R3 R4 : Value → Prop} {Rs : List Value → Prop} {c : LC} {y : LD}
  {kk : Value → Ld → Prop} {E : Value → Shared → Prop} {Q : Flow → Shared → Prop} {rest : List Stmt} {env : Env} {kt kf : Ld → Prop} {p : Prop}
theorem iadd_int {prog : Program} {w : World} {A : Around} {s : Shared} {i j : Int} {t u : Tok} {Q : Value → Shared → Prop} (h : Q (.int (i + j) s.toks) { s with toks := s.toks + 1 }) : wpAny (model prog w) A (inplaceOp .Add (.int i t) (.int j u)) Q E s := AutoIntOps.iadd_0 h
theorem W.augI {i j : Int} {t : Tok} (hm : m x = some (.int i t)) (hb : Ev P (envX cn cs P.L f cd cl) m l e (I j)) (h : ∀ t, W P (envX cn cs P.L f cd cl) (upd m x (.int (i + j) t)) l rest Q E) (hx : isL cs x = true := by rfl) :
    W P (envX cn cs P.L f cd cl) m l (.AugAssign (.Name x p1) .Add e pos :: rest) Q E :=
  have hk := isL_parts (cn := cn) (L := P.L) (f := f) (cd := cd) (cl := cl) hx
  W.consA fun hp tk H => wpAny_AugAssign_Name (wpAny_loadName_local (s := P.S hp tk) hk.1 hk.2.1 H.F.ns hm (hb hp tk H _ _ fun v h1 t1 ⟨u, q⟩ H1 => by
    subst q
    exact iadd_int (storeX_L (s := P.S h1 (t1 + 1)) H1.F H1.N (fun h2 F2 N2 => h _ h2 _ ⟨F2, N2⟩) hk.1 hk.2.1)))
section
variable (O : Ok P env k) (hr : RestOK c r)
include O hr
theorem setL_at {i : Int} {t : Tok} : SetL P c.x (Str.ofString "at") (.int i t) (Lx c y ++ r) (Lx c { y with at_ := i, ta := t } ++ r) := fun m h tk H Q E hQ => set_at (s := P.S h tk) H.F O.X H.N hr fun h' tk' F N => hQ h' tk' ⟨F, N⟩
theorem setL_sign {i : Int} {t : Tok} : SetL P c.x (Str.ofString "sign") (.int i t) (Lx c y ++ r) (Lx c { y with sg := i, ts := t } ++ r) := fun m h tk H Q E hQ => set_sign (s := P.S h tk) H.F O.X H.N hr fun h' tk' F N => hQ h' tk' ⟨F, N⟩
theorem setL_line {i : Int} {t : Tok} : SetL P c.x (Str.ofString "line") (.int i t) (Lx c y ++ r) (Lx c { y with ln := i, tl := t } ++ r) := fun m h tk H Q E hQ => set_line (s := P.S h tk) H.F O.X H.N hr fun h' tk' F N => hQ h' tk' ⟨F, N⟩
theorem setL_last {i : Int} {t : Tok} : SetL P c.x (Str.ofString "last_line") (.int i t) (Lx c y ++ r) (Lx c { y with ll := i, tm := t } ++ r) := fun m h tk H Q E hQ => set_last (s := P.S h tk) H.F O.X H.N hr fun h' tk' F N => hQ h' tk' ⟨F, N⟩
theorem setL_current : SetL P c.x (Str.ofString "current") v (Lx c y ++ r) (Lx c { y with cur := v } ++ r) := fun m h tk H Q E hQ => set_current (s := P.S h tk) H.F O.X H.N hr fun h' tk' F N => hQ h' tk' ⟨F, N⟩
theorem setL_buffer {b : Addr} {bs : List UInt8} : SetL P c.x (Str.ofString "buffer") (.ref b) (Lx c y ++ (b, baObj bs) :: r) (Lx c { y with b := b, buf := bs } ++ r) := fun m h tk H Q E hQ => set_buffer (s := P.S h tk) H.F O.X H.N hr fun h' tk' F N => hQ h' tk' ⟨F, N⟩
end
theorem W.setM {xa : Addr} (hm : m x = some (.ref xa)) (h : Em P (envX cn cs P.L f cd cl) m l e (fun v l' => ∃ l2, SetL P xa name v l' l2 ∧ W P (envX cn cs P.L f cd cl) m l2 rest Q E) E) (hx : isL cs x = true := by rfl)
    (hs : swapsWith e (some (.Attribute (.Name x p1) name p2)) pos.line (envX cn cs P.L f cd cl) = pure false := by rfl) : W P (envX cn cs P.L f cd cl) m l (.Assign [.Attribute (.Name x p1) name p2] e pos :: rest) Q E :=
  W.cons fun hp tk H Γ q hΓ hc => by
    simp only [plainObj_exec_Assign_Attribute (.Name x p1) name p2 e pos hs, assign_Attribute, Sem.wp_bind', Sem.wp_holding, Sem.wp_cmd_standAt, Sem.wp_release, Sem.wp_pure']
    refine Sem.wp_mono P.M Γ _ (fun v p₁ s₁ h₁ => Sem.wp_mono P.M Γ _ (fun ov _ s₂ h₂ => h₂ Γ _ hΓ) (fun _ _ _ h' => h') _ _ (h₁ Γ p₁ hΓ)) (fun _ _ _ h' => h') _ _
      (h hp tk H (fun v s₁ => wpAny P.M P.A (eval (.Name x p1) (envX cn cs P.L f cd cl)) (fun ov s₂ => wpAny P.M P.A (setAttr ov name v) (fun _ s₃ => wpB P.b P.M P.A (execs rest (envX cn cs P.L f cd cl)) Q E s₃) E s₂) E s₁) (fun v l' h' tk' hv H' => ?_) Γ _ hΓ hc)
    obtain ⟨l2, hset, w⟩ := hv
    refine Ev.loc hm hx h' tk' H' _ _ fun u h2 t2 hu H2 => ?_
    subst hu
    exact hset m h2 t2 H2 _ _ fun h3 t3 H3 => w h3 t3 H3
theorem W.augA {i j : Int} {t : Tok} {l2 : Tok → Ld} (O : Ok P (envX cn cs P.L f cd cl) k) (Hn : At P.w name) (hm : m x = some (.ref c.x)) (hl : getL name (lexEnt c y) = some (some (.int i t))) (hb : Ev P (envX cn cs P.L f cd cl) m (Lx c y ++ r) e (I j))
    (hset : ∀ t, SetL P c.x name (.int (i + j) t) (Lx c y ++ r) (l2 t)) (h : ∀ t, W P (envX cn cs P.L f cd cl) m (l2 t) rest Q E) (hx : isL cs x = true := by rfl) : W P (envX cn cs P.L f cd cl) m (Lx c y ++ r) (.AugAssign (.Attribute (.Name x p1) name p2) .Add e pos :: rest) Q E :=
  W.consA fun hp tk H => wpAny_AugAssign_AttributeAny (Ev.loc hm hx hp tk H _ _ fun ov h1 t1 hov H1 => by
    subst hov
    obtain ⟨at_, ha, hn⟩ := Hn.at_
    refine get_own (s := P.S h1 t1) (K := (Mine.H.hd.heap_1_1 P.w.params)) (C := 465) (es := lexEnt c y) (n := c.n) H1.F O.X (lx_inst (s := P.S h1 t1) H1.N) Hn.pg Hn.hs ha hn hl rfl ?_
    exact hb h1 (t1 + 1) H1 _ _ fun u h2 t2 ⟨t, q⟩ H2 => by
      subst q
      exact iadd_int (hset _ m h2 _ H2 _ _ fun h3 t3 H3 => h _ h3 t3 H3))
theorem Ew.em (h : Ew P env m l e kk) : Em P env m l e kk E := fun hp tk H Q hQ => wpB.of_any (h hp tk H Q E hQ)
theorem ew_tuple (hs : Evs P env m l es Rs) (hz : ∀ vs, Rs vs → vs.length ≤ 100) (hk : ∀ vs D, Rs vs → (∀ q ∈ l, q.1 < D) → kk (.ref D) ((D, tupO vs) :: l)) {j : Nat} : Ew P env m l (.Tuple es j pos) kk := fun hp tk H Q E hQ =>
  Tuple_ (hs hp tk pos H _ _ fun vs h1 t1 hv H1 => kup_newTuple (s := P.S h1 t1) H1.F H1.N (fun D h' F N lo => hQ _ _ h' t1 (hk vs D hv lo) ⟨F, N⟩) (Nat.le_trans (hz vs hv) (by rw [sizeLine_eq]; decide)))
theorem ew_call1 (Fx : Fn P.w x a) (O : Ok P (envX cn cs P.L f cd cl) k) (h1 : Ev P (envX cn cs P.L f cd cl) m l e1 R1) (hc : ∀ v, R1 v → CallX P l (.ref a) [v] kk) (hx : isG cs x = true := by rfl) (hz : okEs [e1] = true := by rfl) : Ew P (envX cn cs P.L f cd cl) m l (.Call (.Name x p1) [e1] [] pos) kk := fun hp tk H Q E hQ => by
  refine Call_ (Ev.glob O Fx.at_ hx hp tk H _ _ fun v' h' tk' hv' H' => ?_) evalCall
  subst hv'
  exact wpB.to_any (bCallWith (b := false) (first := []) (backTo_any hz) Fx.kp (evs1 h1 hz h' tk' pos H' _ _ fun vs h2 t2 ⟨v, e, hv⟩ H2 => ⟨O.X.keeps H2.F.keep, wpB.of_any (e ▸ hc v hv m h2 t2 H2 Q E hQ)⟩))
theorem ew_call4 (Fx : Fn P.w x a) (O : Ok P (envX cn cs P.L f cd cl) k) (h1 : Ev P (envX cn cs P.L f cd cl) m l e1 R1) (h2 : Ev P (envX cn cs P.L f cd cl) m l e2 R2) (h3 : Ev P (envX cn cs P.L f cd cl) m l e3 R3) (h4 : Ev P (envX cn cs P.L f cd cl) m l e4 R4)
    (hc : ∀ v u t s, R1 v → R2 u → R3 t → R4 s → CallX P l (.ref a) [v, u, t, s] kk) (hx : isG cs x = true := by rfl) (hz : okEs [e1, e2, e3, e4] = true := by rfl) : Ew P (envX cn cs P.L f cd cl) m l (.Call (.Name x p1) [e1, e2, e3, e4] [] pos) kk := fun hp tk H Q E hQ => by
  refine Call_ (Ev.glob O Fx.at_ hx hp tk H _ _ fun v' h' tk' hv' H' => ?_) evalCall
  subst hv'
  exact wpB.to_any (bCallWith (b := false) (first := []) (backTo_any hz) Fx.kp (evs4 h1 h2 h3 h4 hz h' tk' pos H' _ _ fun vs h2 t2 ⟨v, u, t, s, e, hv, hu, ht, hs⟩ H2 => ⟨O.X.keeps H2.F.keep, wpB.of_any (e ▸ hc v u t s hv hu ht hs m h2 t2 H2 Q E hQ)⟩))
theorem store_upd {hp : Heap} {tk : Nat} {E : Value → Shared → Prop} {Q : Unit → Shared → Prop} (H : Led P m l hp) (hx : isL cs x = true) (h : ∀ h' tk', Led P (upd m x v) l h' → Q () (P.S h' tk')) : wpAny P.M P.A (storeName (envX cn cs P.L f cd cl) x v) Q E (P.S hp tk) :=
  have hk := isL_parts (cn := cn) (L := P.L) (f := f) (cd := cd) (cl := cl) hx
  storeX_L (s := P.S hp tk) H.F H.N (fun h2 F2 N2 => h h2 _ ⟨F2, N2⟩) hk.1 hk.2.1
theorem W.asg2 {j : Nat} (O : Ok P (envX cn cs P.L f cd cl) k) (h : Ew P (envX cn cs P.L f cd cl) m l e (fun v l' => ∃ D v1 v2, v = .ref D ∧ (D, tupO [v1, v2]) ∈ l' ∧ W P (envX cn cs P.L f cd cl) (upd (upd m x v1) z v2) l' rest Q E))
    (hx : isL cs x = true := by rfl) (hz : isL cs z = true := by rfl) (hs : swapsWithSole [.Tuple [.Name x p1, .Name z p2] j p3] e pos.line (envX cn cs P.L f cd cl) = pure false := by rfl)
    (hw : swappedStores [.Tuple [.Name x p1, .Name z p2] j p3] e (envX cn cs P.L f cd cl) = pure none := by rfl) : W P (envX cn cs P.L f cd cl) m l (.Assign [.Tuple [.Name x p1, .Name z p2] j p3] e pos :: rest) Q E :=
  W.consA fun hp tk H => Assign_Tuple (h hp tk H _ _ fun v l' h1 t1 ⟨D, v1, v2, q, hD, w⟩ H1 => by
    subst q
    refine unpackN_ (s := P.S h1 t1) H1.F H1.N (News.isTup H1.N hD) O.C.handled rfl rfl fun h2 F2 N2 => ?_
    refine assignInOrder_cons (assign_Name (store_upd (tk := t1) ⟨F2, N2⟩ hx fun h3 t3 H3 => ?_))
    refine assignInOrder_cons (assign_Name (store_upd H3 hz fun h4 t4 H4 => ?_))
    exact assignInOrder_nil (w h4 t4 H4)) hs hw
theorem W.asg2s {j : Nat} (O : Ok P (envX cn cs P.L f cd cl) k) (h : Ew P (envX cn cs P.L f cd cl) m l e (fun v l' => ∃ D v1 v2, v = .ref D ∧ (D, tupO [v1, v2]) ∈ l' ∧ W P (envX cn cs P.L f cd cl) (upd (upd m z v2) x v1) l' rest Q E))
    (hx : isL cs x = true := by rfl) (hz : isL cs z = true := by rfl) (hs : swapsWithSole [.Tuple [.Name x p1, .Name z p2] j p3] e pos.line (envX cn cs P.L f cd cl) = pure false := by rfl)
    (hw : swappedStores [.Tuple [.Name x p1, .Name z p2] j p3] e (envX cn cs P.L f cd cl) = pure (some [x, z]) := by rfl) : W P (envX cn cs P.L f cd cl) m l (.Assign [.Tuple [.Name x p1, .Name z p2] j p3] e pos :: rest) Q E :=
  W.consA fun hp tk H => Assign_Tuple_swapped (names := [x, z]) (h hp tk H _ _ fun v l' h1 t1 ⟨D, v1, v2, q, hD, w⟩ H1 => by
    subst q
    refine unpackItemsN_ (s := P.S h1 t1) H1.F H1.N (News.isTup H1.N hD) O.C.handled rfl fun h2 F2 N2 => ?_
    refine assignInOrder_cons (bindName_ (store_upd (tk := t1) ⟨F2, N2⟩ hz fun h3 t3 H3 => ?_))
    refine assignInOrder_cons (bindName_ (store_upd H3 hx fun h4 t4 H4 => ?_))
    exact assignInOrder_nil (w h4 t4 H4)) hs hw
structure Bn (w : World) (x : Str) (v : Value) : Prop where
  no : nsIn (Mine.H.hd.heap_1_1 w.params) mainGlobals x = some none
  boot : bootBuiltins x = some v
  ne : x ≠ Str.ofString "__name__"
  kp : keeperOf v = pure .machine
theorem bn_len {w : World} : Bn w (Str.ofString "len") (.builtin "len") := ⟨by k_is, by boot_fast, by decide, rfl⟩
theorem bn_bytes {w : World} : Bn w (Str.ofString "bytes") (.type "bytes") := ⟨by k_is, by boot_fast, by decide, rfl⟩
theorem Ev.blt (Bx : Bn P.w x v) (O : Ok P (envX cn cs P.L f cd cl) k) (hx : isG cs x = true) : Ev P (envX cn cs P.L f cd cl) m l (.Name x pos) (V v) := fun hp tk H Q E hQ =>
  have h := isG_parts (cn := cn) (L := P.L) (f := f) (cd := cd) (cl := cl) hx
  nameX_B (s := P.S hp tk) H.F O.X (topRead_of O.T) Bx.no Bx.boot Bx.ne (hQ v hp tk rfl H) O.C.kind h.1 h.2
theorem ev_blt1 (Bx : Bn P.w x v) (O : Ok P (envX cn cs P.L f cd cl) k) (h1 : Ev P (envX cn cs P.L f cd cl) m l e1 R1) (hc : ∀ u, R1 u → CallP P l v [u] R) (hx : isG cs x = true := by rfl) (hz : okEs [e1] = true := by rfl) : Ev P (envX cn cs P.L f cd cl) m l (.Call (.Name x p1) [e1] [] pos) R := fun hp tk H Q E hQ => by
  refine Call_ (Ev.blt Bx O hx hp tk H _ _ fun v' h' tk' hv' H' => ?_) evalCall
  subst hv'
  exact wpB.to_any (bCallWithP (b := false) (first := []) (backTo_any hz) Bx.kp (evs1 h1 hz h' tk' pos H' _ _ fun vs h2 t2 ⟨v, e, hv⟩ H2 => wpB.of_any (e ▸ hc v hv m h2 t2 H2 Q E hQ)))
theorem ev_len {b : List UInt8} (O : Ok P (envX cn cs P.L f cd cl) k) (h1 : Ev P (envX cn cs P.L f cd cl) m l e1 (Y b)) (hb : b.length < 1000000) (hx : isG cs (Str.ofString "len") = true := by rfl) (hz : okEs [e1] = true := by rfl) :
    Ev P (envX cn cs P.L f cd cl) m l (.Call (.Name (Str.ofString "len") p1) [e1] [] pos) (I b.length) := ev_blt1 bn_len O h1 (fun u ⟨t, q⟩ m' h tk H Q E hQ => by
  subst q
  exact lenB (s := P.S h tk) hb fun t tk' => hQ _ h tk' ⟨t, rfl⟩ H) hx hz
theorem lx_ba {hp : Heap} (H : Led P m (Lx c y ++ r) hp) : (P.S hp 0).heap.get? y.b = some (baObj y.buf) := (H.N (y.b, baObj y.buf) (.tail _ (.tail _ (.head _)))).1
theorem ev_lenbuf (O : Ok P (envX cn cs P.L f cd cl) k) (h1 : Ev P (envX cn cs P.L f cd cl) m (Lx c y ++ r) e1 (V (.ref y.b))) (hb : y.buf.length < 1000000) (hx : isG cs (Str.ofString "len") = true := by rfl) (hz : okEs [e1] = true := by rfl) :
    Ev P (envX cn cs P.L f cd cl) m (Lx c y ++ r) (.Call (.Name (Str.ofString "len") p1) [e1] [] pos) (I y.buf.length) := ev_blt1 bn_len O h1 (fun u q m' h tk H Q E hQ => by
  subst q
  exact len_ba (s := P.S h tk) (lx_ba H) (by omega) fun t tk' => hQ _ h tk' ⟨t, rfl⟩ H) hx hz
theorem ev_bytesbuf (O : Ok P (envX cn cs P.L f cd cl) k) (h1 : Ev P (envX cn cs P.L f cd cl) m (Lx c y ++ r) e1 (V (.ref y.b))) (hb : y.buf.length < 1000000) (hx : isG cs (Str.ofString "bytes") = true := by rfl) (hz : okEs [e1] = true := by rfl) :
    Ev P (envX cn cs P.L f cd cl) m (Lx c y ++ r) (.Call (.Name (Str.ofString "bytes") p1) [e1] [] pos) (Y y.buf) := ev_blt1 bn_bytes O h1 (fun u q m' h tk H Q E hQ => by
  subst q
  exact bytes_ba (s := P.S h tk) (lx_ba H) hb fun t tk' => hQ _ h tk' ⟨t, rfl⟩ H) hx hz
theorem ev_idx {b : List UInt8} {i : Int} (h1 : Ev P env m l e1 (Y b)) (h2 : Ev P env m l e2 (I i)) (hb : b.length < 1000000) (h0 : 0 ≤ i) (hi : i < (b.length : Int))
    (hs : ∀ t ui, subscripted e2 false (.bytes b.toArray t) (.int i ui) = operate [.bytes b.toArray t, .int i ui] (getItem (.bytes b.toArray t) (.int i ui)) := by intro _ _; with_unfolding_all rfl)
    (ht : ∀ t r, letTemporaryGo e1 (.bytes b.toArray t) r = pure () := by intro _ _; with_unfolding_all rfl) : Ev P env m l (.Subscript e1 e2 pos) (I (((b.getD i.toNat 0).toNat : Nat) : Int)) := fun hp tk H Q E hQ =>
  Subscript_ (h1 hp tk H _ _ fun v1 ha ta ⟨t, q⟩ Ha => h2 ha ta Ha _ _ fun v2 hb' tb ⟨u, q'⟩ Hb => by
    subst q q'
    exact itemB (s := P.S hb' tb) hb h0 hi (fun tk' => hQ _ hb' (tk' + 1) ⟨tk', rfl⟩ Hb) (hs t u) (ht t))
def EvP (P : Pt) (env : Env) (m : Mp) (l : Ld) (o : Option Expr) (b : Option Int) : Prop :=
  ∀ h tk, Led P m l h → ∀ (Q : Value → Shared → Prop) (E : Value → Shared → Prop), (∀ v h' tk', IsPart v b → Led P m l h' → Q v (P.S h' tk')) → wpAny P.M P.A (evalPart o env) Q E (P.S h tk)
theorem part0 : EvP P env m l none none := fun hp tk H Q E hQ => wpAny_pure (hQ .none hp tk .none H)
theorem part1 {i : Int} (h : Ev P env m l e (I i)) : EvP P env m l (some e) (some i) := fun hp tk H Q E hQ => h hp tk H Q E fun v h' tk' ⟨t, q⟩ H' => by subst q; exact hQ _ h' tk' (.int i t) H'
theorem ev_slice {b : List UInt8} {lo hi : Option Expr} {i j : Option Int} (h1 : Ev P env m l e1 (Y b)) (h2 : EvP P env m l lo i) (h3 : EvP P env m l hi j) (hb : b.length < 1000000)
    (hs : ∀ t (s : Shared), subscripted (.Slice lo hi none p1) false (.bytes b.toArray t) (.ref s.heap.objs.size) = operate [.ref s.heap.objs.size, .bytes b.toArray t] (getItem (.bytes b.toArray t) (.ref s.heap.objs.size)) := by intro _ _; with_unfolding_all rfl)
    (ht : ∀ t r, letTemporaryGo e1 (.bytes b.toArray t) r = pure () := by intro _ _; with_unfolding_all rfl) : Ev P env m l (.Subscript e1 (.Slice lo hi none p1) pos) (Y (cutB b i j)) := fun hp tk H Q E hQ =>
  Subscript_ (h1 hp tk H _ _ fun v1 ha ta ⟨t, q⟩ Ha => wpAny_Slice (h2 ha ta Ha _ _ fun v2 hb' tb hv Hb => h3 hb' tb Hb _ _ fun v3 hc tc hu Hc => wpAny_pure (by
    subst q
    exact bySlice (s := P.S hc tc) Hc.F Hc.N hv hu hb (fun h' t' k' F' N' => hQ _ h' k' ⟨t', rfl⟩ ⟨F', N'⟩) (hs t _) (ht t))))
theorem ew_slice {lo hi : Option Expr} {i j : Option Int} (h1 : Ev P env m (Lx c y ++ r) e1 (V (.ref y.b))) (h2 : EvP P env m (Lx c y ++ r) lo i) (h3 : EvP P env m (Lx c y ++ r) hi j) (hb : y.buf.length < 1000000) (hk : ∀ b', kk (.ref b') ((b', baObj (cutB y.buf i j)) :: (Lx c y ++ r)))
    (hs : ∀ (s : Shared), subscripted (.Slice lo hi none p1) false (.ref y.b) (.ref s.heap.objs.size) = operate [.ref s.heap.objs.size, .ref y.b] (getItem (.ref y.b) (.ref s.heap.objs.size)) := by intro _; with_unfolding_all rfl)
    : Ew P env m (Lx c y ++ r) (.Subscript e1 (.Slice lo hi none p1) pos) kk := fun hp tk H Q E hQ =>
  Subscript_ (h1 hp tk H _ _ fun v1 ha ta q Ha => wpAny_Slice (h2 ha ta Ha _ _ fun v2 hb' tb hv Hb => h3 hb' tb Hb _ _ fun v3 hc tc hu Hc => wpAny_pure (by
    subst q
    exact kba_turn (value' := .Name (Str.ofString "") ⟨0, 0, 0, 0⟩) (fun _ => rfl) (ba_slice (s := P.S hc tc) Hc.F Hc.N (lx_ba Hc) hv hu hb (fun h' b' F' N' => hQ _ _ h' tc (hk b') ⟨F', N'⟩) (hs _) fun _ => rfl))))
theorem ev_bytesslice {lo hi : Option Expr} {i j : Option Int} (O : Ok P (envX cn cs P.L f cd cl) k) (h1 : Ev P (envX cn cs P.L f cd cl) m (Lx c y ++ r) e1 (V (.ref y.b))) (h2 : EvP P (envX cn cs P.L f cd cl) m (Lx c y ++ r) lo i) (h3 : EvP P (envX cn cs P.L f cd cl) m (Lx c y ++ r) hi j) (hb : y.buf.length < 1000000)
    (hs : ∀ (s : Shared), subscripted (.Slice lo hi none p1) false (.ref y.b) (.ref s.heap.objs.size) = operate [.ref s.heap.objs.size, .ref y.b] (getItem (.ref y.b) (.ref s.heap.objs.size)) := by intro _; with_unfolding_all rfl)
    (hx : isG cs (Str.ofString "bytes") = true := by rfl) :
    Ev P (envX cn cs P.L f cd cl) m (Lx c y ++ r) (.Call (.Name (Str.ofString "bytes") p2) [.Subscript e1 (.Slice lo hi none p1) p3] [] pos) (Y (cutB y.buf i j)) := fun hp tk H Q E hQ => by
  refine Call_ (Ev.blt bn_bytes O hx hp tk H _ _ fun v' h' tk' hv' H' => ?_) evalCall
  subst hv'
  refine wpB.to_any (bCallWithP (b := false) (first := []) (backTo_any (es := [.Subscript e1 (.Slice lo hi none p1) p3]) rfl) (bn_bytes (w := P.w)).kp ?_)
  refine args_cons ?_
  refine ew_slice h1 h2 h3 hb (kk := fun v l' => ∃ b', v = .ref b' ∧ l' = (b', baObj (cutB y.buf i j)) :: (Lx c y ++ r)) (fun b' => ⟨b', rfl, rfl⟩) hs h' tk' H' _ _ fun v l' h2 t2 hv H2 => ?_
  obtain ⟨b', rfl, rfl⟩ := hv
  refine args_nil (wpB.of_any ?_)
  exact bytes_ba (s := P.S h2 t2) (H2.N _ (.head _)).1 (Nat.lt_of_le_of_lt (cutB_len _ _ _) hb) fun t tk' => hQ _ h2 tk' ⟨t, rfl⟩ (H2.sub fun q hq => .tail _ hq)
theorem et_inby {b : List UInt8} {u : UInt8} (h1 : Ev P env m l e1 (I u.toNat)) (h2 : Ev P env m l e2 (Y b)) (hm : behindInMarks .In e2 = false := by with_unfolding_all rfl) : ET P env m l (.Compare e1 [.In] [e2] pos) (b.toArray.contains u = true) :=
  et_cmp h1 h2 (fun v u' ⟨t, q⟩ ⟨t', q'⟩ s Q E hQ => by subst q q'; exact in_bytes (hQ _ Iff.rfl)) hm
theorem ev_inby {b : List UInt8} {u : UInt8} (h1 : Ev P env m l e1 (I u.toNat)) (h2 : Ev P env m l e2 (Y b)) (hm : behindInMarks .In e2 = false := by with_unfolding_all rfl) : Ev P env m l (.Compare e1 [.In] [e2] pos) (Bp (b.toArray.contains u = true)) :=
  ev_cmp h1 h2 (fun v u' ⟨t, q⟩ ⟨t', q'⟩ s Q E hQ => by subst q q'; exact in_bytes (hQ _ Iff.rfl)) hm
theorem et_isnone (h1 : Ev P env m l e1 (V v)) (h2 : Ev P env m l e2 (V .none)) : ET P env m l (.Compare e1 [.Is] [e2] pos) (v = .none) :=
  et_cmp h1 h2 (fun v u' q q' s Q E hQ => by subst q q'; exact is_none (hQ _ (by simp))) (behind_off (by rfl))
theorem et_isnot (h1 : Ev P env m l e1 (V v)) (h2 : Ev P env m l e2 (V .none)) : ET P env m l (.Compare e1 [.IsNot] [e2] pos) (¬ v = .none) :=
  et_cmp h1 h2 (fun v u' q q' s Q E hQ => by subst q q'; exact isnot_none_gen (hQ _ (by simp))) (behind_off (by rfl))
theorem in_tup2 {i j n : Int} {t u t1 : Tok} {D : Addr} {hp : Heap} {tk : Nat} {Q : Value → Shared → Prop} {E : Value → Shared → Prop} {nz : List Int} {vs : List Value} (hT : IsTup hp D vs.toArray) (hv : IntsAre vs nz) (hQ : ∀ c, (c = true ↔ n ∈ nz) → Q (.bool c) (P.S hp tk)) :
    wpAny P.M P.A (compareOp .In (.int n t1) (.ref D)) Q E (P.S hp tk) := in_tuple_ints (s := P.S hp tk) (ns := nz) hT (by simpa using hv) (hQ _ (by simp))
theorem et_intup {nz : List Int} {n : Int} {j : Nat} (h1 : Ev P env m l e1 (I n)) (h2 : Evs P env m l es (fun vs => IntsAre vs nz)) (hz : nz.length ≤ 100) (hl : ∀ vs, IntsAre vs nz → vs.length = nz.length) : ET P env m l (.Compare e1 [.In] [.Tuple es j p1] pos) (n ∈ nz) := fun hp tk H Q E hQ =>
  wpAny_isTrue_Compare1 (h1 hp tk H _ _ fun v ha ta ⟨t, q⟩ Ha => by
    subst q
    refine ew_tuple (kk := fun v l' => ∃ D vs, v = .ref D ∧ l' = (D, tupO vs) :: l ∧ IntsAre vs nz) h2 (fun vs hv => by rw [hl vs hv]; exact hz) (fun vs D hv _ => ⟨D, vs, rfl, rfl, hv⟩) ha ta Ha _ _ fun v l' hb tb hv Hb => ?_
    obtain ⟨D, vs, rfl, rfl, hv⟩ := hv
    exact in_tup2 (u := 0) (i := 0) (j := 0) (t := 0) (News.isTup Hb.N (.head _)) hv fun c hc => wpAny_truthy_bool (hQ c hb tb hc (Hb.sub fun q hq => .tail _ hq))) (by rfl)
end
end
section
set_option maxHeartbeats 2000000
structure Gi (w : World) (x : Str) (i : Int) : Prop where
  at_ : ∃ t, nsIn (Mine.H.hd.heap_1_1 w.params) mainGlobals x = some (some (.int i t))
theorem Ev.gi {P : Pt} {cn x : Str} {cs : Scope} {f : Addr} {cd : Value} {cl : List (Str × Addr)} {m : Mp} {l : Ld} {k : Nat} {i : Int} {pos : Pos} (O : Ok P (envX cn cs P.L f cd cl) k) (h : Gi P.w x i) (hx : isG cs x = true := by rfl) : Ev P (envX cn cs P.L f cd cl) m l (.Name x pos) (I i) := by
  obtain ⟨t, h⟩ := h.at_
  exact (Ev.glob O h hx).i
section
variable {w : World}
theorem gi_END_OF_TEXT : Gi w (Str.ofString "END_OF_TEXT") (-1) := ⟨_, by k_is⟩
theorem gi_NEWLINE : Gi w (Str.ofString "NEWLINE") (10) := ⟨_, by k_is⟩
theorem gi_RETURN : Gi w (Str.ofString "RETURN") (13) := ⟨_, by k_is⟩
theorem gi_QUOTE_DOUBLE : Gi w (Str.ofString "QUOTE_DOUBLE") (34) := ⟨_, by k_is⟩
theorem gi_QUOTE_SINGLE : Gi w (Str.ofString "QUOTE_SINGLE") (39) := ⟨_, by k_is⟩
theorem gi_PLUS : Gi w (Str.ofString "PLUS") (43) := ⟨_, by k_is⟩
theorem gi_MINUS : Gi w (Str.ofString "MINUS") (45) := ⟨_, by k_is⟩
theorem gi_DOT : Gi w (Str.ofString "DOT") (46) := ⟨_, by k_is⟩
theorem gi_LESS : Gi w (Str.ofString "LESS") (60) := ⟨_, by k_is⟩
theorem gi_EQUALS : Gi w (Str.ofString "EQUALS") (61) := ⟨_, by k_is⟩
theorem gi_GREATER : Gi w (Str.ofString "GREATER") (62) := ⟨_, by k_is⟩
theorem gi_BRACKET_OPEN : Gi w (Str.ofString "BRACKET_OPEN") (91) := ⟨_, by k_is⟩
theorem gi_BACKSLASH : Gi w (Str.ofString "BACKSLASH") (92) := ⟨_, by k_is⟩
theorem gi_BRACKET_CLOSE : Gi w (Str.ofString "BRACKET_CLOSE") (93) := ⟨_, by k_is⟩
theorem gi_UNDERSCORE : Gi w (Str.ofString "UNDERSCORE") (95) := ⟨_, by k_is⟩
theorem gi_TILDE : Gi w (Str.ofString "TILDE") (126) := ⟨_, by k_is⟩
theorem gi_TK_CONCAT : Gi w (Str.ofString "TK_CONCAT") (278) := ⟨_, by k_is⟩
theorem gi_TK_DOTS : Gi w (Str.ofString "TK_DOTS") (279) := ⟨_, by k_is⟩
theorem gi_TK_EQ : Gi w (Str.ofString "TK_EQ") (280) := ⟨_, by k_is⟩
theorem gi_TK_GE : Gi w (Str.ofString "TK_GE") (281) := ⟨_, by k_is⟩
theorem gi_TK_LE : Gi w (Str.ofString "TK_LE") (282) := ⟨_, by k_is⟩
theorem gi_TK_NE : Gi w (Str.ofString "TK_NE") (283) := ⟨_, by k_is⟩
theorem gi_TK_NUMBER : Gi w (Str.ofString "TK_NUMBER") (284) := ⟨_, by k_is⟩
theorem gi_TK_NAME : Gi w (Str.ofString "TK_NAME") (285) := ⟨_, by k_is⟩
theorem gi_TK_STRING : Gi w (Str.ofString "TK_STRING") (286) := ⟨_, by k_is⟩
theorem gi_TK_EOS : Gi w (Str.ofString "TK_EOS") (287) := ⟨_, by k_is⟩
theorem gi_FIRST_RESERVED : Gi w (Str.ofString "FIRST_RESERVED") (257) := ⟨_, by k_is⟩
theorem gi_SOURCE_SIZE : Gi w (Str.ofString "SOURCE_SIZE") (80) := ⟨_, by k_is⟩
theorem gi_MOST_LINES : Gi w (Str.ofString "MOST_LINES") (2147483645) := ⟨_, by k_is⟩
theorem fn_is_digit : Fn w (Str.ofString "is_digit") 189 := ⟨by k_is, by k_is⟩
theorem fn_is_letter : Fn w (Str.ofString "is_letter") 196 := ⟨by k_is, by k_is⟩
theorem fn_is_name_sign : Fn w (Str.ofString "is_name_sign") 203 := ⟨by k_is, by k_is⟩
theorem fn_is_blank_lexer : Fn w (Str.ofString "is_blank_lexer") 210 := ⟨by k_is, by k_is⟩
theorem fn_is_control : Fn w (Str.ofString "is_control") 217 := ⟨by k_is, by k_is⟩
theorem fn_is_newline : Fn w (Str.ofString "is_newline") 224 := ⟨by k_is, by k_is⟩
theorem fn_escaped_sign : Fn w (Str.ofString "escaped_sign") 231 := ⟨by k_is, by k_is⟩
theorem fn_digit_of : Fn w (Str.ofString "digit_of") 117 := ⟨by k_is, by k_is⟩
theorem fn_is_blank_values : Fn w (Str.ofString "is_blank_values") 110 := ⟨by k_is, by k_is⟩
theorem fn_skip_blanks : Fn w (Str.ofString "skip_blanks") 131 := ⟨by k_is, by k_is⟩
theorem fn_read_digits : Fn w (Str.ofString "read_digits") 124 := ⟨by k_is, by k_is⟩
theorem fn_wrap : Fn w (Str.ofString "wrap") 103 := ⟨by k_is, by k_is⟩
theorem fn_text_in_base : Fn w (Str.ofString "text_in_base") 145 := ⟨by k_is, by k_is⟩
theorem fn_str_to_number : Fn w (Str.ofString "str_to_number") 138 := ⟨by k_is, by k_is⟩
theorem fn_to_text : Fn w (Str.ofString "to_text") 159 := ⟨by k_is, by k_is⟩
theorem fn_number_text : Fn w (Str.ofString "number_text") 152 := ⟨by k_is, by k_is⟩
theorem fn_is_number : Fn w (Str.ofString "is_number") 96 := ⟨by k_is, by k_is⟩
theorem fn_c_text : Fn w (Str.ofString "c_text") 166 := ⟨by k_is, by k_is⟩
theorem fn_token_text : Fn w (Str.ofString "token_text") 245 := ⟨by k_is, by k_is⟩
theorem fn_Token : Fn w (Str.ofString "Token") 262 := ⟨by k_is, by k_is⟩
theorem fn_chunk_id : Fn w (Str.ofString "chunk_id") 180 := ⟨by k_is, by k_is⟩
theorem fn_reserved_kinds : Fn w (Str.ofString "reserved_kinds") 238 := ⟨by k_is, by k_is⟩
theorem mt_move : Mt w (Str.ofString "move") 322 := ⟨by k_is, by k_is, by k_is, by k_is, fun _ _ => rfl⟩
theorem mt_sign_behind : Mt w (Str.ofString "sign_behind") 378 := ⟨by k_is, by k_is, by k_is, by k_is, fun _ _ => rfl⟩
theorem mt_end_line : Mt w (Str.ofString "end_line") 357 := ⟨by k_is, by k_is, by k_is, by k_is, fun _ _ => rfl⟩
theorem mt_keep : Mt w (Str.ofString "keep") 329 := ⟨by k_is, by k_is, by k_is, by k_is, fun _ _ => rfl⟩
theorem mt_keep_and_move : Mt w (Str.ofString "keep_and_move") 336 := ⟨by k_is, by k_is, by k_is, by k_is, fun _ _ => rfl⟩
theorem mt_keep_if : Mt w (Str.ofString "keep_if") 343 := ⟨by k_is, by k_is, by k_is, by k_is, fun _ _ => rfl⟩
theorem mt_clear : Mt w (Str.ofString "clear") 350 := ⟨by k_is, by k_is, by k_is, by k_is, fun _ _ => rfl⟩
theorem mt_error : Mt w (Str.ofString "error") 301 := ⟨by k_is, by k_is, by k_is, by k_is, fun _ _ => rfl⟩
theorem mt_near_text : Mt w (Str.ofString "near_text") 315 := ⟨by k_is, by k_is, by k_is, by k_is, fun _ _ => rfl⟩
theorem mt_skip_blank : Mt w (Str.ofString "skip_blank") 371 := ⟨by k_is, by k_is, by k_is, by k_is, fun _ _ => rfl⟩
theorem mt_skip_comment : Mt w (Str.ofString "skip_comment") 385 := ⟨by k_is, by k_is, by k_is, by k_is, fun _ _ => rfl⟩
theorem mt_read_level : Mt w (Str.ofString "read_level") 427 := ⟨by k_is, by k_is, by k_is, by k_is, fun _ _ => rfl⟩
theorem mt_read_long : Mt w (Str.ofString "read_long") 434 := ⟨by k_is, by k_is, by k_is, by k_is, fun _ _ => rfl⟩
theorem mt_read_inner : Mt w (Str.ofString "read_inner") 441 := ⟨by k_is, by k_is, by k_is, by k_is, fun _ _ => rfl⟩
theorem mt_read_string : Mt w (Str.ofString "read_string") 448 := ⟨by k_is, by k_is, by k_is, by k_is, fun _ _ => rfl⟩
theorem mt_read_escape : Mt w (Str.ofString "read_escape") 455 := ⟨by k_is, by k_is, by k_is, by k_is, fun _ _ => rfl⟩
theorem mt_read_digits : Mt w (Str.ofString "read_digits") 462 := ⟨by k_is, by k_is, by k_is, by k_is, fun _ _ => rfl⟩
theorem mt_read_bracket : Mt w (Str.ofString "read_bracket") 420 := ⟨by k_is, by k_is, by k_is, by k_is, fun _ _ => rfl⟩
theorem mt_read_dots : Mt w (Str.ofString "read_dots") 399 := ⟨by k_is, by k_is, by k_is, by k_is, fun _ _ => rfl⟩
theorem mt_read_numeral : Mt w (Str.ofString "read_numeral") 413 := ⟨by k_is, by k_is, by k_is, by k_is, fun _ _ => rfl⟩
theorem mt_read_word : Mt w (Str.ofString "read_word") 406 := ⟨by k_is, by k_is, by k_is, by k_is, fun _ _ => rfl⟩
theorem mt_read_compared : Mt w (Str.ofString "read_compared") 392 := ⟨by k_is, by k_is, by k_is, by k_is, fun _ _ => rfl⟩
theorem mt_read : Mt w (Str.ofString "read") 364 := ⟨by k_is, by k_is, by k_is, by k_is, fun _ _ => rfl⟩
theorem mt_next : Mt w (Str.ofString "next") 287 := ⟨by k_is, by k_is, by k_is, by k_is, fun _ _ => rfl⟩
end
end
local macro_rules | `(tactic| walk_at "sides") => `(tactic| ((case k1 => k_is); (case k2 => k_is); (case k3 => exact fun _ => BindsTo.of_eq rfl); (case k4 => exact rfl)))
local macro_rules | `(tactic| walk_at "evv") => `(tactic| first | exact ev_none | exact Ev.loc rfl | exact ev_bool | exact ev_ahead (by assumption) rfl | exact ev_buffer (by assumption) rfl | exact ev_limits (by assumption) rfl | exact ev_kinds (by assumption) rfl | exact Ev.glob (by assumption) (by k_is))
local macro_rules | `(tactic| walk_at "evy") => `(tactic| first | exact ev_bytes | exact ev_text (by assumption) rfl | exact Ev.y (Ev.loc rfl) | exact Ev.y (Ev.glob (by assumption) (by k_is)))
local macro_rules | `(tactic| walk_at "evi") => `(tactic| first
  | exact ev_int
  | exact Ev.i (Ev.loc rfl)
  | exact ev_sign (by assumption) rfl
  | exact ev_at (by assumption) rfl
  | exact ev_line (by assumption) rfl
  | exact Ev.gi (by assumption) (by walk_at "gi")
  | (refine' ev_add ?a ?b; (case a => walk_at "evi"); (case b => walk_at "evi"))
  | (refine' ev_sub ?a ?b; (case a => walk_at "evi"); (case b => walk_at "evi"))
  | (refine' ev_neg ?a; (case a => walk_at "evi"))
  | (refine' ev_len (by assumption) ?a ?b; (case a => walk_at "evy"); (case b => omega))
  | (refine' ev_idx ?a ?b ?c ?d ?e; (case a => walk_at "evy"); (case b => walk_at "evi"); (case c => omega); (case d => omega); (case e => omega)))
local macro_rules | `(tactic| walk_at "et") => `(tactic| first
  | (refine' et_eq ?a ?b; (case a => walk_at "evi"); (case b => walk_at "evi"))
  | (refine' et_ne ?a ?b; (case a => walk_at "evi"); (case b => walk_at "evi"))
  | (refine' et_lt ?a ?b; (case a => walk_at "evi"); (case b => walk_at "evi"))
  | (refine' et_le ?a ?b; (case a => walk_at "evi"); (case b => walk_at "evi"))
  | (refine' et_gt ?a ?b; (case a => walk_at "evi"); (case b => walk_at "evi"))
  | (refine' et_ge ?a ?b; (case a => walk_at "evi"); (case b => walk_at "evi")))
local macro_rules | `(tactic| walk_at "gi") => `(tactic| first | exact gi_END_OF_TEXT | exact gi_NEWLINE | exact gi_RETURN | exact gi_QUOTE_DOUBLE | exact gi_QUOTE_SINGLE | exact gi_PLUS | exact gi_MINUS | exact gi_DOT | exact gi_LESS | exact gi_EQUALS | exact gi_GREATER | exact gi_BRACKET_OPEN | exact gi_BACKSLASH | exact gi_BRACKET_CLOSE | exact gi_UNDERSCORE | exact gi_TILDE | exact gi_TK_CONCAT | exact gi_TK_DOTS | exact gi_TK_EQ | exact gi_TK_GE | exact gi_TK_LE | exact gi_TK_NE | exact gi_TK_NUMBER | exact gi_TK_NAME | exact gi_TK_STRING | exact gi_TK_EOS | exact gi_FIRST_RESERVED | exact gi_SOURCE_SIZE | exact gi_MOST_LINES)
section
set_option maxHeartbeats 2000000
section
variable {P : Pt} {env : Env} {m : Mp} {l : Ld} {e : Expr} {i j : Int}
theorem Ev.ieq (h : Ev P env m l e (I i)) (q : i = j) : Ev P env m l e (I j) := q ▸ h
theorem Bp.of {b : Bool} {p : Prop} {v : Value} (h : Bp p v) (q : p ↔ b = true) : v = .bool b := by
  obtain ⟨c, rfl, hc⟩ := h
  congr
  rw [Bool.eq_iff_iff]
  exact hc.trans q
end
section
variable {P : Pt} {cn x name : Str} {cs : Scope} {f : Addr} {cd : Value} {cl : List (Str × Addr)} {m : Mp} {l : Ld} {e : Expr} {p1 p2 pos : Pos} {Q : Flow → Shared → Prop} {E : Value → Shared → Prop} {rest : List Stmt} {xa : Addr} {i : Int} {l2 : Tok → Ld} {v : Value} {l3 : Ld}
theorem W.setI (hm : m x = some (.ref xa)) (ha : Ev P (envX cn cs P.L f cd cl) m l e (I i)) (hset : ∀ t, SetL P xa name (.int i t) l (l2 t)) (h : ∀ t, W P (envX cn cs P.L f cd cl) m (l2 t) rest Q E) (hx : isL cs x = true := by rfl)
    (hs : swapsWith e (some (.Attribute (.Name x p1) name p2)) pos.line (envX cn cs P.L f cd cl) = pure false := by rfl) : W P (envX cn cs P.L f cd cl) m l (.Assign [.Attribute (.Name x p1) name p2] e pos :: rest) Q E :=
  W.setM hm (Em.of ha fun v ⟨t, q⟩ => ⟨l2 t, q ▸ hset t, h t⟩) hx hs
end
section
variable {P : Pt} {env : Env} {k : Nat} {E : Value → Shared → Prop} {c : LC} {y : LD} {l rest : Ld} {kk : Value → Ld → Prop} {a : UInt8} {r buf : List UInt8} {i : Int}
theorem lex_def {name qual : Str} {params : Arguments} {body : List Stmt} {scope : Scope} {dV kV doc pm cdv ct oc : Value} {an od : Option Addr} {osl : Array (Option Value)} {f : Addr} {args : List Value} (binds : List (Str × Value)) (O : Ok P env (k + 1)) (hr : RestOK c rest)
    (ho : (Mine.H.hd.heap_1_1 P.w.params).lookup f = some ⟨oc, od, .func (fnOf name qual params body scope dV kV doc pm an cdv ct), osl⟩) (hcd : codeIn (Mine.H.hd.heap_1_1 P.w.params) cdv qual = true)
    (hbind : ∀ s, BindsTo s (fnOf name qual params body scope dV kV doc pm an cdv ct) ⟨args, []⟩ binds) (hs : okDef scope (binds.map (·.1)) = true)
    (walk : ∀ P' : Pt, Into P P' rest → Ok P' (envX qual scope P'.L f cdv []) k → ∀ Qf Ef, Fin P' kk rest Qf → EscI P P' env (envX qual scope P'.L f cdv []) E Ef → W P' (envX qual scope P'.L f cdv []) (fun y => binds.reverse.lookup y) (Lx c y ++ []) body Qf Ef) : CallW P (Lx c y ++ rest) (.ref f) args kk E :=
  call_def (Lx c y) binds O (fun _ _ H => rest_out H.N hr) ho hcd hbind hs walk
theorem isDigit_p (O : Ok P env (k + 1)) : ∀ v, I i v → CallP P l (.ref 189) [v] (Bp (isDigI i = true)) := by
  rintro _ ⟨t, rfl⟩
  refine' call_pure [(Str.ofString "sign", .int i t)] O ?k1 ?k2 ?k3 ?k4 ?_
  walk_at "sides"
  intro P' J O' Qf Ef fin
  exact W.retP fin (ev_lele ev_int (Ev.i (Ev.loc rfl)) ev_int) fun v h => ⟨isDigI i, h.of (by simp [isDigI]), Iff.rfl⟩
theorem isLetter_p (O : Ok P env (k + 1)) : ∀ v, I i v → CallP P l (.ref 196) [v] (Bp (isLetI i = true)) := by
  rintro _ ⟨t, rfl⟩
  refine' call_pure [(Str.ofString "sign", .int i t)] O ?k1 ?k2 ?k3 ?k4 ?_
  walk_at "sides"
  intro P' J O' Qf Ef fin
  exact W.retP fin (ev_or (ev_lele ev_int (Ev.i (Ev.loc rfl)) ev_int) fun _ => ev_or2 (ev_lele ev_int (Ev.i (Ev.loc rfl)) ev_int) fun _ => ev_eq (Ev.i (Ev.loc rfl)) (Ev.gi O' gi_UNDERSCORE)) fun v h => ⟨isLetI i, h.of (by simp [isLetI]), Iff.rfl⟩
theorem isBlank_p (O : Ok P env (k + 1)) : ∀ v, I i v → CallP P l (.ref 210) [v] (Bp (isBlkI i = true)) := by
  rintro _ ⟨t, rfl⟩
  refine' call_pure [(Str.ofString "sign", .int i t)] O ?k1 ?k2 ?k3 ?k4 ?_
  walk_at "sides"
  intro P' J O' Qf Ef fin
  exact W.retP fin (ev_or2 (ev_eq (Ev.i (Ev.loc rfl)) ev_int) fun _ => ev_lele ev_int (Ev.i (Ev.loc rfl)) ev_int) fun v h => ⟨isBlkI i, h.of (by simp [isBlkI]), Iff.rfl⟩
theorem isControl_p (O : Ok P env (k + 1)) : ∀ v, I i v → CallP P l (.ref 217) [v] (Bp (isCtlI i = true)) := by
  rintro _ ⟨t, rfl⟩
  refine' call_pure [(Str.ofString "sign", .int i t)] O ?k1 ?k2 ?k3 ?k4 ?_
  walk_at "sides"
  intro P' J O' Qf Ef fin
  exact W.retP fin (ev_or2 (ev_lelt ev_int (Ev.i (Ev.loc rfl)) ev_int) fun _ => ev_eq (Ev.i (Ev.loc rfl)) ev_int) fun v h => ⟨isCtlI i, h.of (by simp [isCtlI]), Iff.rfl⟩
theorem move_w (O : Ok P env (k + 1)) (hr : RestOK c rest) (I : Inv c y (a :: r) buf) (h : ∀ y', Inv c y' r buf → y'.ln = y.ln → kk .none (Lx c y' ++ rest)) : CallW P (Lx c y ++ rest) (.ref 322) [.ref c.x] kk E := by
  refine' lex_def [(Str.ofString "self", .ref c.x)] O hr ?k1 ?k2 ?k3 ?k4 ?_
  walk_at "sides"
  intro P' J O' Qf Ef fin esc
  have hat := I.at_lt
  have hsz := I.sz
  refine W.augA O' at_at rfl rfl ev_int (fun t => setL_at O' RestOK.nil) fun t => ?_
  refine W.setI rfl (ev_if (p := y.at_ + 1 < c.tx.length) (by walk_at "et") (fun hp => Ev.ieq (by walk_at "evi") (I.nx.1 hp)) (fun hp => Ev.ieq (by walk_at "evi") (I.nx.2 hp))) (fun t => setL_sign O' RestOK.nil) fun t => ?_
  exact W.done fin (h _ (I.move rfl) rfl)
end
end
section
set_option maxHeartbeats 2000000
section
variable {P : Pt} {env : Env} {m : Mp} {l : Ld} {e e1 a b : Expr} {es : List Expr} {i j n : Int} {nz : List Int} {pos p1 : Pos}
theorem evsI0 : Evs P env m l [] (fun vs => IntsAre vs []) := fun hp tk pos H Q E hQ => evs_nil hp tk pos H Q E fun vs h' tk' hv H' => hQ vs h' tk' (by subst hv; exact .nil) H'
theorem evsI (h1 : Ev P env m l e (I i)) (h2 : Evs P env m l es (fun vs => IntsAre vs nz)) (hz : okEs (e :: es) = true := by rfl) : Evs P env m l (e :: es) (fun vs => IntsAre vs (i :: nz)) :=
  fun hp tk pos H Q E hQ => evs_cons h1 h2 (star1 hz) hp tk pos H Q E fun vs h' tk' ⟨v, us, e, ⟨t, q⟩, hu⟩ H' => hQ vs h' tk' (by subst e q; exact .cons _ _ hu) H'
theorem et_in {k : Nat} (h1 : Ev P env m l e1 (I n)) (h2 : Evs P env m l es (fun vs => IntsAre vs nz)) (hz : nz.length ≤ 100 := by decide) : ET P env m l (.Compare e1 [.In] [.Tuple es k p1] pos) (n ∈ nz) := et_intup h1 h2 hz fun _ h => h.length
theorem ev_in {k : Nat} (h1 : Ev P env m l e1 (I n)) (h2 : Evs P env m l es (fun vs => IntsAre vs nz)) (hz : nz.length ≤ 100 := by decide) : Ev P env m l (.Compare e1 [.In] [.Tuple es k p1] pos) (Bp (n ∈ nz)) := fun hp tk H Q E hQ =>
  wpAny_Compare1 (h1 hp tk H _ _ fun v ha ta ⟨t, q⟩ Ha => by
    subst q
    refine ew_tuple (kk := fun v l' => ∃ D vs, v = .ref D ∧ l' = (D, tupO vs) :: l ∧ IntsAre vs nz) h2 (fun vs hv => by rw [hv.length]; exact hz) (fun vs D hv _ => ⟨D, vs, rfl, rfl, hv⟩) ha ta Ha _ _ fun v l' hb tb hv Hb => ?_
    obtain ⟨D, vs, rfl, rfl, hv⟩ := hv
    exact in_tup2 (u := 0) (i := 0) (j := 0) (t := 0) (News.isTup Hb.N (.head _)) hv fun c hc => hQ _ hb tb ⟨c, rfl, hc⟩ (Hb.sub fun q hq => .tail _ hq)) (by rfl)
end
section
variable {P : Pt} {env : Env} {k : Nat} {E : Value → Shared → Prop} {c : LC} {y : LD} {l rest : Ld} {kk : Value → Ld → Prop} {a : UInt8} {r buf : List UInt8} {i : Int}
theorem isNewline_p (O : Ok P env (k + 1)) : ∀ v, I i v → CallP P l (.ref 224) [v] (Bp (isNlI i = true)) := by
  rintro _ ⟨t, rfl⟩
  refine' call_pure [(Str.ofString "sign", .int i t)] O ?k1 ?k2 ?k3 ?k4 ?_
  walk_at "sides"
  intro P' J O' Qf Ef fin
  exact W.retP fin (ev_in (Ev.i (Ev.loc rfl)) (evsI (Ev.gi O' gi_NEWLINE) (evsI (Ev.gi O' gi_RETURN) evsI0))) fun v h => ⟨isNlI i, h.of (by simp [isNlI]), Iff.rfl⟩
theorem isName_p (O : Ok P env (k + 2)) : ∀ v, I i v → CallP P l (.ref 203) [v] (Bp (isNamI i = true)) := by
  rintro _ ⟨t, rfl⟩
  refine' call_pure [(Str.ofString "sign", .int i t)] O ?k1 ?k2 ?k3 ?k4 ?_
  walk_at "sides"
  intro P' J O' Qf Ef fin
  exact W.retP fin (ev_or2 (ev_call1 fn_is_letter O' (Ev.i (Ev.loc rfl)) (isLetter_p O')) fun _ => ev_call1 fn_is_digit O' (Ev.i (Ev.loc rfl)) (isDigit_p O')) fun v h => ⟨isNamI i, h.of (by simp [isNamI]), Iff.rfl⟩
theorem behind_w (O : Ok P env (k + 1)) (hr : RestOK c rest) (I : Inv c y (a :: r) buf) (h : ∀ t, kk (.int (sgnL r) t) (Lx c y ++ rest)) : CallW P (Lx c y ++ rest) (.ref 378) [.ref c.x] kk E := by
  refine' lex_def [(Str.ofString "self", .ref c.x)] O hr ?k1 ?k2 ?k3 ?k4 ?_
  walk_at "sides"
  intro P' J O' Qf Ef fin esc
  have hat := I.at_lt
  have hsz := I.sz
  exact W.retI fin.r (ev_if (p := y.at_ + 1 < c.tx.length) (by walk_at "et") (fun hp => Ev.ieq (by walk_at "evi") (I.nx.1 hp)) (fun hp => Ev.ieq (by walk_at "evi") (I.nx.2 hp))) h
theorem endLine_w (O : Ok P env (k + 2)) (hr : RestOK c rest) (I : Inv c y (a :: r) buf) (h : ∀ y', Inv c y' (nlRest a r) buf → kk .none (Lx c y' ++ rest)) : CallW P (Lx c y ++ rest) (.ref 357) [.ref c.x] kk E := by
  refine' lex_def [(Str.ofString "self", .ref c.x)] O hr ?k1 ?k2 ?k3 ?k4 ?_
  walk_at "sides"
  intro P' J O' Qf Ef fin esc
  have hat := I.at_lt
  have hsz := I.sz
  have hln := I.ln
  refine W.asgI (by walk_at "evi") fun t => ?_
  refine W.expr (em_meth0 mt_move O' rfl (move_w O' RestOK.nil I fun y1 I1 e1 => ?_))
  refine W.ifs (et_and2 (et_b (ev_call1 fn_is_newline O' (by walk_at "evi") (isNewline_p O'))) fun _ => by walk_at "et") (fun hp => ?_) (fun hn => ?_)
  · obtain ⟨b, r', rfl⟩ : ∃ b r', r = b :: r' := by
      cases r with
      | nil => exact absurd hp.1 (by rw [I1.sg]; decide)
      | cons b r' => exact ⟨b, r', rfl⟩
    refine W.expr (em_meth0 mt_move O' rfl (move_w O' RestOK.nil I1 fun y2 I2 e2 => ?_))
    refine W.augA O' at_line rfl rfl ev_int (fun t => setL_line O' RestOK.nil) fun t => ?_
    have IE := endLine1 (t := t) I I1 I2 e1 e2 hp.1 hp.2
    have hl2 := IE.ln
    have ha2 := IE.at_lt
    have hz2 := IE.sz
    dsimp only at hl2 ha2
    refine W.ifs (by walk_at "et") (fun hp => absurd (show (2147483645 : Int) ≤ y2.ln + 1 from hp) (by omega)) fun _ => ?_
    exact W.done fin (h _ IE)
  · refine W.augA O' at_line rfl rfl ev_int (fun t => setL_line O' RestOK.nil) fun t => ?_
    have IE := endLine2 (t := t) I I1 e1 fun q => Decidable.byContradiction fun z => hn ⟨q, z⟩
    have hl2 := IE.ln
    have ha2 := IE.at_lt
    have hz2 := IE.sz
    dsimp only at hl2 ha2
    refine W.ifs (by walk_at "et") (fun hp => absurd (show (2147483645 : Int) ≤ y1.ln + 1 from hp) (by omega)) fun _ => ?_
    exact W.done fin (h _ IE)
end
end
section
set_option maxHeartbeats 2000000
theorem upd_upd {m : Mp} {x : Str} {v u : Value} : upd (upd m x v) x u = upd m x u := by
  funext z
  show (if z = x then some u else if z = x then some v else m z) = if z = x then some u else m z
  split <;> rfl
theorem Into.stat {P P' : Pt} {rest : Ld} {c : LC} (J : Into P P' rest) (S : Stat P.prog P.w c P.g) : Stat P'.prog P'.w c P'.g := by
  rw [J.prog, J.w]
  exact S.keeps J.st
theorem evalMethA {o : Expr} {x name : Str} {p1 p2 pos : Pos} {es : List Expr} {env : Env} : eval (.Call (.Attribute (.Attribute o x p1) name p2) es [] pos) env = (do let ov ← attributeBase (.Attribute o x p1) name env (eval (.Attribute o x p1) env); PySem.standAt p2.atName; methodCall (.Attribute o x p1) name p2 pos env ov (es.length + 0) (backTo pos (starEach es env)) []) := rfl
section
variable {P : Pt} {cn x name : Str} {cs : Scope} {f : Addr} {cd : Value} {cl : List (Str × Addr)} {m : Mp} {l r : Ld} {k : Nat} {e e1 : Expr} {p1 p2 p3 pos : Pos} {c : LC} {y : LD} {kk : Value → Ld → Prop} {E : Value → Shared → Prop} {i : Int}
theorem ev_limText (O : Ok P (envX cn cs P.L f cd cl) k) (S : Stat P.prog P.w c P.g) (hm : m x = some (.ref c.x)) (hx : isL cs x = true := by rfl) : Ev P (envX cn cs P.L f cd cl) m (Lx c y ++ r) (.Attribute (.Attribute (.Name x p1) (Str.ofString "limits") p2) (Str.ofString "text") p3) (I 1000000) := fun hp tk H Q E hQ =>
  Attribute_any_ (ev_limits O hm hx hp tk H _ _ fun v h' tk' q H' => by
    subst q
    exact get_lim (s := P.S h' tk') H'.F O.X S fun t => hQ _ h' t ⟨_, rfl⟩ H')
theorem ev_limWidth (O : Ok P (envX cn cs P.L f cd cl) k) (S : Stat P.prog P.w c P.g) (hm : m x = some (.ref c.lim)) (hx : isL cs x = true := by rfl) : Ev P (envX cn cs P.L f cd cl) m l (.Attribute (.Name x p1) (Str.ofString "width") p2) (I 64) := fun hp tk H Q E hQ =>
  Attribute_any_ (Ev.loc hm hx hp tk H _ _ fun v h' tk' q H' => by
    subst q
    exact get_limW (s := P.S h' tk') H'.F O.X S fun t => hQ _ h' t ⟨_, rfl⟩ H')
theorem em_append {q buf : List UInt8} (hb : P.b = true) (O : Ok P (envX cn cs P.L f cd cl) k) (hm : m x = some (.ref c.x)) (hr : RestOK c r) (I0 : Inv c y q buf) (h1 : Ev P (envX cn cs P.L f cd cl) m (Lx c y ++ r) e1 (I i)) (h0 : 0 ≤ i ∧ i < 256) (hz : buf.length < 1000000)
    (hk : ∀ y', Inv c y' q (buf ++ [i.toNat.toUInt8]) → kk .none (Lx c y' ++ r)) (hx : isL cs x = true := by rfl) (hl : (p3.endLine == pos.line) = true := by rfl) (ho : okEs [e1] = true := by rfl) :
    Em P (envX cn cs P.L f cd cl) m (Lx c y ++ r) (.Call (.Attribute (.Attribute (.Name x p1) (Str.ofString "buffer") p2) (Str.ofString "append") p3) [e1] [] pos) kk E := fun hp tk H Q hQ => by
  rw [hb]
  refine bCallMeth (ev_buffer O hm hx hp tk H _ _ fun v' h' tk' hv' H' => ?_) hl (meth_form ho) evalMethA rfl
  subst hv'
  refine getMethod_ba (s := P.S h' tk') (lx_ba H') ?_
  refine bCallWithP (first := [.ref y.b]) (backTo_any ho) rfl (evs1 h1 ho h' tk' pos H' _ _ fun vs h2 t2 ⟨v, e, t, q⟩ H2 => ?_)
  subst e q
  exact wpB.of_n (append_lx (s := P.S h2 t2) H2.F H2.N hr I0 h0 hz fun y' h3 I3 F3 N3 => hQ _ _ h3 t2 (hk y' I3) ⟨F3, N3⟩)
end
section
variable {P : Pt} {env : Env} {k : Nat} {E : Value → Shared → Prop} {c : LC} {y : LD} {l rest : Ld} {kk : Value → Ld → Prop} {a : UInt8} {r buf : List UInt8} {i : Int}
theorem keep_w (hb : P.b = true) (O : Ok P env (k + 1)) (hr : RestOK c rest) (S : Stat P.prog P.w c P.g) (I0 : Inv c y r buf) (hz : buf.length < 500000) (hi : 0 ≤ i ∧ i < 256) (h : ∀ y', Inv c y' r (buf ++ [i.toNat.toUInt8]) → kk .none (Lx c y' ++ rest)) :
    ∀ v, I i v → CallW P (Lx c y ++ rest) (.ref 329) [.ref c.x, v] kk E := by
  rintro _ ⟨t, rfl⟩
  refine' lex_def [(Str.ofString "self", .ref c.x), (Str.ofString "sign", .int i t)] O hr ?k1 ?k2 ?k3 ?k4 ?_
  walk_at "sides"
  intro P' J O' Qf Ef fin esc
  have hbz : y.buf.length < 500000 := by rw [I0.buf]; exact hz
  refine W.ifs (et_ge (ev_lenbuf O' (ev_buffer O' rfl) (by omega)) (ev_limText O' (J.stat S) rfl)) (fun hp => absurd hp (by omega)) fun _ => ?_
  exact W.expr (em_append (J.b.trans hb) O' rfl RestOK.nil I0 (Ev.i (Ev.loc rfl)) hi (by omega) fun y' I' => W.done fin (h y' I'))
theorem keepMove_w (hb : P.b = true) (O : Ok P env (k + 2)) (hr : RestOK c rest) (S : Stat P.prog P.w c P.g) (I0 : Inv c y (a :: r) buf) (hz : buf.length < 500000) (h : ∀ y', Inv c y' r (buf ++ [a]) → kk .none (Lx c y' ++ rest)) :
    CallW P (Lx c y ++ rest) (.ref 336) [.ref c.x] kk E := by
  refine' lex_def [(Str.ofString "self", .ref c.x)] O hr ?k1 ?k2 ?k3 ?k4 ?_
  walk_at "sides"
  intro P' J O' Qf Ef fin esc
  refine W.expr (em_meth1 mt_keep O' rfl (ev_sign O' rfl) (keep_w (J.b.trans hb) O' RestOK.nil (J.stat S) I0 hz I0.sgr fun y1 I1 => ?_))
  rw [I0.sga] at I1
  exact W.expr (em_meth0 mt_move O' rfl (move_w O' RestOK.nil I1 fun y2 I2 _ => W.done fin (h y2 I2)))
theorem level_w (hb : P.b = true) (O : Ok P env (k + 3)) (hr : RestOK c rest) (S : Stat P.prog P.w c P.g) (I0 : Inv c y (a :: r) buf) (hz : buf.length + r.length < 400000)
    (h : ∀ y' t, Inv c y' (eqs r).2 (buf ++ a :: List.replicate (eqs r).1 61) → kk (.int (if sgnL (eqs r).2 = a.toNat then (eqs r).1 else - (eqs r).1 - 1) t) (Lx c y' ++ rest)) :
    CallW P (Lx c y ++ rest) (.ref 427) [.ref c.x] kk E := by
  refine' lex_def [(Str.ofString "self", .ref c.x)] O hr ?k1 ?k2 ?k3 ?k4 ?_
  walk_at "sides"
  intro P' J O' Qf Ef fin esc
  have S' := J.stat S
  refine W.asgI (ev_sign O' rfl) fun t0 => ?_
  refine W.asgI ev_int fun t1 => ?_
  refine W.expr (em_meth0 mt_keep_and_move O' rfl (keepMove_w (J.b.trans hb) O' RestOK.nil S' I0 (by omega) fun y1 I1 => ?_))
  refine W.whl4 (fun (y : LD) (s : List UInt8) (j : Nat) (_ : Tok) => An4 (Inv c y s (buf ++ a :: List.replicate j 61)) (j + (eqs s).1 = (eqs r).1) ((eqs s).2 = (eqs r).2) (j + s.length = r.length)) (fun _ s _ _ => s.length)
    (fun _ _ j t => upd (upd (fun y => List.lookup y [(Str.ofString "self", Value.ref c.x)].reverse) (Str.ofString "bracket") (.int y.sg t0)) (Str.ofString "many") (.int j t)) (fun y _ _ _ => Lx c y ++ []) O' ?_ y1 r 0 t1 ⟨I1, Nat.zero_add _, rfl, Nat.zero_add _⟩
  intro y2 s j t2 ⟨I2, e1, e2, e3⟩ Qb Eb lp nx
  refine EtM.of (p := y2.sg = 61) (by walk_at "et") (fun hp => ?_) fun hp => ?_
  · obtain ⟨s', rfl⟩ : ∃ s', s = 61 :: s' := by
      cases s with
      | nil => exact absurd (I2.sg.symm.trans hp) (by decide)
      | cons b s' => exact ⟨s', by rw [sg_eq 61 (show y2.sg = b.toNat from I2.sg) hp]⟩
    refine W.expr (em_meth0 mt_keep_and_move O' rfl (keepMove_w (J.b.trans hb) O' RestOK.nil S' I2 (by simp at e3 ⊢; omega) fun y3 I3 => ?_))
    refine W.augI rfl ev_int fun t3 => ?_
    rw [eqs_yes] at e1 e2
    refine W.map upd_upd (nx y3 s' (j + 1) t3 ⟨?_, by dsimp only at e1 ⊢; omega, e2, by simp at e3 ⊢; omega⟩ (by simp))
    show Inv c y3 s' (buf ++ a :: List.replicate (j + 1) 61)
    rw [List.replicate_succ']
    simpa using I3
  · have en : eqs s = (0, s) := eqs_no fun q => hp (I2.sg.trans q)
    rw [en] at e1 e2
    dsimp only at e1 e2
    subst e2
    have ej : j = (eqs r).1 := by omega
    subst ej
    have hs : (y2.sg = y.sg) = (sgnL (eqs r).2 = a.toNat) := by rw [I2.sg, I0.sg]; rfl
    exact W.retI fin.r (ev_if (p := y2.sg = y.sg) (by walk_at "et") (fun hp => Ev.ieq (Ev.i (Ev.loc rfl)) (if_pos (hs ▸ hp)).symm) fun hp => Ev.ieq (i := - ((eqs r).1 : Int) - 1) (by walk_at "evi") (if_neg (hs ▸ hp)).symm) fun t => h y2 t I2
end
end
section
set_option maxHeartbeats 2000000
def Ys (n : Nat) (v : Value) : Prop := ∃ b t, v = .bytes b t ∧ b.size ≤ n
theorem bn_abs {w : World} : Bn w (Str.ofString "abs") (.builtin "abs") := ⟨by k_is, by boot_fast, by decide, rfl⟩
section
variable {P : Pt} {cn x z name : Str} {cs : Scope} {f : Addr} {cd : Value} {cl : List (Str × Addr)} {m : Mp} {l l0 : Ld} {k : Nat} {e e1 e2 : Expr} {p1 p2 p3 pos : Pos} {kk : Value → Ld → Prop} {Q : Flow → Shared → Prop} {E : Value → Shared → Prop} {rest : List Stmt} {i j : Int} {t : Tok} {q : Addr} {vs : List Value} {cp : Nat} {id : String} {ns : List Int} {env : Env} {R : Value → Prop}
theorem ev_abs (O : Ok P (envX cn cs P.L f cd cl) k) (h1 : Ev P (envX cn cs P.L f cd cl) m l e1 (I i)) (h0 : 0 ≤ i) (hx : isG cs (Str.ofString "abs") = true := by rfl) (hz : okEs [e1] = true := by rfl) : Ev P (envX cn cs P.L f cd cl) m l (.Call (.Name (Str.ofString "abs") p1) [e1] [] pos) (I i) :=
  ev_blt1 bn_abs O h1 (fun u ⟨t, q⟩ m' h tk H Q E hQ => by
    subst q
    exact call_abs_int (s := P.S h tk) fun u tk' => hQ _ h tk' ⟨u, by rw [if_neg (by (first | lia | omega))]⟩ H) hx hz
theorem ew_pairnew {n : Nat} (h1 : Ev P env m l e1 (I i)) (hk : ∀ t q D, kk (.ref D) ((D, tupO [.int i t, .ref q]) :: (q, listOf #[] 0) :: l)) (hz : okEs [e1, .List [] p1] = true := by rfl) : Ew P env m l (.Tuple [e1, .List [] p1] n pos) kk := fun hp tk H Q E hQ =>
  Tuple_ (args_cons (h1 hp tk H _ _ fun v h' tk' ⟨t, q⟩ H' => args_cons (List_ (args_nil (newList_K (s := P.S h' tk') H'.F H'.N (fun q' h2 F2 N2 _ => args_nil (by
    subst q
    exact kup_newTuple (s := P.S h2 tk') F2 N2 (fun D h3 F3 N3 _ => hQ _ _ h3 tk' (hk t q' D) ⟨F3, N3⟩) (by rw [sizeLine_eq]; exact Nat.le_of_ble_eq_true rfl))) (by rw [sizeLine_eq]; decide))))) (star1 hz))
theorem W.lmeth {es : List Expr} {Rs : List Value → Prop} (hm : m x = some (.ref q)) (hq : (q, listOf vs.toArray cp) ∈ l) (hs : Slot "list" name id) (ht : typeOf (Value.builtin id) = pure (Value.type "method_descriptor")) (kp : keeperOf (.builtin id) = pure .machine) (ha : Evs P (envX cn cs P.L f cd cl) m l es Rs)
    (hc : ∀ as, Rs as → CallX P l (.builtin id) (.ref q :: as) (kE P (envX cn cs P.L f cd cl) m rest Q E)) (hx : isL cs x = true := by rfl) (hz : okEs es = true := by rfl) (hl : (p2.endLine == p3.line) = true := by rfl) (hi : interactive (envX cn cs P.L f cd cl) = false := by rfl) (hw : swapsWith (.Call (.Attribute (.Name x p1) name p2) es [] p3) none pos.line (envX cn cs P.L f cd cl) = pure false := by rfl) :
    W P (envX cn cs P.L f cd cl) m l (.Expr (.Call (.Attribute (.Name x p1) name p2) es [] p3) pos :: rest) Q E := by
  refine W.expr (fun hp tk H Q hQ => ?_) hi hw
  refine bCallMeth (Ev.loc hm hx hp tk H _ _ fun v' h' tk' hv' H' => ?_) hl (meth_form hz) evalMeth baseName
  subst hv'
  refine kl_method (s := P.S h' tk') H'.N hq hs ht ?_
  exact bCallWithP (first := [.ref q]) (backTo_any hz) kp (ha h' tk' p3 H' _ _ fun vs h2 t2 hv H2 => (hc vs hv).w m h2 t2 H2 Q hQ)
theorem W.append (hm : m x = some (.ref q)) (h1 : Ev P (envX cn cs P.L f cd cl) m ((q, listOf vs.toArray cp) :: l0) e1 R) (hf : ∀ p ∈ l0, p.1 ≠ q) (hsz : vs.length ≤ 100000) (h : ∀ v, R v → W P (envX cn cs P.L f cd cl) m ((q, listOf (vs ++ [v]).toArray (cp + 1)) :: l0) rest Q E) (hx : isL cs x = true := by rfl) (hz : okEs [e1] = true := by rfl)
    (hl : (p2.endLine == p3.line) = true := by rfl) (hi : interactive (envX cn cs P.L f cd cl) = false := by rfl) (hw : swapsWith (.Call (.Attribute (.Name x p1) (Str.ofString "append") p2) [e1] [] p3) none pos.line (envX cn cs P.L f cd cl) = pure false := by rfl) :
    W P (envX cn cs P.L f cd cl) m ((q, listOf vs.toArray cp) :: l0) (.Expr (.Call (.Attribute (.Name x p1) (Str.ofString "append") p2) [e1] [] p3) pos :: rest) Q E :=
  W.lmeth hm (.head _) F.slot_list_append F.type_list_append rfl (evs1 h1 hz) (fun as ⟨v, e, hv⟩ m' hp tk H Q' E' hQ => by
    subst e
    refine append_K (s := P.S hp tk) H.F H.N (.head hf) (fun h' F' N' => hQ .none _ h' tk (h v hv) ⟨F', ?_⟩) (by rw [sizeLine_eq, List.size_toArray]; (first | lia | omega))
    rw [List.push_toArray] at N'
    exact N') hx hz hl hi hw
theorem W.reverse (hm : m x = some (.ref q)) (hf : ∀ p ∈ l0, p.1 ≠ q) (hsz : vs.length ≤ 100000) (h : W P (envX cn cs P.L f cd cl) m ((q, listOf vs.reverse.toArray cp) :: l0) rest Q E) (hx : isL cs x = true := by rfl)
    (hl : (p2.endLine == p3.line) = true := by rfl) (hi : interactive (envX cn cs P.L f cd cl) = false := by rfl) (hw : swapsWith (.Call (.Attribute (.Name x p1) (Str.ofString "reverse") p2) [] [] p3) none pos.line (envX cn cs P.L f cd cl) = pure false := by rfl) :
    W P (envX cn cs P.L f cd cl) m ((q, listOf vs.toArray cp) :: l0) (.Expr (.Call (.Attribute (.Name x p1) (Str.ofString "reverse") p2) [] [] p3) pos :: rest) Q E :=
  W.lmeth hm (.head _) F.slot_list_reverse F.type_list_reverse rfl evs_nil (fun as e m' hp tk H Q' E' hQ => by
    subst e
    exact kl_reverse (s := P.S hp tk) (its := vs.toArray) H.F H.N rfl (.head hf) (by rw [sizeLine_eq]; show vs.length ≤ _; (first | lia | omega)) fun h' F' N' => hQ .none _ h' tk h ⟨F', N'⟩) hx rfl hl hi hw
theorem ev_byteslist (O : Ok P (envX cn cs P.L f cd cl) k) (h1 : Ev P (envX cn cs P.L f cd cl) m l e1 (V (.ref q))) (hq : (q, listOf vs.toArray cp) ∈ l) (hi : IntsAre vs ns) (hb : ∀ n ∈ ns, 0 ≤ n ∧ n < 256) (hsz : vs.length ≤ 100000) (hx : isG cs (Str.ofString "bytes") = true := by rfl) (hz : okEs [e1] = true := by rfl) :
    Ev P (envX cn cs P.L f cd cl) m l (.Call (.Name (Str.ofString "bytes") p1) [e1] [] pos) (Y (ns.map fun n => n.toNat.toUInt8)) := ev_blt1 bn_bytes O h1 (fun u e m' h tk H Q E hQ => by
  subst e
  exact bytes_K (s := P.S h tk) H.F H.N (News.isList H.N hq) hi hb (by rw [sizeLine_eq]; (first | lia | omega)) O.C.handled fun h' t k' F' N' _ => hQ _ h' k' ⟨t, rfl⟩ ⟨F', N'⟩) hx hz
end
section
variable {P : Pt} {env : Env} {k : Nat} {l : Ld} {i : Int}
theorem ints_snoc {vs : List Value} {ns : List Int} {n : Int} {t : Tok} (h : IntsAre vs ns) : IntsAre (vs ++ [.int n t]) (ns ++ [n]) := by
  induction h with
  | nil => exact .cons _ _ .nil
  | cons n t _ ih => exact .cons n t ih
theorem ints_rev {vs : List Value} {ns : List Int} (h : IntsAre vs ns) : IntsAre vs.reverse ns.reverse := by
  induction h with
  | nil => exact .nil
  | cons n t _ ih => rw [List.reverse_cons, List.reverse_cons]; exact ints_snoc ih
theorem numText_p (O : Ok P env (k + 1)) (hi : 0 ≤ i ∧ i ≤ 99) : ∀ v, I i v → CallP P l (.ref 152) [v] (Ys 10) := by
  rintro _ ⟨t, rfl⟩
  refine' call_pure [(Str.ofString "n", .int i t)] O ?k1 ?k2 ?k3 ?k4 ?_
  walk_at "sides"
  intro P' J O' Qf Ef fin
  refine W.asg2s O' (ew_pairnew (ev_abs O' (Ev.i (Ev.loc rfl)) hi.1) fun t0 q D => ⟨D, _, _, rfl, .head _, ?_⟩)
  refine W.perm [(q, listOf #[] 0)] (fun p hp => by rw [List.mem_singleton.mp hp]; exact .tail _ (.head _)) ?_
  refine (W.whl4 (fun (v : Int) (_ : Tok) (vs : List Value) (_ : Nat) => ∃ ns, An4 (IntsAre vs ns) (∀ n ∈ ns, 0 ≤ n ∧ n < 256) (ns.length + (if v ≤ 9 then 0 else 1) ≤ 1) (0 ≤ v ∧ v ≤ 99)) (fun v _ _ _ => v.toNat)
    (fun v u _ _ => upd (upd (fun y => List.lookup y [(Str.ofString "n", Value.int i t)].reverse) (Str.ofString "found") (.ref q)) (Str.ofString "left") (.int v u)) (fun _ _ vs cp => [(q, listOf vs.toArray cp)]) O' ?_ i t0 [] 0 ⟨[], .nil, (fun _ h => nomatch h), by split <;> simp, hi⟩)
  intro v u vs cp ⟨ns, hv, hn, hl, h0⟩ Qb Eb lp nx
  have hlen := hv.length
  refine EtM.of (p := 9 < v) (by walk_at "et") (fun hp => ?_) fun hp => ?_
  · rw [if_neg (by (first | lia | omega))] at hl
    have e1 : v.fdiv 10 = v / 10 := Int.fdiv_eq_ediv_of_nonneg _ (by decide)
    have e2 : v.fmod 10 = v % 10 := Int.fmod_eq_emod_of_nonneg _ (by decide)
    refine W.append rfl (ev_add ev_int (ev_bin (Ev.i (Ev.loc rfl)) ev_int (bin_mod (by decide)))) (fun _ h => nomatch h) (by (first | lia | omega)) fun d ⟨td, ed⟩ => ?_
    subst ed
    refine W.asgI (ev_bin (Ev.i (Ev.loc rfl)) ev_int (bin_fdiv (by decide) (PyProof.noPylong_small (by decide)))) fun t2 => ?_
    refine W.map upd_upd (nx _ t2 _ (cp + 1) ⟨ns ++ [48 + v.fmod 10], ints_snoc hv, fun n hn' => ?_, ?_, by (first | lia | omega)⟩ (by (first | lia | omega)))
    · rcases List.mem_append.mp hn' with h | h
      · exact hn n h
      · rw [List.mem_singleton.mp h]; (first | lia | omega)
    · rw [if_pos (by (first | lia | omega)), List.length_append, List.length_singleton]; (first | lia | omega)
  · refine W.append rfl (ev_add ev_int (Ev.i (Ev.loc rfl))) (fun _ h => nomatch h) (by (first | lia | omega)) fun d ⟨td, ed⟩ => ?_
    subst ed
    refine W.ifs (by walk_at "et") (fun hp => absurd hp (by (first | lia | omega))) fun _ => ?_
    refine W.reverse rfl (fun _ h => nomatch h) (by rw [List.length_append]; simp; (first | lia | omega)) ?_
    refine W.retP fin (ev_byteslist O' (Ev.loc rfl) (.head _) (ints_rev (ints_snoc hv)) (fun n hn' => ?_) (by simp; (first | lia | omega))) fun w ⟨tw, ew⟩ => ⟨_, tw, ew, ?_⟩
    · rw [List.mem_reverse] at hn'
      rcases List.mem_append.mp hn' with h | h
      · exact hn n h
      · rw [List.mem_singleton.mp h]; (first | lia | omega)
    · simp; (first | lia | omega)
end
end
section
set_option maxHeartbeats 2000000
def CText (x : List UInt8) (v : Value) : Prop := ∃ j : Nat, j ≤ x.length ∧ (j < x.length → x.getD j 0 = 0) ∧ Y (x.take j) v
theorem Y.of_eq {a b : List UInt8} {v : Value} (e : a = b) (h : Y a v) : Y b v := e ▸ h
theorem bn_isi {w : World} : Bn w (Str.ofString "isinstance") (.builtin "isinstance") := ⟨by k_is, by boot_fast, by decide, rfl⟩
theorem bn_int {w : World} : Bn w (Str.ofString "int") (.type "int") := ⟨by k_is, by boot_fast, by decide, rfl⟩
theorem bn_bool {w : World} : Bn w (Str.ofString "bool") (.type "bool") := ⟨by k_is, by boot_fast, by decide, rfl⟩
section
variable {P : Pt} {cn x z name : Str} {cs : Scope} {f : Addr} {cd v : Value} {cl : List (Str × Addr)} {m : Mp} {l l0 : Ld} {k : Nat} {e e1 e2 : Expr} {p1 p2 p3 pos : Pos} {R R1 R2 : Value → Prop} {i : Int} {T : String} {b : Bool}
theorem ev_blt2 (Bx : Bn P.w x v) (O : Ok P (envX cn cs P.L f cd cl) k) (h1 : Ev P (envX cn cs P.L f cd cl) m l e1 R1) (h2 : Ev P (envX cn cs P.L f cd cl) m l e2 R2) (hc : ∀ u t, R1 u → R2 t → CallP P l v [u, t] R) (hx : isG cs x = true := by rfl) (hz : okEs [e1, e2] = true := by rfl) : Ev P (envX cn cs P.L f cd cl) m l (.Call (.Name x p1) [e1, e2] [] pos) R := fun hp tk H Q E hQ => by
  refine Call_ (Ev.blt Bx O hx hp tk H _ _ fun v' h' tk' hv' H' => ?_) evalCall
  subst hv'
  exact wpB.to_any (bCallWithP (b := false) (first := []) (backTo_any hz) Bx.kp (evs2 h1 h2 hz h' tk' pos H' _ _ fun vs h2 t2 ⟨v, u, e, hv, hu⟩ H2 => wpB.of_any (e ▸ hc v u hv hu m h2 t2 H2 Q E hQ)))
theorem isi_bytes : ∀ u t, I i u → V (.type "bytes") t → CallP P l (.builtin "isinstance") [u, t] (Bp False) := by
  rintro _ _ ⟨t, rfl⟩ rfl m hp tk H Q E hQ
  walk1
  exact hQ _ hp _ ⟨false, rfl, by simp⟩ H
theorem isi_int : ∀ u t, I i u → V (.type "int") t → CallP P l (.builtin "isinstance") [u, t] (Bp True) := by
  rintro _ _ ⟨t, rfl⟩ rfl m hp tk H Q E hQ
  walk1
  exact hQ _ hp _ ⟨true, rfl, by simp⟩ H
theorem isi_bool : ∀ u t, I i u → V (.type "bool") t → CallP P l (.builtin "isinstance") [u, t] (Bp False) := by
  rintro _ _ ⟨t, rfl⟩ rfl m hp tk H Q E hQ
  walk1
  exact hQ _ hp _ ⟨false, rfl, by simp⟩ H
end
section
variable {P : Pt} {env : Env} {m : Mp} {l : Ld} {k : Nat} {i : Int} {x : List UInt8} {e e1 e2 : Expr} {pos : Pos}
theorem ev_not {p : Prop} (h : Ev P env m l e (Bp p)) : Ev P env m l (.UnaryOp .Not e pos) (Bp (¬ p)) := fun hp tk H Q E hQ =>
  UnaryOp_ (h hp tk H _ _ fun v h' tk' ⟨b, q, hb⟩ H' => by
    subst q
    exact not_of (wpAny_truthy_bool (hQ _ h' tk' ⟨!b, rfl, by cases b <;> simp_all⟩ H')))
theorem Yn.add {n1 n2 : Nat} (hz : n1 + n2 ≤ 100000) (h1 : Ev P env m l e1 (Ys n1)) (h2 : Ev P env m l e2 (Ys n2)) : Ev P env m l (.BinOp e1 .Add e2 pos) (Ys (n1 + n2)) := ev_bin h1 h2 (by
  rintro _ _ ⟨b, t, rfl, hb⟩ ⟨d, u, rfl, hd⟩ hp tk Q E hQ
  exact KBy.add_bytes (s := P.S hp tk) (by omega) fun t' k => hQ _ k ⟨_, t', rfl, by simp; omega⟩)
theorem Ev.ys {n : Nat} (h : Ev P env m l e (Y x)) (hn : x.length ≤ n) : Ev P env m l e (Ys n) := h.mono fun _ ⟨t, q⟩ => ⟨_, t, q, hn⟩
theorem isNum_p (O : Ok P env (k + 1)) : ∀ v, I i v → CallP P l (.ref 96) [v] (Bp True) := by
  rintro _ ⟨t, rfl⟩
  refine' call_pure [(Str.ofString "value", .int i t)] O ?k1 ?k2 ?k3 ?k4 ?_
  walk_at "sides"
  intro P' J O' Qf Ef fin
  exact W.retP fin (ev_and (ev_blt2 bn_isi O' (Ev.i (Ev.loc rfl)) (Ev.blt bn_int O' rfl) isi_int) fun _ => ev_not (ev_blt2 bn_isi O' (Ev.i (Ev.loc rfl)) (Ev.blt bn_bool O' rfl) isi_bool)) fun v ⟨b, q, hb⟩ => ⟨b, q, by rw [hb]; simp⟩
theorem toText_p (O : Ok P env (k + 2)) (hi : 0 ≤ i ∧ i ≤ 99) : ∀ v, I i v → CallP P l (.ref 159) [v] (Ys 10) := by
  rintro _ ⟨t, rfl⟩
  refine' call_pure [(Str.ofString "value", .int i t)] O ?k1 ?k2 ?k3 ?k4 ?_
  walk_at "sides"
  intro P' J O' Qf Ef fin
  refine W.ifs (et_b (ev_blt2 bn_isi O' (Ev.i (Ev.loc rfl)) (Ev.blt bn_bytes O' rfl) isi_bytes)) (fun h => h.elim) fun _ => ?_
  refine W.ifs (et_b (ev_call1 fn_is_number O' (Ev.i (Ev.loc rfl)) (isNum_p O'))) (fun _ => ?_) fun h => absurd trivial h
  exact W.retP' fin (ev_call1 fn_number_text O' (Ev.i (Ev.loc rfl)) (numText_p O' hi))
theorem CText.ys {v : Value} (h : CText x v) : Ys x.length v := by
  obtain ⟨j, hj, _, t, rfl⟩ := h
  exact ⟨_, t, rfl, by rw [List.size_toArray, List.length_take]; exact Nat.min_le_right _ _⟩
theorem cTextS_p (O : Ok P env (k + 1)) (hz : x.length ≤ 1000) : ∀ v, Y x v → CallP P l (.ref 166) [v] (CText x) := by
  rintro _ ⟨t, rfl⟩
  refine' call_pure [(Str.ofString "text", .bytes x.toArray t)] O ?k1 ?k2 ?k3 ?k4 ?_
  walk_at "sides"
  intro P' J O' Qf Ef fin
  refine W.asgI ev_int fun t0 => ?_
  refine W.whl2 (fun (j : Nat) (_ : Tok) => j ≤ x.length) (fun j _ => x.length - j) (fun j u => upd (fun y => List.lookup y [(Str.ofString "text", Value.bytes x.toArray t)].reverse) (Str.ofString "at") (.int j u)) (fun _ _ => []) O' ?_ 0 t0 (Nat.zero_le _)
  intro j u hj Qb Eb lp nx
  refine EtM.of (et_and2 (p := (j : Int) < x.length) (by walk_at "et") fun _ => by walk_at "et") (fun hp => ?_) fun hp => ?_
  · have := hp.1
    refine W.asgI (by walk_at "evi") fun t1 => ?_
    exact W.map upd_upd (nx (j + 1) t1 (by omega) (by omega))
  · refine W.retP fin (ev_slice (by walk_at "evy") part0 (part1 (by walk_at "evi")) (by omega)) fun v h => ⟨j, hj, fun hlt => ?_, Y.of_eq (cut_pre (Int.natCast_nonneg j) (Int.ofNat_le.mpr hj)) h⟩
    exact UInt8.toNat_inj.mp (Int.ofNat.inj (Decidable.not_not.mp fun q => hp ⟨by omega, q⟩))
theorem cText_p (O : Ok P env (k + 1)) (hz : x.length ≤ 1000) : ∀ v, Y x v → CallP P l (.ref 166) [v] (Ys x.length) := fun v hv m hp tk H Q E hQ => cTextS_p O hz v hv m hp tk H Q E fun v' h' tk' hv' H' => hQ v' h' tk' hv'.ys H'
end
end
section
set_option maxHeartbeats 2000000
theorem res_list {w : World} {h : Heap} (X : (Mine.H.hd.heap_1_1 w.params).In h) : h.IsList 181 (valsOf resList 440).toArray :=
  ⟨_, X _ _ (by k_is), rfl, _, rfl⟩
theorem oth_list {w : World} {h : Heap} (X : (Mine.H.hd.heap_1_1 w.params).In h) : h.IsList 182 (valsOf othList 482).toArray :=
  ⟨_, X _ _ (by k_is), rfl, _, rfl⟩
theorem gl_RESERVED {w : World} : nsIn (Mine.H.hd.heap_1_1 w.params) mainGlobals (Str.ofString "RESERVED") = some (some (.ref 181)) := by k_is
theorem gl_OTHER {w : World} : nsIn (Mine.H.hd.heap_1_1 w.params) mainGlobals (Str.ofString "OTHER_TEXTS") = some (some (.ref 182)) := by k_is
section
variable {P : Pt} {cn x z name : Str} {cs : Scope} {f fm : Addr} {cd v : Value} {cl : List (Str × Addr)} {m : Mp} {l l0 r : Ld} {k : Nat} {e e1 e2 : Expr} {p1 p2 p3 pos : Pos} {R R1 R2 : Value → Prop} {i : Int} {c : LC} {y : LD} {Rs : List Value → Prop} {es : List Expr} {env : Env} {args : List Value} {E : Value → Shared → Prop} {kk : Value → Ld → Prop}
theorem CallP.of {f : Value} (h : ∀ E, CallW { P with b := false } l f args (fun v l' => R v ∧ l' = l) E) : CallP P l f args R := fun m hp tk H Q E hQ =>
  (h E m hp tk ⟨H.F, H.N⟩ Q fun v l' h' tk' hv H' => hQ v h' tk' hv.1 (hv.2 ▸ ⟨H'.F, H'.N⟩)).to_any
theorem Ok.off (O : Ok P env k) : Ok { P with b := false } env k := ⟨O.C, O.X, O.T⟩
theorem ev_meth1 (Mx : Mt P.w name fm) (O : Ok P (envX cn cs P.L f cd cl) k) (hm : m x = some (.ref c.x)) (h1 : Ev P (envX cn cs P.L f cd cl) m (Lx c y ++ r) e1 R1) (hc : ∀ u, R1 u → CallP P (Lx c y ++ r) (.ref fm) [.ref c.x, u] R) (hx : isL cs x = true := by rfl) (hz : okEs [e1] = true := by rfl) (hl : (p2.endLine == pos.line) = true := by rfl) :
    Ev P (envX cn cs P.L f cd cl) m (Lx c y ++ r) (.Call (.Attribute (.Name x p1) name p2) [e1] [] pos) R := fun hp tk H Q E hQ => by
  refine wpB.to_any (bCallMeth (b := false) (Ev.loc hm hx hp tk H _ _ fun v' h' tk' hv' H' => ?_) hl (meth_form hz) evalMeth baseName)
  subst hv'
  refine method_inst (s := P.S h' tk') (K := (Mine.H.hd.heap_1_1 P.w.params)) (C := 465) (es := lexEnt c y) (n := c.n) H'.F O.X (lx_inst (s := P.S h' tk') H'.N) Mx.pg Mx.at_ Mx.fn (Mx.no c y) ?_
  exact bCallWith (first := [.ref c.x]) (backTo_any hz) Mx.kp (evs1 h1 hz h' tk' pos H' _ _ fun vs h2 t2 ⟨u, e, hu⟩ H2 => ⟨O.X.keeps H2.F.keep, wpB.of_any (e ▸ hc u hu m h2 t2 H2 Q E hQ)⟩)
theorem ev_byte1 (O : Ok P (envX cn cs P.L f cd cl) k) (h1 : Ev P (envX cn cs P.L f cd cl) m l e1 (I i)) (hi : 0 ≤ i ∧ i < 256) (hx : isG cs (Str.ofString "bytes") = true := by rfl) (hz : okEs [e1] = true := by rfl) :
    Ev P (envX cn cs P.L f cd cl) m l (.Call (.Name (Str.ofString "bytes") p1) [.List [e1] p2] [] pos) (Y [i.toNat.toUInt8]) := fun hp tk H Q E hQ => by
  refine Call_ (Ev.blt bn_bytes O hx hp tk H _ _ fun v' h' tk' hv' H' => ?_) evalCall
  subst hv'
  refine wpB.to_any (bCallWithP (b := false) (first := []) (backTo_any (es := [.List [e1] p2]) rfl) (bn_bytes (w := P.w)).kp ?_)
  refine args_cons (List_ (evs1 h1 hz h' tk' p2 H' _ _ fun vs h2 t2 ⟨v, e, t, q⟩ H2 => ?_))
  subst e q
  refine newList_K (s := P.S h2 t2) H2.F H2.N (fun q h3 F3 N3 _ => args_nil (wpB.of_any ?_)) (by rw [sizeLine_eq]; exact Nat.le_of_ble_eq_true rfl)
  exact bytes_K (s := P.S h3 t2) (ns := [i]) F3 N3 (News.isList N3 (.head _)) (.cons _ _ .nil) (fun n hn => by rw [List.mem_singleton.mp hn]; exact hi) (by rw [sizeLine_eq]; exact Nat.le_of_ble_eq_true rfl) O.C.handled fun h4 t4 k4 F4 N4 _ => hQ _ h4 k4 ⟨t4, rfl⟩ ⟨F4, fun q hq => N4 q (.tail _ hq)⟩
theorem ev_lenres (O : Ok P (envX cn cs P.L f cd cl) k) (hg : isG cs (Str.ofString "RESERVED") = true := by rfl) (hx : isG cs (Str.ofString "len") = true := by rfl) : Ev P (envX cn cs P.L f cd cl) m l (.Call (.Name (Str.ofString "len") p1) [.Name (Str.ofString "RESERVED") p2] [] pos) (I 21) :=
  ev_blt1 bn_len O (Ev.glob O gl_RESERVED hg) (fun u e m' h tk H Q E hQ => by
    subst e
    exact call_len_list (s := P.S h tk) (res_list (O.X.keeps H.F.keep)) (by decide) (hQ _ h _ ⟨_, rfl⟩ H)) hx rfl
theorem ev_res (O : Ok P (envX cn cs P.L f cd cl) k) (h2 : Ev P (envX cn cs P.L f cd cl) m l e2 (I i)) (h0 : 0 ≤ i) (h1 : i < 21) (hg : isG cs (Str.ofString "RESERVED") = true := by rfl)
    (hs : ∀ u, subscripted e2 false (.ref 181) (.int i u) = operate [.ref 181, .int i u] (getItem (.ref 181) (.int i u)) := by intro _; with_unfolding_all rfl) : Ev P (envX cn cs P.L f cd cl) m l (.Subscript (.Name (Str.ofString "RESERVED") p1) e2 pos) (Y (tokTx (i + 257))) := fun hp tk H Q E hQ =>
  Subscript_ (Ev.glob O gl_RESERVED hg hp tk H _ _ fun v ha ta q Ha => h2 ha ta Ha _ _ fun u hb tb ⟨t, q'⟩ Hb => by
    subst q q'
    have hl := res_list (O.X.keeps Hb.F.keep)
    have hx := valsOf_get resList 440 i.toNat (by show _ < 21; (first | lia | omega))
    have e : tokTx (i + 257) = resList.getD i.toNat [] := by
      unfold tokTx
      rw [Int.add_sub_cancel]
      simp only [List.getD_eq_getElem?_getD]
      rw [List.getElem?_append_left (by show _ < 21; (first | lia | omega))]
    exact tail_any (s := P.S hb tb) hl.typeIs slot_list_getitem.lookup (wpAny_getItem_list hl h0 (by (first | lia | omega)) (by simpa using hx) (hQ _ hb _ ⟨440 + i.toNat, by rw [e, List.getD_eq_getElem?_getD]⟩ Hb)) (hs t))
theorem ev_oth (O : Ok P (envX cn cs P.L f cd cl) k) (h2 : Ev P (envX cn cs P.L f cd cl) m l e2 (I i)) (h0 : 0 ≤ i) (h1 : i < 10) (hg : isG cs (Str.ofString "OTHER_TEXTS") = true := by rfl)
    (hs : ∀ u, subscripted e2 false (.ref 182) (.int i u) = operate [.ref 182, .int i u] (getItem (.ref 182) (.int i u)) := by intro _; with_unfolding_all rfl) : Ev P (envX cn cs P.L f cd cl) m l (.Subscript (.Name (Str.ofString "OTHER_TEXTS") p1) e2 pos) (Y (tokTx (i + 21 + 257))) := fun hp tk H Q E hQ =>
  Subscript_ (Ev.glob O gl_OTHER hg hp tk H _ _ fun v ha ta q Ha => h2 ha ta Ha _ _ fun u hb tb ⟨t, q'⟩ Hb => by
    subst q q'
    have hl := oth_list (O.X.keeps Hb.F.keep)
    have hx := valsOf_get othList 482 i.toNat (by show _ < 10; (first | lia | omega))
    have e : tokTx (i + 21 + 257) = othList.getD i.toNat [] := by
      unfold tokTx
      rw [Int.add_sub_cancel]
      simp only [List.getD_eq_getElem?_getD]
      rw [List.getElem?_append_right (by show 21 ≤ _; (first | lia | omega))]
      congr 2
      show (i + 21).toNat - 21 = _
      (first | lia | omega)
    exact tail_any (s := P.S hb tb) hl.typeIs slot_list_getitem.lookup (wpAny_getItem_list hl h0 (by (first | lia | omega)) (by simpa using hx) (hQ _ hb _ ⟨482 + i.toNat, by rw [e, List.getD_eq_getElem?_getD]⟩ Hb)) (hs t))
theorem Ev.yeq {b d : List UInt8} (h : Ev P env m l e (Y b)) (q : b = d) : Ev P env m l e (Y d) := q ▸ h
end
section
variable {P : Pt} {env : Env} {k : Nat} {l rest : Ld} {i : Int} {c : LC} {y : LD} {r buf : List UInt8} {E : Value → Shared → Prop} {kk : Value → Ld → Prop}
theorem tokTxt_p (O : Ok P env (k + 2)) (hi : 257 ≤ i ∧ i ≤ 287) : ∀ v, I i v → CallP P l (.ref 245) [v] (Y (tokTx i)) := by
  rintro _ ⟨t, rfl⟩
  refine' call_pure [(Str.ofString "kind", .int i t)] O ?k1 ?k2 ?k3 ?k4 ?_
  walk_at "sides"
  intro P' J O' Qf Ef fin
  refine W.ifs (by walk_at "et") (fun hp => absurd hp (by (first | lia | omega))) fun _ => ?_
  refine W.asgI (by walk_at "evi") fun t1 => ?_
  refine W.retP' fin (ev_if (et_lt (Ev.i (Ev.loc rfl)) (ev_lenres O')) (fun hp => Ev.yeq (ev_res O' (Ev.i (Ev.loc rfl)) (by (first | lia | omega)) (by (first | lia | omega))) (by congr 1; (first | lia | omega))) fun hp => Ev.yeq (ev_oth O' (ev_sub (Ev.i (Ev.loc rfl)) (ev_lenres O')) (by (first | lia | omega)) (by (first | lia | omega))) (by congr 1; (first | lia | omega)))
theorem tokBr_p (O : Ok P env (k + 2)) : ∀ v, I 91 v → CallP P l (.ref 245) [v] (Ys 10) := by
  rintro _ ⟨t, rfl⟩
  refine' call_pure [(Str.ofString "kind", .int 91 t)] O ?k1 ?k2 ?k3 ?k4 ?_
  walk_at "sides"
  intro P' J O' Qf Ef fin
  refine W.ifs (by walk_at "et") (fun _ => ?_) fun hp => absurd (by decide) hp
  refine W.ifs (et_b (ev_call1 fn_is_control O' (Ev.i (Ev.loc rfl)) (isControl_p O'))) (fun hp => absurd hp (by decide)) fun _ => ?_
  exact W.retP' fin ((ev_byte1 O' (Ev.i (Ev.loc rfl)) (by decide)).ys (by decide))
theorem near_p (O : Ok P env (k + 3)) (hr : RestOK c rest) (I0 : Inv c y r buf) (hz : buf.length ≤ 1000) (hi : i = 284 ∨ i = 286 ∨ i = 287 ∨ i = 91) : ∀ v, I i v → CallP P (Lx c y ++ rest) (.ref 315) [.ref c.x, v] (Ys 2000) := by
  rintro _ ⟨t, rfl⟩
  refine CallP.of fun E => ?_
  refine' lex_def [(Str.ofString "self", .ref c.x), (Str.ofString "kind", .int i t)] O.off hr ?k1 ?k2 ?k3 ?k4 ?_
  walk_at "sides"
  intro P' J O' Qf Ef fin esc
  have hbz : y.buf.length ≤ 1000 := by rw [I0.buf]; exact hz
  refine W.ifs (et_in (Ev.i (Ev.loc rfl)) (evsI (Ev.gi O' gi_TK_NAME) (evsI (Ev.gi O' gi_TK_STRING) (evsI (Ev.gi O' gi_TK_NUMBER) evsI0)))) (fun _ => ?_) fun hp => ?_
  · exact W.ret (ev_call1 fn_c_text O' (ev_bytesbuf O' (ev_buffer O' rfl) (by (first | lia | omega))) (cText_p O' hbz)) fun v hp tk ⟨b, u, q, hb⟩ H => fin _ _ _ _ _ H ⟨⟨b, u, q, by (first | lia | omega)⟩, rfl⟩
  · by_cases h9 : i = 91
    · subst h9
      exact W.ret (ev_call1 fn_token_text O' (Ev.i (Ev.loc rfl)) (tokBr_p O')) fun v hp tk ⟨b, u, q, hb⟩ H => fin _ _ _ _ _ H ⟨⟨b, u, q, by (first | lia | omega)⟩, rfl⟩
    · have h2 : 257 ≤ i ∧ i ≤ 287 := by (first | lia | omega)
      have := tokTx_len h2
      exact W.ret (ev_call1 fn_token_text O' (Ev.i (Ev.loc rfl)) (tokTxt_p O' h2)) fun v hp tk ⟨u, q⟩ H => fin _ _ _ _ _ H ⟨⟨_, u, q, by rw [List.size_toArray]; (first | lia | omega)⟩, rfl⟩
end
end
section
set_option maxHeartbeats 2000000
structure Cn (w : World) (C : Addr) (name : Str) : Prop where
  hs : findIn (Mine.H.hd.heap_1_1 w.params) (.ref C) "__setattr__" = some (some (.builtin "object.__setattr__"))
  hp : plainOver (Mine.H.hd.heap_1_1 w.params) C = true
  ht : takerIn (Mine.H.hd.heap_1_1 w.params) C name = some none
  hh : hasDictIn (Mine.H.hd.heap_1_1 w.params) C = true
structure Cm (w : World) (C fI : Addr) : Prop where
  hm : makesIn (Mine.H.hd.heap_1_1 w.params) C = true
  hi : findIn (Mine.H.hd.heap_1_1 w.params) (.ref C) "__init__" = some (some (.ref fI))
  hf : typeIn (Mine.H.hd.heap_1_1 w.params) (.ref fI) = some (.type "function")
theorem cn_kind {w : World} : Cn w 262 (Str.ofString "kind") := ⟨by k_is, by k_is, by k_is, by k_is⟩
theorem cn_value {w : World} : Cn w 262 (Str.ofString "value") := ⟨by k_is, by k_is, by k_is, by k_is⟩
theorem cm_Token {w : World} : Cm w 262 259 := ⟨by k_is, by k_is, by k_is⟩
def SetX (P : Pt) (x : Addr) (name : Str) (v : Value) (l : Ld) (kk : Ld → Prop) : Prop :=
  ∀ m h tk, Led P m l h → ∀ (Q : Unit → Shared → Prop) (E : Value → Shared → Prop), (∀ l' h' tk', kk l' → Led P m l' h' → Q () (P.S h' tk')) → wpAny P.M P.A (setAttr (.ref x) name v) Q E (P.S h tk)
section
variable {P : Pt} {cn x name : Str} {cs : Scope} {f : Addr} {cd v : Value} {cl : List (Str × Addr)} {m : Mp} {l r : Ld} {k : Nat} {e e1 e2 : Expr} {p1 p2 p3 pos : Pos} {kk : Value → Ld → Prop} {Q : Flow → Shared → Prop} {E : Value → Shared → Prop} {rest : List Stmt} {xa C dx : Addr} {env : Env} {es : List DictEntry} {n : Nat} {R2 : Value → Prop} {i : Int} {vl : Vl} {c : LC} {y : LD} {st : List Stmt} {rl : Ld}
theorem W.setX (hm : m x = some (.ref xa)) (h : Em P (envX cn cs P.L f cd cl) m l e (fun v l' => SetX P xa name v l' (fun l2 => W P (envX cn cs P.L f cd cl) m l2 rest Q E)) E) (hx : isL cs x = true := by rfl)
    (hs : swapsWith e (some (.Attribute (.Name x p1) name p2)) pos.line (envX cn cs P.L f cd cl) = pure false := by rfl) : W P (envX cn cs P.L f cd cl) m l (.Assign [.Attribute (.Name x p1) name p2] e pos :: rest) Q E :=
  W.cons fun hp tk H Γ q hΓ hc => by
    simp only [plainObj_exec_Assign_Attribute (.Name x p1) name p2 e pos hs, assign_Attribute, Sem.wp_bind', Sem.wp_holding, Sem.wp_cmd_standAt, Sem.wp_release, Sem.wp_pure']
    refine Sem.wp_mono P.M Γ _ (fun v p₁ s₁ h₁ => Sem.wp_mono P.M Γ _ (fun ov _ s₂ h₂ => h₂ Γ _ hΓ) (fun _ _ _ h' => h') _ _ (h₁ Γ p₁ hΓ)) (fun _ _ _ h' => h') _ _
      (h hp tk H (fun v s₁ => wpAny P.M P.A (eval (.Name x p1) (envX cn cs P.L f cd cl)) (fun ov s₂ => wpAny P.M P.A (setAttr ov name v) (fun _ s₃ => wpB P.b P.M P.A (execs rest (envX cn cs P.L f cd cl)) Q E s₃) E s₂) E s₁) (fun v l' h' tk' hv H' => ?_) Γ _ hΓ hc)
    refine Ev.loc hm hx h' tk' H' _ _ fun u h2 t2 hu H2 => ?_
    subst hu
    exact hv m h2 t2 H2 _ _ fun l3 h3 t3 w H3 => w h3 t3 H3
theorem W.setXV (hm : m x = some (.ref xa)) (ha : Ev P (envX cn cs P.L f cd cl) m l e (V v)) (h : SetX P xa name v l (fun l2 => W P (envX cn cs P.L f cd cl) m l2 rest Q E)) (hx : isL cs x = true := by rfl)
    (hs : swapsWith e (some (.Attribute (.Name x p1) name p2)) pos.line (envX cn cs P.L f cd cl) = pure false := by rfl) : W P (envX cn cs P.L f cd cl) m l (.Assign [.Attribute (.Name x p1) name p2] e pos :: rest) Q E := W.setX hm (Em.of ha fun w q => by subst q; exact h) hx hs
theorem getL_none_any : getL name es = some none → es.any (·.key.isStr name) = false := fun h => by
  unfold getL at h
  split at h
  · cases h
  · rename_i hf
    rw [List.any_eq_false]
    exact fun e he => by simpa using List.find?_eq_none.mp hf e he
theorem putL_none {hsh : Int} {key : Value} : ∀ {es : List DictEntry}, es.any (·.key.isStr name) = false → putL name hsh key v es = es ++ [⟨hsh, key, v⟩]
  | [], _ => rfl
  | e :: es, h => by
    simp only [List.any_cons, Bool.or_eq_false_iff] at h
    simp only [putL, h.1, Bool.false_eq_true, if_false, List.cons_append, putL_none h.2]
theorem setL_new {kk : Ld → Prop} (O : Ok P env k) (Hc : Cn P.w C name) (hne : xa ≠ dx) (hr : ∀ p ∈ r, p.1 ≠ dx) (hno : getL name es = some none) (hz : es.length ≤ 100) (h : ∀ a ka, kk ((xa, instObj C dx) :: (dx, dictOf (es ++ [⟨a, .str name ka, v⟩]) (n + 1)) :: r)) :
    SetX P xa name v ((xa, instObj C dx) :: (dx, dictOf es n) :: r) kk := fun m hp tk H Q E hQ => by
  have hany := getL_none_any hno
  refine set_dict (s := P.S hp tk) (C := C) (dx := dx) H.F O.X H.N (InstAt.of_news H.N (.head _) (.tail _ (.head _))) rfl Hc.hs Hc.hp Hc.ht Hc.hh (by rw [hno]; rfl) (by rw [putL_none hany, putN, hany]; rfl) (.tail hne (.head hr)) (by rw [List.length_append]; exact Nat.le_trans (Nat.add_le_add_right hz 1) (by decide)) fun h' F' N' => hQ _ h' _ (h _ _) ⟨F', N'⟩
end
section
variable {P : Pt} {env : Env} {k : Nat} {E : Value → Shared → Prop} {l : Ld} {name qual : Str} {params : Arguments} {body : List Stmt} {scope : Scope} {dV kV doc pm cdv ct oc : Value} {an od : Option Addr} {osl : Array (Option Value)} {C fI : Addr} {args : List Value} {kk : Value → Ld → Prop}
theorem new_def (names : List (Str × Value)) (s0 : Str) (O : Ok P env (k + 2)) (Hm : Cm P.w C fI)
    (ho : (Mine.H.hd.heap_1_1 P.w.params).lookup fI = some ⟨oc, od, .func (fnOf name qual params body scope dV kV doc pm an cdv ct), osl⟩) (hcd : codeIn (Mine.H.hd.heap_1_1 P.w.params) cdv qual = true)
    (hbind : ∀ x (s : Shared), (Mine.H.hd.heap_1_1 P.w.params).In s.heap → BindsTo s (fnOf name qual params body scope dV kV doc pm an cdv ct) ⟨.ref x :: args, []⟩ ((s0, .ref x) :: names)) (hs : okDef scope (s0 :: names.map (·.1)) = true)
    (walk : ∀ x dx, dx < x → (∀ p ∈ l, p.1 < dx) → ∀ P' : Pt, Into P P' l → Ok P' (envX qual scope P'.L fI cdv []) k → ∀ Qf Ef, Fin P' (fun v l' => v = .none ∧ kk (.ref x) l') l Qf → EscI P P' env (envX qual scope P'.L fI cdv []) E Ef → W P' (envX qual scope P'.L fI cdv []) (fun y => ((s0, .ref x) :: names).reverse.lookup y) [(x, instObj C dx), (dx, dictOf [] 0)] body Qf Ef) : CallW P l (.ref C) args kk E := by
  obtain ⟨hco, hgen, hk, hloc, hcell⟩ := okDef_parts (binds := (s0, .none) :: names) hs
  have hloc' : ∀ x : Addr, ∀ y ∈ ((s0, Value.ref x) :: names), scope.names.lookup y.1 = some .local := fun x y hy => by
    rcases List.mem_cons.mp hy with rfl | hy
    · exact hloc (s0, .none) (.head _)
    · exact hloc y (.tail _ hy)
  have hout : ∀ {x dx : Addr}, dx < x → (∀ p ∈ l, p.1 < dx) → ∀ q ∈ l, q.1 ∉ [(x, instObj C dx), (dx, emptyDict)].map (·.1) := fun {x dx} l2 l1 q hq hm => by
    have := l1 q hq
    simp only [List.map_cons, List.map_nil, List.mem_cons, List.not_mem_nil, or_false] at hm
    rcases hm with e | e <;> rw [e] at this
    · exact Nat.lt_asymm this l2
    · exact Nat.lt_irrefl _ this
  intro m hp tk H Q hQ
  cases hb : P.b with
  | false =>
    refine wpB.of_any (wpAny_call (make_K (K := Mine.H.hd.heap_1_1 P.w.params) (C := C) (fI := fI) H.F H.N (O.X.keeps H.F.keep) Hm.hm Hm.hi Hm.hf fun x dx h0 F0 N0 l1 l2 => ?_))
    refine enter (s := P.S h0 tk) (K := Mine.H.hd.heap_1_1 P.w.params) [(x, instObj C dx), (dx, emptyDict)] (rest := l) ((s0, .ref x) :: names) O.C.under F0 N0 (hout l2 l1) (Top.nolimit O.T) O.X ho hcd (hbind x _ (O.X.keeps F0.keep)) (hloc' x) (fun g' L' h₁ tk₁ F' N' st X' C' FG rs ret => ?_) hcell hco hgen hk
    exact (walk x dx l2 l1 ⟨false, P.prog, P.w, _, P.base, env :: P.outer, g', L', P.mean, P.mg, P.mb, P.s⟩ ⟨hb.symm, rfl, rfl, st, rs⟩ ⟨C', X', O.T.keeps st⟩ _ _
      (fun fl m' l' h' tk' H' hkk => have R := ret _ _ _ _ H'.F H'.N; ⟨hkk.1, hQ _ _ _ _ hkk.2 ⟨R.1, R.2⟩⟩)
      (fun hE => ⟨⟨fun h' e tk' R => esc_on0 (s := P.S hp tk) C' st (fun h' e tk' => hE h' e tk') R, fun h' e tk' R => esc_held (s := P.S hp tk) C' st (fun h' e tk' => hE h' e tk') R⟩, fun m h e t dd tk' F he hn => fly_first (s := P.S h tk') C' F he hn st fun h' R => hE h' e tk' R⟩) h₁ tk₁ ⟨F', N'⟩).to_any
  | true =>
    refine wpB.of_n (wpN_call (makeN_K (K := Mine.H.hd.heap_1_1 P.w.params) (C := C) (fI := fI) H.F H.N (O.X.keeps H.F.keep) Hm.hm Hm.hi Hm.hf fun x dx h0 F0 N0 l1 l2 => ?_))
    refine enterN (s := P.S h0 tk) (K := Mine.H.hd.heap_1_1 P.w.params) [(x, instObj C dx), (dx, emptyDict)] (rest := l) ((s0, .ref x) :: names) O.C.under F0 N0 (hout l2 l1) (Top.nolimit O.T) O.X ho hcd (hbind x _ (O.X.keeps F0.keep)) (hloc' x) (fun g' L' h₁ tk₁ F' N' st X' C' FG rs ret => ?_) hcell hco hgen hk
    exact (walk x dx l2 l1 ⟨true, P.prog, P.w, _, P.base, env :: P.outer, g', L', P.mean, P.mg, P.mb, P.s⟩ ⟨hb.symm, rfl, rfl, st, rs⟩ ⟨C', X', O.T.keeps st⟩ _ _
      (fun fl m' l' h' tk' H' hkk => have R := ret _ _ _ _ H'.F H'.N; ⟨hkk.1, hQ _ _ _ _ hkk.2 ⟨R.1, R.2⟩⟩)
      (fun hE => ⟨⟨fun h' e tk' R => esc_on0 (s := P.S hp tk) C' st (fun h' e tk' => hE h' e tk') R, fun h' e tk' R => esc_held (s := P.S hp tk) C' st (fun h' e tk' => hE h' e tk') R⟩, fun m h e t dd tk' F he hn => fly_first (s := P.S h tk') C' F he hn st fun h' R => hE h' e tk' R⟩) h₁ tk₁ ⟨F', N'⟩).to_n
end
section
variable {P : Pt} {env : Env} {k : Nat} {E : Value → Shared → Prop} {l rest : Ld} {i : Int} {vl : Vl} {v : Value} {kk : Value → Ld → Prop} {c : LC} {y : LD} {r buf : List UInt8}
theorem tok_w (O : Ok P env (k + 2)) (hv : vl.is v) (h : ∀ x lt, TokAt x i vl lt → (∀ q ∈ lt, ∀ p ∈ l, p.1 < q.1) → kk (.ref x) (lt ++ l)) : ∀ u, I i u → CallW P l (.ref 262) [u, v] kk E := by
  rintro _ ⟨t, rfl⟩
  refine' new_def [(Str.ofString "kind", .int i t), (Str.ofString "value", v)] (Str.ofString "self") O cm_Token ?k1 ?k2 ?k3 ?k4 ?_
  (case k1 => k_is); (case k2 => k_is); (case k3 => exact fun _ _ _ => BindsTo.of_eq rfl); (case k4 => exact rfl)
  intro x dx l2 l1 P' J O' Qf Ef fin esc
  have hne : x ≠ dx := Ne.symm (Nat.ne_of_lt l2)
  refine W.setXV rfl (Ev.loc rfl) (setL_new O' cn_kind hne (fun _ h => nomatch h) rfl (Nat.zero_le _) fun a ka => ?_)
  refine W.setXV rfl (Ev.loc rfl) (setL_new O' cn_value hne (fun _ h => nomatch h) rfl (Nat.le_of_ble_eq_true rfl) fun b kb => ?_)
  refine W.done fin ⟨rfl, h x [(x, instObj 262 dx), (dx, dictOf (tokEnt a b ka kb i t v) 2)] ⟨dx, a, b, ka, kb, t, v, rfl, hv⟩ fun q hq p hp => ?_⟩
  rcases List.mem_cons.mp hq with rfl | hq
  · exact Nat.lt_trans (l1 p hp) l2
  · rw [List.mem_singleton.mp hq]; exact l1 p hp
end
section
variable {P : Pt} {cn x : Str} {cs : Scope} {f : Addr} {cd v : Value} {cl : List (Str × Addr)} {m : Mp} {l r : Ld} {k : Nat} {e e1 e2 : Expr} {p1 p2 p3 pos : Pos} {kk : Value → Ld → Prop} {Q : Flow → Shared → Prop} {E : Value → Shared → Prop} {st : List Stmt} {R2 : Value → Prop} {i : Int} {vl : Vl} {c : LC} {y : LD} {rl : Ld}
theorem em_tokLx (O : Ok P (envX cn cs P.L f cd cl) (k + 2)) (h1 : Ev P (envX cn cs P.L f cd cl) m (Lx c y ++ []) e1 (I i)) (h2 : Ev P (envX cn cs P.L f cd cl) m (Lx c y ++ []) e2 R2) (hv : ∀ v, R2 v → vl.is v) (h : ∀ x lt, TokAt x i vl lt → kk (.ref x) (Lx c y ++ (lt ++ rl)))
    (hx : isG cs (Str.ofString "Token") = true := by rfl) (hz : okEs [e1, e2] = true := by rfl) : Em P (envX cn cs P.L f cd cl) m (Lx c y ++ []) (.Call (.Name (Str.ofString "Token") p1) [e1, e2] [] p2) (kR kk rl) E := fun hp tk H Q hQ =>
  em_call2 (kk := fun v l' => ∃ l0, kR kk rl v l0 ∧ ∀ q ∈ l0, q ∈ l') fn_Token O h1 h2 (fun u v hu hv' => tok_w O (hv v hv') (fun x lt hT _ => ⟨Lx c y ++ lt, h x lt hT, fun q hq => by
    rcases List.mem_append.mp hq with hq | hq
    · exact List.mem_append_right _ (List.mem_append_left _ hq)
    · exact List.mem_append_left _ hq⟩) u hu) hx hz hp tk H Q fun v l' h' tk' ⟨l0, hk, hs⟩ H' => hQ v l0 h' tk' hk (H'.sub hs)
theorem W.retTok (O : Ok P (envX cn cs P.L f cd cl) (k + 2)) (fin : FinR P kk rl Q) (h1 : Ev P (envX cn cs P.L f cd cl) m (Lx c y ++ []) e1 (I i)) (h2 : Ev P (envX cn cs P.L f cd cl) m (Lx c y ++ []) e2 R2) (hv : ∀ v, R2 v → vl.is v) (h : ∀ x lt, TokAt x i vl lt → kk (.ref x) (Lx c y ++ (lt ++ rl)))
    (hx : isG cs (Str.ofString "Token") = true := by rfl) (hz : okEs [e1, e2] = true := by rfl) : W P (envX cn cs P.L f cd cl) m (Lx c y ++ []) (.Return (some (.Call (.Name (Str.ofString "Token") p1) [e1, e2] [] p2)) pos :: st) Q E :=
  W.retE fin (em_tokLx O h1 h2 hv h hx hz)
theorem em_ifT {env : Env} {t a b : Expr} {p : Prop} (ht : ET P env m l t p) (h1 : p → Em P env m l a kk E) (h0 : ¬ p → Em P env m l b kk E) : Em P env m l (.IfExp t a b pos) kk E := fun hp tk H Q hQ => by
  show wpB P.b P.M P.A (do if ← isTrue t env (eval t env) then eval a env else eval b env) Q E _
  refine wpB.bindA (ht hp tk H _ _ fun z h' t' hz H' => ?_)
  cases z with
  | true => exact h1 (hz.mp rfl) h' t' H' Q hQ
  | false => exact h0 (fun s => Bool.false_ne_true (hz.mpr s)) h' t' H' Q hQ
end
section
variable {P : Pt} {cn x name : Str} {cs : Scope} {f : Addr} {cd v : Value} {cl : List (Str × Addr)} {m : Mp} {l : Ld} {k : Nat} {e e1 : Expr} {p1 p2 pos : Pos} {kk : Value → Ld → Prop} {Q : Flow → Shared → Prop} {E : Value → Shared → Prop} {st : List Stmt} {env : Env}
theorem fn_Error {w : World} : Fn w (Str.ofString "LuaSyntaxError") 87 := ⟨by k_is, by k_is⟩
theorem exc_x (O : Ok P env (k + 2)) {v : Value} (h : ∀ e t d, kk (.ref e) ((e, excObj t (some d)) :: l)) : CallX P l (.ref 87) [v] kk := fun m hp tk H Q E hQ =>
  excMake_c (s := P.S hp tk) O.C H.F O.X O.T H.N fun h' e t d tk' F' N' => hQ _ _ h' tk' (h e t d) ⟨F', N'⟩
theorem raiseOwn {prog : Program} {w : World} {A : Around} {s : Shared} {e : Expr} {Q : Flow → Shared → Prop} (hh : A.handled = none) (h : wpAny (model prog w) A (eval e env) (fun v s₁ => ∃ x t dd, v = .ref x ∧ s₁.heap.get? 87 = some cls87 ∧ s₁.heap.get? x = some (excObj t dd) ∧ E (.ref x) s₁) E s) :
    wpAny (model prog w) A (exec (.Raise (some e) none pos) env) Q E s := by
  rw [arm_exec_Raise]
  exact wpAny_bind (wpAny_standAt (mine_raise87 hh (wpAny_bind (wpAny_mono h (fun _ _ x => wpAny_bind (wpAny_standAt (wpAny_pure x))) fun _ _ x => x))))
theorem W.raise {R : Value → Prop} (O : Ok P (envX cn cs P.L f cd cl) (k + 2)) (hB : Born P E) (h1 : Ev P (envX cn cs P.L f cd cl) m l e1 R) (hx : isG cs (Str.ofString "LuaSyntaxError") = true := by rfl) (hz : okEs [e1] = true := by rfl) :
    W P (envX cn cs P.L f cd cl) m l (.Raise (some (.Call (.Name (Str.ofString "LuaSyntaxError") p1) [e1] [] p2)) none pos :: st) Q E := W.consA fun hp tk H =>
  raiseOwn O.C.handled (ew_call1 (kk := fun v l' => ∃ x t dd, v = .ref x ∧ l' = (x, excObj t (some dd)) :: l) fn_Error O h1 (fun v _ => exc_x O fun e t d => ⟨e, t, d, rfl, rfl⟩) hx hz hp tk H _ _ fun v l' h' tk' hv H' => by
    obtain ⟨x, t, dd, rfl, rfl⟩ := hv
    have z := H'.N (x, excObj t (some dd)) (.head _)
    exact ⟨x, t, some dd, rfl, O.X.keeps H'.F.keep _ _ at87, z.1, hB m h' x t _ tk' H'.F z.1 z.2.2⟩)
end
section
variable {P : Pt} {env : Env} {k : Nat} {E : Value → Shared → Prop} {rest : Ld} {i : Int} {kk : Value → Ld → Prop} {c : LC} {y : LD} {r buf : List UInt8} {n : Nat}
theorem ev_chunkY {cn x : Str} {cs : Scope} {f : Addr} {cd : Value} {cl : List (Str × Addr)} {m : Mp} {r : Ld} {p1 p2 : Pos} (O : Ok P (envX cn cs P.L f cd cl) k) (hm : m x = some (.ref c.x)) (hz : c.cv.size ≤ n) (hx : isL cs x = true := by rfl) : Ev P (envX cn cs P.L f cd cl) m (Lx c y ++ r) (.Attribute (.Name x p1) (Str.ofString "chunk") p2) (Ys n) :=
  (ev_chunk O hm hx).mono fun v q => ⟨_, _, q, hz⟩
theorem error_w (O : Ok P env (k + 4)) (hr : RestOK c rest) (S : Stat P.prog P.w c P.g) (I0 : Inv c y r buf) (hz : buf.length ≤ 1000) (hi : i = 284 ∨ i = 286 ∨ i = 287 ∨ i = 91) (hE : EscF P env E) :
    ∀ u v, Ys 100 u → I i v → CallW P (Lx c y ++ rest) (.ref 301) [.ref c.x, u, v] kk E := by
  rintro _ _ ⟨tb, tt, rfl, htb⟩ ⟨t, rfl⟩
  refine' lex_def [(Str.ofString "self", .ref c.x), (Str.ofString "text", .bytes tb tt), (Str.ofString "kind", .int i t)] O hr ?k1 ?k2 ?k3 ?k4 ?_
  walk_at "sides"
  intro P' J O' Qf Ef fin esc
  have hln := I0.ln
  have hat := I0.at_lt
  have hsz := I0.sz
  refine W.asg (R := Ys 1113) ?a fun v ⟨bm, tm, em, hm⟩ => ?_
  case a => exact Yn.add (n1 := 1013) (n2 := 100) (by decide) (Yn.add (n1 := 1011) (n2 := 2) (by decide) (Yn.add (n1 := 1001) (n2 := 10) (by decide) (Yn.add (n1 := 1000) (n2 := 1) (by decide) (ev_chunkY O' rfl (J.stat S).chunk) (Ev.ys ev_bytes (by decide))) (ev_call1 fn_to_text O' (ev_line O' rfl) (toText_p O' (by omega)))) (Ev.ys ev_bytes (by decide))) (Ev.mono (Ev.loc rfl) fun v q => ⟨tb, tt, q, htb⟩)
  subst em
  refine W.ifs (et_and2 (et_isnot (Ev.loc rfl) ev_none) fun _ => et_ne (Ev.i (Ev.loc rfl)) ev_int) (fun _ => ?_) fun hn => absurd ⟨nofun, by omega⟩ hn
  refine W.asg (R := Ys 3121) ?a fun v ⟨bv, tv, ev, hv⟩ => ?_
  case a => exact Yn.add (n1 := 3120) (n2 := 1) (by decide) (Yn.add (n1 := 1120) (n2 := 2000) (by decide) (Yn.add (n1 := 1113) (n2 := 7) (by decide) (Ev.mono (Ev.loc rfl) fun v q => ⟨bm, tm, q, by omega⟩) (Ev.ys ev_bytes (by decide))) (ev_meth1 mt_near_text O' rfl (Ev.i (Ev.loc rfl)) (near_p O' RestOK.nil I0 hz hi))) (Ev.ys ev_bytes (by decide))
  subst ev
  exact W.raise O' (esc hE).2 (Ev.loc rfl)
end
end
section
set_option maxHeartbeats 2000000
@[reducible] def updO (m : Mp) (x : Str) (o : Option Value) : Mp := fun y => if y = x then o else m y
theorem updO_self {m : Mp} {x : Str} {o : Option Value} (h : m x = o) : m = updO m x o := by
  funext q
  show m q = if q = x then o else m q
  split
  · rename_i e; rw [e, h]
  · rfl
theorem upd_rot {m : Mp} {x y z : Str} {u u' v v' d : Value} {o : Option Value} (h1 : x ≠ y) (h2 : x ≠ z) (h3 : y ≠ z) :
    upd (upd (upd (updO (upd (upd m y v) x u) z o) z d) y v') x u' = updO (upd (upd m y v') x u') z (some d) := by
  funext q
  simp only [upd, updO]
  by_cases a : q = x <;> by_cases b : q = y <;> by_cases c : q = z <;> simp_all
theorem gi_b {w : World} : ∃ t, nsIn (Mine.H.hd.heap_1_1 w.params) mainGlobals (Str.ofString "BLANKS") = some (some (.bytes ([32, 9, 10, 11, 12, 13] : List UInt8).toArray t)) := ⟨_, by k_is⟩
section
variable {P : Pt} {cn x z : Str} {cs : Scope} {f : Addr} {cd : Value} {cl : List (Str × Addr)} {m : Mp} {l : Ld} {k j j2 : Nat} {e1 e2 : Expr} {p1 p2 p3 p4 pos : Pos} {R1 R2 : Value → Prop} {kk : Value → Ld → Prop} {E : Value → Shared → Prop} {Q : Flow → Shared → Prop} {rest : List Stmt} {env : Env}
theorem ew_pair (h1 : Ev P env m l e1 R1) (h2 : Ev P env m l e2 R2) (hk : ∀ v u D, R1 v → R2 u → kk (.ref D) ((D, tupO [v, u]) :: l)) (hz : okEs [e1, e2] = true := by rfl) : Ew P env m l (.Tuple [e1, e2] j pos) kk :=
  ew_tuple (evs2 h1 h2 hz) (fun vs ⟨v, u, e, _, _⟩ => by rw [e]; exact Nat.le_of_ble_eq_true rfl) fun vs D ⟨v, u, e, hv, hu⟩ _ => e ▸ hk v u D hv hu
theorem W.retPair {rl : Ld} (fin : FinR P kk rl Q) (h1 : Ev P env m l e1 R1) (h2 : Ev P env m l e2 R2) (h : ∀ v u D, R1 v → R2 u → kk (.ref D) ((D, tupO [v, u]) :: (l ++ rl))) (hz : okEs [e1, e2] = true := by rfl) : W P env m l (.Return (some (.Tuple [e1, e2] j p1)) pos :: rest) Q E :=
  W.retE fin (ew_pair (kk := kR kk rl) h1 h2 (fun v u D hv hu => h v u D hv hu) hz).em
theorem W.pairS (O : Ok P (envX cn cs P.L f cd cl) k) (h1 : Ev P (envX cn cs P.L f cd cl) m l e1 R1) (h2 : Ev P (envX cn cs P.L f cd cl) m l e2 R2) (h : ∀ v u, R1 v → R2 u → W P (envX cn cs P.L f cd cl) (upd (upd m z u) x v) l rest Q E) (ho : okEs [e1, e2] = true := by rfl)
    (hx : isL cs x = true := by rfl) (hz : isL cs z = true := by rfl) (hs : swapsWithSole [.Tuple [.Name x p1, .Name z p2] j p3] (.Tuple [e1, e2] j2 p4) pos.line (envX cn cs P.L f cd cl) = pure false := by rfl)
    (hw : swappedStores [.Tuple [.Name x p1, .Name z p2] j p3] (.Tuple [e1, e2] j2 p4) (envX cn cs P.L f cd cl) = pure (some [x, z]) := by rfl) : W P (envX cn cs P.L f cd cl) m l (.Assign [.Tuple [.Name x p1, .Name z p2] j p3] (.Tuple [e1, e2] j2 p4) pos :: rest) Q E :=
  W.asg2s O (ew_pair h1 h2 (fun v u D hv hu => ⟨D, v, u, rfl, .head _, W.perm l (fun q hq => .tail _ hq) (h v u hv hu)⟩) ho) hx hz hs hw
theorem W.pair (O : Ok P (envX cn cs P.L f cd cl) k) (h1 : Ev P (envX cn cs P.L f cd cl) m l e1 R1) (h2 : Ev P (envX cn cs P.L f cd cl) m l e2 R2) (h : ∀ v u, R1 v → R2 u → W P (envX cn cs P.L f cd cl) (upd (upd m x v) z u) l rest Q E) (ho : okEs [e1, e2] = true := by rfl)
    (hx : isL cs x = true := by rfl) (hz : isL cs z = true := by rfl) (hs : swapsWithSole [.Tuple [.Name x p1, .Name z p2] j p3] (.Tuple [e1, e2] j2 p4) pos.line (envX cn cs P.L f cd cl) = pure false := by rfl)
    (hw : swappedStores [.Tuple [.Name x p1, .Name z p2] j p3] (.Tuple [e1, e2] j2 p4) (envX cn cs P.L f cd cl) = pure none := by rfl) : W P (envX cn cs P.L f cd cl) m l (.Assign [.Tuple [.Name x p1, .Name z p2] j p3] (.Tuple [e1, e2] j2 p4) pos :: rest) Q E :=
  W.asg2 O (ew_pair h1 h2 (fun v u D hv hu => ⟨D, v, u, rfl, .head _, W.perm l (fun q hq => .tail _ hq) (h v u hv hu)⟩) ho) hx hz hs hw
end
section
variable {P : Pt} {env : Env} {k : Nat} {l : Ld} {i j bs : Int} {a : UInt8} {x : List UInt8} {kk : Value → Ld → Prop}
theorem digitOf_p (O : Ok P env (k + 1)) : ∀ v, I i v → CallP P l (.ref 117) [v] (I (digI i)) := by
  rintro _ ⟨t, rfl⟩
  refine' call_pure [(Str.ofString "octet", .int i t)] O ?k1 ?k2 ?k3 ?k4 ?_
  walk_at "sides"
  intro P' J O' Qf Ef fin
  refine W.ifs (et_lele ev_int (Ev.i (Ev.loc rfl)) ev_int) (fun h => W.retP' fin (Ev.ieq (by walk_at "evi") (by rw [digI, if_pos h]))) fun h1 => ?_
  refine W.ifs (et_lele ev_int (Ev.i (Ev.loc rfl)) ev_int) (fun h => W.retP' fin (Ev.ieq (by walk_at "evi") (by rw [digI, if_neg h1, if_pos h]))) fun h2 => ?_
  refine W.ifs (et_lele ev_int (Ev.i (Ev.loc rfl)) ev_int) (fun h => W.retP' fin (Ev.ieq (by walk_at "evi") (by rw [digI, if_neg h1, if_neg h2, if_pos h]))) fun h3 => ?_
  exact W.retP' fin (Ev.ieq (i := -1) (by walk_at "evi") (by rw [digI, if_neg h1, if_neg h2, if_neg h3]))
theorem blankV_p (O : Ok P env (k + 1)) : ∀ v, I a.toNat v → CallP P l (.ref 110) [v] (Bp (isBlkV a = true)) := by
  rintro _ ⟨t, rfl⟩
  refine' call_pure [(Str.ofString "octet", .int a.toNat t)] O ?k1 ?k2 ?k3 ?k4 ?_
  walk_at "sides"
  intro P' J O' Qf Ef fin
  obtain ⟨tb, hB⟩ := gi_b (w := P'.w)
  refine W.retP fin (ev_inby (Ev.i (Ev.loc rfl)) (Ev.y (Ev.glob O' hB))) fun v ⟨b, q, hb⟩ => ⟨b, q, by rw [hb, List.contains_toArray]; exact Iff.rfl⟩
theorem skipBl_p (O : Ok P env (k + 2)) (hz : x.length ≤ 1000) (hi : 0 ≤ i ∧ i ≤ x.length) : ∀ u v, Y x u → I i v → CallP P l (.ref 131) [u, v] (I ((x.length - (skipB (x.drop i.toNat)).length : Nat) : Int)) := by
  rintro _ _ ⟨t, rfl⟩ ⟨u, rfl⟩
  refine' call_pure [(Str.ofString "text", .bytes x.toArray t), (Str.ofString "at", .int i u)] O ?k1 ?k2 ?k3 ?k4 ?_
  walk_at "sides"
  intro P' J O' Qf Ef fin
  obtain ⟨j, rfl⟩ : ∃ j : Nat, i = j := ⟨i.toNat, (Int.toNat_of_nonneg hi.1).symm⟩
  refine W.map (updO_self (x := Str.ofString "at") (o := some (.int j u)) rfl) (W.whl2 (fun (n : Nat) (_ : Tok) => An2 (n ≤ x.length) (skipB (x.drop j) = skipB (x.drop n))) (fun n _ => x.length - n) (fun n t1 => updO (fun y => List.lookup y [(Str.ofString "text", Value.bytes x.toArray t), (Str.ofString "at", .int j u)].reverse) (Str.ofString "at") (some (.int n t1))) (fun _ _ => []) O' ?_ j u ⟨by omega, rfl⟩)
  intro n t1 ⟨hn, e⟩ Qb Eb lp nx
  refine EtM.of (et_and2 (p := (n : Int) < x.length) (by walk_at "et") fun _ => et_b (ev_call1 fn_is_blank_values O' (by walk_at "evi") (blankV_p O'))) (fun hp => ?_) fun hp => ?_
  · have hl : n < x.length := by have := hp.1; omega
    have hp2 := hp.2
    rw [Int.toNat_natCast] at hp2
    refine W.asgI (by walk_at "evi") fun t2 => ?_
    exact W.map upd_upd (nx (n + 1) t2 ⟨hl, by rw [e, getD_drop hl]; simp only [skipB]; rw [if_pos hp2]⟩ (by omega))
  · refine W.retP' fin (Ev.ieq (Ev.i (Ev.loc rfl)) ?_)
    rw [Int.toNat_natCast, e]
    by_cases hl : n < x.length
    · have hb : ¬ isBlkV (x.getD n 0) = true := fun q => hp ⟨by omega, by rw [Int.toNat_natCast]; exact q⟩
      rw [getD_drop hl]; simp only [skipB]; rw [if_neg hb, ← getD_drop hl, List.length_drop]; omega
    · rw [List.drop_eq_nil_of_le (by omega)]; simp only [skipB, List.length_nil]; omega
theorem wrap_p (O : Ok P env (k + 1)) : ∀ u v, I i u → I 64 v → CallP P l (.ref 103) [u, v] (I (if i % 2 ^ 64 ≥ 2 ^ 63 then i % 2 ^ 64 - 2 ^ 64 else i % 2 ^ 64)) := by
  rintro _ _ ⟨t, rfl⟩ ⟨u, rfl⟩
  refine' call_pure [(Str.ofString "n", .int i t), (Str.ofString "width", .int 64 u)] O ?k1 ?k2 ?k3 ?k4 ?_
  walk_at "sides"
  intro P' J O' Qf Ef fin
  refine W.asgI (i := i % 2 ^ 64) ?a fun t1 => ?_
  case a => exact Ev.ieq (ev_bin (Ev.i (Ev.loc rfl)) (ev_sub (ev_bin ev_int (Ev.i (Ev.loc rfl)) (bin_shl (by decide) (by decide))) ev_int) bin_and) (by rw [show (1 * 2 ^ Int.toNat 64 - 1 : Int) = 2 ^ 64 - 1 from by decide, bitAnd_m64])
  refine W.ifs (p := (2 ^ 63 : Int) ≤ i % 2 ^ 64) (et_ge (Ev.i (Ev.loc rfl)) (Ev.ieq (ev_bin ev_int (ev_sub (Ev.i (Ev.loc rfl)) ev_int) (bin_shl (by decide) (by decide))) (by decide))) (fun h => ?_) fun h => ?_
  · exact W.retP' fin (Ev.ieq (ev_sub (Ev.i (Ev.loc rfl)) (ev_bin ev_int (Ev.i (Ev.loc rfl)) (bin_shl (by decide) (by decide)))) (by rw [if_pos h]; rfl))
  · exact W.retP' fin (Ev.ieq (Ev.i (Ev.loc rfl)) (by rw [if_neg h]))
theorem mul_ok {g : Int} (h0 : 0 ≤ g) (h1 : g < 2 ^ 64) (hb : 2 ≤ bs ∧ bs ≤ 16) : IntMulOk g bs := by
  mul_fits
theorem readDg_x (O : Ok P env (k + 2)) (hz : x.length ≤ 1000) (hi : 0 ≤ i ∧ i ≤ x.length) (hb : 2 ≤ bs ∧ bs ≤ 16)
    (h : ∀ q t1 t2, kk (.ref q) ((q, tupO [.int (readDg bs (x.drop i.toNat) 0).1 t1, .int ((x.length - (readDg bs (x.drop i.toNat) 0).2.length : Nat) : Int) t2]) :: l)) :
    ∀ u v w z, Y x u → I i v → I bs w → I 64 z → CallX P l (.ref 124) [u, v, w, z] kk := by
  rintro _ _ _ _ ⟨t, rfl⟩ ⟨u, rfl⟩ ⟨tb, rfl⟩ ⟨tw, rfl⟩
  refine' callx_def [(Str.ofString "text", .bytes x.toArray t), (Str.ofString "at", .int i u), (Str.ofString "base", .int bs tb), (Str.ofString "width", .int 64 tw)] O ?k1 ?k2 ?k3 ?k4 ?_
  walk_at "sides"
  intro P' J O' Qf Ef fin
  obtain ⟨j, rfl⟩ : ∃ j : Nat, i = j := ⟨i.toNat, (Int.toNat_of_nonneg hi.1).symm⟩
  rw [Int.toNat_natCast] at h
  have e64 : (1 * 2 ^ Int.toNat 64 - 1 : Int) = 2 ^ 64 - 1 := by decide
  refine W.pairS (R1 := I 0) (R2 := I (2 ^ 64 - 1)) O' ?a ?b fun v0 v1 ⟨t0, q0⟩ ⟨t1, q1⟩ => ?_
  case a => exact ev_int
  case b => exact Ev.ieq (ev_sub (ev_bin ev_int (Ev.i (Ev.loc rfl)) (bin_shl (by decide) (by decide))) ev_int) e64
  subst q0 q1
  refine W.map (Eq.trans (updO_self (x := Str.ofString "at") (o := some (.int j u)) rfl) (updO_self (x := Str.ofString "digit") (o := none) rfl)) (W.whl5 (fun (n : Nat) (g : Int) (_ _ : Tok) (_ : Option Value) => An4 (n ≤ x.length) (0 ≤ g) (g < 2 ^ 64) (readDg bs (x.drop j) 0 = readDg bs (x.drop n) g)) (fun n _ _ _ _ => x.length - n)
    (fun n g a b d => updO (upd (upd (upd (fun y => List.lookup y [(Str.ofString "text", Value.bytes x.toArray t), (Str.ofString "at", .int j u), (Str.ofString "base", .int bs tb), (Str.ofString "width", .int 64 tw)].reverse) (Str.ofString "most") (.int (2 ^ 64 - 1) t1)) (Str.ofString "found") (.int g a)) (Str.ofString "at") (.int n b)) (Str.ofString "digit") d) (fun _ _ _ _ _ => []) O' ?_ j 0 t0 u none ⟨by omega, by decide, by decide, rfl⟩)
  intro n g a b d ⟨hn, hg0, hg1, e⟩ Qb Eb lp nx
  have stop : readDg bs (x.drop n) g = (g, x.drop n) → ∀ D, kk (.ref D) ((D, tupO [.int g a, .int n b]) :: l) := fun q D => by
    have := h D a b
    rw [e, q, List.length_drop, show x.length - (x.length - n) = n by omega] at this
    exact this
  refine EtM.of (p := (n : Int) < x.length) (by walk_at "et") (fun hp => ?_) fun hp => ?_
  · have hl : n < x.length := by omega
    refine W.asgI (ev_call1 fn_digit_of O' (by walk_at "evi") (digitOf_p O')) fun td => ?_
    refine W.ifs (et_or2 (by walk_at "et") fun _ => by walk_at "et") (fun hd => ?_) fun hd => ?_
    · refine lp.br _ _ _ _ ?_
      exact W.retPair fin.r (Ev.loc rfl) (Ev.loc rfl) fun v w D hv hw => by subst hv hw; exact stop (readDg_stop hl hd) D
    · have hd0 : 0 ≤ digI (x.getD (n : Int).toNat 0).toNat := Int.not_lt.mp fun q => hd (.inl q)
      have hd1 : digI (x.getD (n : Int).toNat 0).toNat < bs := Int.not_le.mp fun q => hd (.inr q)
      refine W.asgI (i := (g * bs + digI (x.getD (n : Int).toNat 0).toNat) % 2 ^ 64) ?a fun tf => ?_
      case a => exact Ev.ieq (ev_bin (ev_add (ev_bin (Ev.i (Ev.loc rfl)) (Ev.i (Ev.loc rfl)) (bin_mul (mul_ok hg0 hg1 hb))) (Ev.i (Ev.loc rfl))) (Ev.i (Ev.loc rfl)) bin_and) (bitAnd_m64 _)
      refine W.asgI (by walk_at "evi") fun ta => ?_
      refine W.map (upd_rot (by decide) (by decide) (by decide)) (nx (n + 1) _ tf ta _ ⟨hl, Int.emod_nonneg _ (by decide), Int.emod_lt_of_pos _ (by decide), ?_⟩ (by omega))
      rw [e, getD_drop hl]
      rw [Int.toNat_natCast] at hd0 hd1 ⊢
      exact if_neg (by show ¬(digI (x.getD n 0).toNat < 0 ∨ digI (x.getD n 0).toNat ≥ bs); omega)
  · exact W.retPair fin.r (Ev.loc rfl) (Ev.loc rfl) fun v w D hv hw => by subst hv hw; exact stop (by rw [List.drop_eq_nil_of_le (by omega)]; rfl) D
end
end
section
set_option maxHeartbeats 2000000
section
variable {P : Pt} {env : Env} {m : Mp} {l : Ld} {x : Expr} {y : Expr} {r : List Expr} {pos : Pos} {p q : Prop} {st : Stmt} {rest : List Stmt} {Q : Flow → Shared → Prop} {E : Value → Shared → Prop}
theorem ev_andc (ha : Ev P env m l x (Bp p)) (hb : p → Ev P env m l (.BoolOp .And (y :: r) pos) (Bp q)) : Ev P env m l (.BoolOp .And (x :: y :: r) pos) (Bp (p ∧ q)) :=
  fun hp tk H Q E hQ => BoolOp_and (ha hp tk H _ _ fun v h1 t1 ⟨z, e, hz⟩ H1 => by
    subst e
    refine wpAny_truthy_bool ?_
    cases z with
    | true => exact hb (hz.mp rfl) h1 t1 H1 _ _ fun v h2 t2 ⟨u, e, hu⟩ H2 => hQ v h2 t2 ⟨u, e, ⟨fun s => ⟨hz.mp rfl, hu.mp s⟩, fun s => hu.mpr s.2⟩⟩ H2
    | false => exact hQ _ h1 t1 ⟨false, rfl, nofun, fun s => hz.mpr s.1⟩ H1)
theorem ev_and1 (ha : Ev P env m l x (Bp p)) : Ev P env m l (.BoolOp .And [x] pos) (Bp p) := fun hp tk H Q E hQ => BoolOp_one (ha hp tk H Q E hQ)
theorem ev_lt {i j : Int} (ha : Ev P env m l x (I i)) (hb : Ev P env m l y (I j)) : Ev P env m l (.Compare x [.Lt] [y] pos) (Bp (i < j)) := ev_cmp ha hb (cmp_int rfl) (behind_I rfl)
theorem ET.iff {p' : Prop} (h : ET P env m l x p) (e : p ↔ p') : ET P env m l x p' := fun hp tk H Q E hQ => h hp tk H Q E fun b h' tk' hb H' => hQ b h' tk' (hb.trans e) H'
theorem W.cut (ψ : Mp → Ld → Prop) (tail : ∀ m' l', ψ m' l' → W P env m' l' rest Q E) (head : (∀ m' l', ψ m' l' → W P env m' l' rest Q E) → W P env m l (st :: rest) Q E) : W P env m l (st :: rest) Q E := head tail
end
def NumR (o : Option Int) (v : Value) : Prop := match o with
  | none => v = .none
  | some i => I i v
theorem hexHead_iff {l : List UInt8} : hexHead l = true ↔ ((0 : Int) + 2 < l.length ∧ ((l.getD (0 : Int).toNat 0).toNat : Int) = 48 ∧ ([120, 88] : List UInt8).toArray.contains (l.getD (0 + 1 : Int).toNat 0) = true ∧ (0 : Int) ∈ [0, 16]) ∧ 0 ≤ digI (l.getD (0 + 2 : Int).toNat 0).toNat ∧ digI (l.getD (0 + 2 : Int).toNat 0).toNat < 16 := by
  rw [show (0 : Int).toNat = 0 from rfl, show (0 + 1 : Int).toNat = 1 from rfl, show (0 + 2 : Int).toNat = 2 from rfl]
  have e1 : ((0 : Int) + 2 < l.length) ↔ 2 < l.length := by omega
  have e2 : (((l.getD 0 0).toNat : Int) = 48) ↔ l.getD 0 0 = 48 := by rw [← UInt8.toNat_inj]; show _ ↔ _ = 48; omega
  have e3 : ((0 : Int) ∈ [0, 16]) ↔ True := by simp
  rw [e1, e2, e3]
  simp only [hexHead, isMk, Bool.and_eq_true, decide_eq_true_eq, beq_iff_eq, and_true, and_assoc]
section
variable {P : Pt} {env : Env} {k : Nat} {l : Ld} {c : LC} {a : UInt8} {l' : List UInt8}
theorem textIn_p (O : Ok P env (k + 3)) (S : Stat P.prog P.w c P.g) (hz : (a :: l').length ≤ 1000) (ha : isBlkV a = false) (hs : a ≠ 43 ∧ a ≠ 45) :
    ∀ u v w, Y (a :: l') u → I 0 v → V (.ref c.lim) w → CallP P l (.ref 145) [u, v, w] (NumR (numVal (a :: l'))) := by
  rintro _ _ _ ⟨t, rfl⟩ ⟨u, rfl⟩ rfl
  generalize hl : a :: l' = x at *
  have e0 : skipB x = x := by rw [← hl]; simp only [skipB]; rw [if_neg (by rw [ha]; decide)]
  have h0 : x.getD 0 0 = a := by rw [← hl]; rfl
  have hp : 0 < x.length := by rw [← hl]; simp
  refine' call_pure [(Str.ofString "text", .bytes x.toArray t), (Str.ofString "base", .int 0 u), (Str.ofString "limits", .ref c.lim)] O ?k1 ?k2 ?k3 ?k4 ?_
  walk_at "sides"
  intro P' J O' Qf Ef fin
  have S' := J.stat S
  refine W.pairS (R1 := I 0) (R2 := V (.bool false)) O' ?a ev_bool fun v0 v1 ⟨t0, q0⟩ q1 => ?_
  case a => exact Ev.ieq (ev_call2 fn_skip_blanks O' (Ev.y (Ev.loc rfl)) ev_int (skipBl_p O' hz ⟨Int.le_refl 0, Int.natCast_nonneg _⟩)) (by rw [show (0 : Int).toNat = 0 from rfl, List.drop_zero, e0]; simp)
  subst q0 q1
  refine W.ifs (et_and2 (et_lt (Ev.i (Ev.loc rfl)) (ev_len O' (Ev.y (Ev.loc rfl)) (by omega))) fun _ => et_inby (ev_idx (Ev.y (Ev.loc rfl)) (Ev.i (Ev.loc rfl)) (by omega) (by omega) (by omega)) ev_bytes) (fun h => absurd h.2 (by rw [show (0 : Int).toNat = 0 from rfl, h0]; simp [hs])) fun _ => ?_
  refine W.asg (R := Bp ((0 : Int) + 2 < x.length ∧ ((x.getD (0 : Int).toNat 0).toNat : Int) = 48 ∧ ([120, 88] : List UInt8).toArray.contains (x.getD (0 + 1 : Int).toNat 0) = true ∧ (0 : Int) ∈ [0, 16])) ?a fun v ⟨mk, q, hmk⟩ => ?_
  case a => exact ev_andc (ev_lt (by walk_at "evi") (ev_len O' (Ev.y (Ev.loc rfl)) (by omega))) fun h1 => ev_andc (ev_eq (by walk_at "evi") ev_int) fun _ => ev_andc (ev_inby (by walk_at "evi") ev_bytes) fun _ => ev_and1 (ev_in (Ev.i (Ev.loc rfl)) (evsI ev_int (evsI ev_int evsI0)))
  subst q
  refine W.cut (fun m' l2 => l2 = [] ∧ ∃ (d : Nat) (bi bs : Int) (t1 t2 : Tok), An4 (m' = updO (updO (upd (upd (upd (fun y => List.lookup y [(Str.ofString "text", Value.bytes x.toArray t), (Str.ofString "base", Value.int 0 u), (Str.ofString "limits", Value.ref c.lim)].reverse) (Str.ofString "is_below") (.bool false)) (Str.ofString "at") (.int 0 t0)) (Str.ofString "is_marked") (.bool mk)) (Str.ofString "base") (some (.int bi t2))) (Str.ofString "at") (some (.int d t1))) (d ≤ x.length) ((2 ≤ bs ∧ bs ≤ 16) ∧ (bi = 0 → bs = 10) ∧ (bi ≠ 0 → bs = bi))
    (numVal x = if (readDg bs (x.drop d) 0).2.length = x.length - d ∨ skipB (readDg bs (x.drop d) 0).2 ≠ [] then none else some (wrapI (readDg bs (x.drop d) 0).1))) ?tail fun tail => ?_
  case tail =>
    rintro m' _ ⟨rfl, d, bi, bs, t1, t2, rfl, hd, ⟨hb, b0, b1⟩, hn⟩
    have hq1 := readDg_len bs (x.drop d) 0
    have hq2 := readDg_suf bs (x.drop d) 0
    rw [hn] at fin
    rw [List.length_drop] at hq1 hq2
    rw [List.drop_drop] at hq2
    refine W.asg2 O' (ew_call4 fn_read_digits O' (Ev.y (Ev.loc rfl)) (Ev.i (Ev.loc rfl)) ?a (ev_limWidth O' S' rfl) (readDg_x O' hz (by omega) hb fun D t3 t4 => ⟨D, _, _, rfl, .head _, W.perm [] (fun _ h => nomatch h) ?_⟩))
    case a => exact ev_if (et_eq (Ev.i (Ev.loc rfl)) ev_int) (fun h => Ev.ieq ev_int (b0 h).symm) fun h => Ev.ieq (Ev.i (Ev.loc rfl)) (b1 h).symm
    rw [Int.toNat_natCast]
    generalize readDg bs (x.drop d) 0 = q at *
    have hq3 : List.drop (((x.length - q.2.length : Nat) : Int).toNat) x = q.2 := by rw [Int.toNat_natCast, ← hq2]; congr 1; rw [hq2]; omega
    have hq4 := skipB_len q.2
    refine W.ifs (p := q.2.length = x.length - d ∨ skipB q.2 ≠ []) ?b (fun h => ?_) fun h => ?_
    · refine ET.iff (et_or2 (et_eq (Ev.i (Ev.loc rfl)) (Ev.i (Ev.loc rfl))) fun _ => et_ne (ev_call2 fn_skip_blanks O' (Ev.y (Ev.loc rfl)) (Ev.i (Ev.loc rfl)) (skipBl_p O' hz (by omega))) (ev_len O' (Ev.y (Ev.loc rfl)) (by omega))) ?_
      rw [hq3, show (skipB q.2 ≠ []) = ¬ (skipB q.2).length = 0 from by rw [List.length_eq_zero_iff]]
      omega
    · rw [if_pos h] at fin
      exact W.retP' fin ev_none
    · rw [if_neg h] at fin
      exact W.retP fin (ev_call2 fn_wrap O' (ev_if (et_b (Ev.bo (Ev.loc rfl))) (fun h => absurd h (by decide)) fun _ => Ev.i (Ev.loc rfl)) (ev_limWidth O' S' rfl) (wrap_p O')) fun v h => h
  have hx : mk = true ∧ (0 ≤ digI (x.getD (0 + 2 : Int).toNat 0).toNat ∧ digI (x.getD (0 + 2 : Int).toNat 0).toNat < 16) ↔ hexHead x = true := by rw [hexHead_iff, ← hmk]
  refine W.ifs (ET.iff (et_and2 (et_b (Ev.bo (Ev.loc rfl))) fun h => et_lelt ev_int (ev_call1 fn_digit_of O' (ev_idx (Ev.y (Ev.loc rfl)) (ev_add (Ev.i (Ev.loc rfl)) ev_int) (by omega) (by omega) (hmk.mp h).1) (digitOf_p O')) ev_int) hx) (fun h => ?_) fun h => ?_
  · have h2 := hex_len h
    refine W.pairS (R1 := I 2) (R2 := I 16) O' ?a2 ?b2 fun v0 v1 ⟨t2, q2⟩ ⟨t3, q3⟩ => ?_
    case a2 => exact Ev.ieq (ev_add (Ev.i (Ev.loc rfl)) ev_int) rfl
    case b2 => exact ev_int
    subst q2 q3
    exact tail _ _ ⟨rfl, 2, 16, 16, t2, t3, rfl, by omega, ⟨by decide, nofun, fun _ => rfl⟩, by rw [numVal, if_pos h]⟩
  · exact tail _ _ ⟨rfl, 0, 0, 10, t0, u, Eq.trans (updO_self (x := Str.ofString "base") (o := some (.int 0 u)) rfl) (updO_self (x := Str.ofString "at") (o := some (.int 0 t0)) rfl), by omega, ⟨by decide, fun _ => rfl, fun q => absurd rfl q⟩, by rw [numVal, if_neg h, List.drop_zero, Nat.sub_zero]⟩
theorem strNum_p (O : Ok P env (k + 4)) (S : Stat P.prog P.w c P.g) (hz : (a :: l').length ≤ 1000) (ha : isDigI a.toNat = true ∨ a = 46) :
    ∀ u w, Y (a :: l') u → V (.ref c.lim) w → CallP P l (.ref 138) [u, w] (NumR (numVal (a :: l'))) := by
  rintro _ _ ⟨t, rfl⟩ rfl
  have hd : (48 ≤ (a.toNat : Int) ∧ (a.toNat : Int) ≤ 57) ∨ a.toNat = 46 := by
    rcases ha with ha | rfl
    · exact .inl (by simpa [isDigI] using ha)
    · exact .inr rfl
  have h1 : isBlkV a = false := by
    have e : ∀ b ∈ ([32, 9, 10, 11, 12, 13] : List UInt8), a ≠ b := by
      intro b hb q
      subst q
      simp only [List.mem_cons, List.not_mem_nil, or_false] at hb
      rcases hb with rfl | rfl | rfl | rfl | rfl | rfl <;> revert hd <;> decide
    unfold isBlkV
    rw [Bool.eq_false_iff]
    intro q
    exact e a (List.contains_iff_mem.mp q) rfl
  have h2 : a ≠ 43 ∧ a ≠ 45 := ⟨by rintro rfl; revert hd; decide, by rintro rfl; revert hd; decide⟩
  refine' call_pure [(Str.ofString "text", .bytes (a :: l').toArray t), (Str.ofString "limits", .ref c.lim)] O ?k1 ?k2 ?k3 ?k4 ?_
  walk_at "sides"
  intro P' J O' Qf Ef fin
  exact W.retP' fin (ev_call3 fn_text_in_base O' (Ev.y (Ev.loc rfl)) ev_int (Ev.loc rfl) (textIn_p O' (J.stat S) hz h1 h2))
end
end
section
set_option maxHeartbeats 2000000
theorem bn_ba {w : World} : Bn w (Str.ofString "bytearray") (.type "bytearray") := ⟨by k_is, boot_ba, by decide, rfl⟩
def RetTok (kk : Value → Ld → Prop) (c : LC) (rest : Ld) (o : Tk) : Prop := ∀ y' x lt buf' k v r', o = some (k, v, r') → Inv c y' r' buf' → TokAt x k v lt → kk (.ref x) (Lx c y' ++ (lt ++ rest))
section
variable {P : Pt} {cn x name : Str} {cs : Scope} {f : Addr} {cd v : Value} {cl : List (Str × Addr)} {m : Mp} {l r : Ld} {k : Nat} {e e1 : Expr} {p1 p2 pos : Pos} {kk : Value → Ld → Prop} {Q : Flow → Shared → Prop} {E : Value → Shared → Prop} {rest : List Stmt} {c : LC} {y : LD} {es : List Expr} {nz : List Int} {q buf : Bs} {j : Nat} {env : Env}
theorem ba0_new {prog : Program} {w : World} {A : Around} {s : Shared} {g : Heap} {L : Addr} {news : Ld} {Q : Value → Shared → Prop} (F : Fr g L s.heap m) (N : News g L s.heap news) (h : ∀ h' b, (∀ p ∈ news, p.1 < b) → Fr g L h' m → News g L h' ((b, baObj []) :: news) → Q (.ref b) { s with heap := h' }) :
    wpN (model prog w) A (call (.type "bytearray") []) Q E s :=
  call_ba0 fun h' hk hb => h h' _ (fun p hp => Heap.lt_size (N p hp).1) (F.keeps hk) (fun q hq => by
    rcases List.mem_cons.mp hq with rfl | hq
    · refine ⟨hb, fun e => ?_, ?_⟩
      · obtain ⟨o, _, _, ho, _⟩ := F.ns
        dsimp only at e
        have := Heap.lt_size ho
        rw [← e] at this
        exact Nat.lt_irrefl _ this
      · dsimp only
        cases z : g.get? s.heap.objs.size with
        | none => rfl
        | some o => exact absurd (Heap.lt_size (F.keep _ _ z)) (Nat.lt_irrefl _)
    · exact ⟨hk _ _ (N q hq).1, (N q hq).2⟩)
theorem em_ba (hb : P.b = true) (O : Ok P (envX cn cs P.L f cd cl) k) (hk : ∀ b, (∀ p ∈ l, p.1 < b) → kk (.ref b) ((b, baObj []) :: l)) (hx : isG cs (Str.ofString "bytearray") = true := by rfl) : Em P (envX cn cs P.L f cd cl) m l (.Call (.Name (Str.ofString "bytearray") p1) [] [] pos) kk E := fun hp tk H Q hQ => by
  rw [evalCall, hb]
  refine wpB.bindA (Ev.blt bn_ba O hx hp tk H _ _ fun v' h' tk' hv' H' => ?_)
  subst hv'
  exact bCallWithP (first := []) (backTo_any (es := []) rfl) (bn_ba (w := P.w)).kp (args_nil (wpB.of_n (ba0_new (s := P.S h' tk') H'.F H'.N fun h2 b lo F2 N2 => hQ _ _ h2 tk' (hk b lo) ⟨F2, N2⟩)))
theorem SetL.pre {xa : Addr} {l1 l2 : Ld} (h : SetL P xa name v l1 l2) (hs : ∀ p ∈ l1, p ∈ l) : SetL P xa name v l l2 := fun m hp tk H => h m hp tk (H.sub hs)
theorem ba_front {b : Addr} {o : Obj} : ∀ p ∈ Lx c y ++ (b, o) :: r, p ∈ (b, o) :: (Lx c y ++ r) := fun p hp => by
  rcases List.mem_append.mp hp with hp | hp
  · exact .tail _ (List.mem_append_left _ hp)
  · rcases List.mem_cons.mp hp with rfl | hp
    · exact .head _
    · exact .tail _ (List.mem_append_right _ hp)
theorem et_notin {D : Addr} {vs : List Value} {n : Int} {e2 : Expr} (h1 : Ev P env m l e1 (I n)) (h2 : Ev P env m l e2 (V (.ref D))) (hD : P.g.get? D = some (tupO vs)) (hv : IntsAre vs nz) (hm : behindInMarks .NotIn e2 = false := by with_unfolding_all rfl) : ET P env m l (.Compare e1 [.NotIn] [e2] pos) ((nz.any fun x => x == n) = false) := fun hp tk H Q E hQ =>
  wpAny_isTrue_Compare1 (h1 hp tk H _ _ fun v ha ta ⟨t, q⟩ Ha => h2 ha ta Ha _ _ fun u hb tb q' Hb => by
    subst q q'
    exact notin_tuple_ints (s := P.S hb tb) (ns := nz) ⟨_, Hb.F.keep _ _ hD, rfl, _, rfl⟩ (by simpa using hv) (wpAny_truthy_bool (hQ _ hb tb (by simp) Hb))) hm
end
section
variable {P : Pt} {env : Env} {k : Nat} {E : Value → Shared → Prop} {c : LC} {y : LD} {l rest : Ld} {kk : Value → Ld → Prop} {a : UInt8} {r buf : List UInt8} {nz : List Int} {vs : List Value} {q : Addr}
theorem clear_w (hb : P.b = true) (O : Ok P env (k + 1)) (hr : RestOK c rest) (I0 : Inv c y r buf) (h : ∀ y', Inv c y' r [] → kk .none (Lx c y' ++ rest)) : CallW P (Lx c y ++ rest) (.ref 350) [.ref c.x] kk E := by
  refine' lex_def [(Str.ofString "self", .ref c.x)] O hr ?k1 ?k2 ?k3 ?k4 ?_
  walk_at "sides"
  intro P' J O' Qf Ef fin esc
  exact W.setM rfl (em_ba (J.b.trans hb) O' fun b _ => ⟨_, (setL_buffer O' RestOK.nil).pre ba_front, W.done fin (h _ ⟨I0.suf, I0.sg, rfl, I0.ln, I0.sz⟩)⟩)
theorem keepIf_w (hb : P.b = true) (O : Ok P env (k + 3)) (hr : RestOK c rest) (S : Stat P.prog P.w c P.g) (I0 : Inv c y r buf) (hz : buf.length < 400000) (hq : (q, tupO vs) ∈ rest) (hv : IntsAre vs nz) (hpos : nz.all (0 ≤ ·) = true)
    (hy : ∀ a r' y', r = a :: r' → (nz.any fun x => x == (a.toNat : Int)) = true → Inv c y' r' (buf ++ [a]) → kk (.bool true) (Lx c y' ++ rest)) (hn : (nz.any fun x => x == sgnL r) = false → kk (.bool false) (Lx c y ++ rest)) :
    CallW P (Lx c y ++ rest) (.ref 343) [.ref c.x, .ref q] kk E := by
  refine' lex_def [(Str.ofString "self", .ref c.x), (Str.ofString "signs", .ref q)] O hr ?k1 ?k2 ?k3 ?k4 ?_
  walk_at "sides"
  intro P' J O' Qf Ef fin esc
  refine W.ifs (et_notin (ev_sign O' rfl) (Ev.loc rfl) (J.rs _ hq) hv) (fun h => ?_) fun h => ?_
  · exact W.retV fin.r ev_bool (hn (by rw [← I0.sg]; exact h))
  · rw [Bool.not_eq_false, I0.sg] at h
    cases r with
    | nil =>
      obtain ⟨x, hx, e⟩ := List.any_eq_true.mp h
      have h0 := List.all_eq_true.mp hpos x hx
      rw [beq_iff_eq.mp e] at h0
      exact absurd h0 (by decide)
    | cons a r' =>
      exact W.expr (em_meth0 mt_keep_and_move O' rfl (keepMove_w (J.b.trans hb) O' RestOK.nil (J.stat S) I0 (by omega) fun y' I' => W.retV fin.r ev_bool (hy a r' y' rfl h I')))
end
section
variable {P : Pt} {cn x name : Str} {cs : Scope} {f : Addr} {cd v : Value} {cl : List (Str × Addr)} {m : Mp} {l r : Ld} {k : Nat} {e e1 test : Expr} {p1 p2 p4 pos : Pos} {kk : Value → Ld → Prop} {Q : Flow → Shared → Prop} {E : Value → Shared → Prop} {rest : List Stmt} {c : LC} {y : LD} {es : List Expr} {nz : List Int} {q buf : Bs} {j : Nat}
theorem em_keepIf (hb : P.b = true) (O : Ok P (envX cn cs P.L f cd cl) (k + 3)) (S : Stat P.prog P.w c P.g) (hm : m x = some (.ref c.x)) (I0 : Inv c y q buf) (hz : buf.length < 400000) (h1 : Evs P (envX cn cs P.L f cd cl) m (Lx c y ++ []) es (fun vs => IntsAre vs nz)) (hpos : nz.all (0 ≤ ·) = true := by decide)
    (hy : ∀ a r' y', q = a :: r' → (nz.any fun x => x == (a.toNat : Int)) = true → Inv c y' r' (buf ++ [a]) → kk (.bool true) (Lx c y' ++ [])) (hn : (nz.any fun x => x == sgnL q) = false → kk (.bool false) (Lx c y ++ []))
    (hx : isL cs x = true := by rfl) (hl : (p2.endLine == pos.line) = true := by rfl) (hlen : nz.length ≤ 100 := by decide) : Em P (envX cn cs P.L f cd cl) m (Lx c y ++ []) (.Call (.Attribute (.Name x p1) (Str.ofString "keep_if") p2) [.Tuple es j p4] [] pos) kk E := fun hp tk H Q hQ => by
  refine bCallMeth (Ev.loc hm hx hp tk H _ _ fun v' h' tk' hv' H' => ?_) hl (meth_form (es := [.Tuple es j p4]) rfl) evalMeth baseName
  subst hv'
  refine method_inst (s := P.S h' tk') (K := (Mine.H.hd.heap_1_1 P.w.params)) (C := 465) (es := lexEnt c y) (n := c.n) H'.F O.X (lx_inst (s := P.S h' tk') H'.N) mt_keep_if.pg mt_keep_if.at_ mt_keep_if.fn (mt_keep_if (w := P.w) |>.no c y) ?_
  refine bCallWith (first := [.ref c.x]) (backTo_any (es := [.Tuple es j p4]) rfl) (mt_keep_if (w := P.w)).kp (args_cons ?_)
  refine ew_tuple (kk := fun v l' => ∃ D vs, v = .ref D ∧ l' = (D, tupO vs) :: (Lx c y ++ []) ∧ IntsAre vs nz ∧ ∀ q ∈ Lx c y ++ [], q.1 < D) h1 (fun vs hv => by rw [hv.length]; exact hlen) (fun vs D hv lo => ⟨D, vs, rfl, rfl, hv, lo⟩) h' tk' H' _ _ fun v l' h2 t2 hv H2 => ?_
  obtain ⟨D, vs, rfl, rfl, hv, lo⟩ := hv
  refine args_nil ⟨O.X.keeps H2.F.keep, ?_⟩
  have hlt : c.d < D := lo _ (.tail _ (.head _))
  have sub : ∀ y', ∀ p ∈ Lx c y' ++ [], p ∈ Lx c y' ++ [(D, tupO vs)] := fun y' p hp => by rw [List.append_nil] at hp; exact List.mem_append_left _ hp
  exact keepIf_w (kk := fun v l' => ∃ l0, kk v l0 ∧ ∀ p ∈ l0, p ∈ l') (rest := [(D, tupO vs)]) hb O (RestOK.cons (Nat.ne_of_gt hlt) (by simp) (by simp) RestOK.nil) S I0 hz (.head _) hv hpos
    (fun a r' y' e h I' => ⟨_, hy a r' y' e h I', sub y'⟩) (fun h => ⟨_, hn h, sub y⟩) m h2 t2 (H2.sub ba_front) Q fun v l' h' tk' ⟨l0, hk, hs⟩ H' => hQ v l0 h' tk' hk (H'.sub hs)
theorem etm_keepIf {kt kf : Ld → Prop} (hb : P.b = true) (O : Ok P (envX cn cs P.L f cd cl) (k + 3)) (S : Stat P.prog P.w c P.g) (hm : m x = some (.ref c.x)) (I0 : Inv c y q buf) (hz : buf.length < 400000) (h1 : Evs P (envX cn cs P.L f cd cl) m (Lx c y ++ []) es (fun vs => IntsAre vs nz))
    (hy : ∀ a r' y', q = a :: r' → (nz.any fun x => x == (a.toNat : Int)) = true → Inv c y' r' (buf ++ [a]) → kt (Lx c y' ++ [])) (hn : (nz.any fun x => x == sgnL q) = false → kf (Lx c y ++ [])) (hpos : nz.all (0 ≤ ·) = true := by decide)
    (hx : isL cs x = true := by rfl) (hl : (p2.endLine == pos.line) = true := by rfl) (hlen : nz.length ≤ 100 := by decide) : EtM P (envX cn cs P.L f cd cl) m (Lx c y ++ []) (.Call (.Attribute (.Name x p1) (Str.ofString "keep_if") p2) [.Tuple es j p4] [] pos) kt kf E :=
  EtM.call (em_keepIf hb O S hm I0 hz h1 hpos (fun a r' y' e h I' => .inl ⟨rfl, hy a r' y' e h I'⟩) (fun h => .inr ⟨rfl, hn h⟩) hx hl hlen) rfl
end
end
section
set_option maxHeartbeats 2000000
section
variable {P : Pt} {cn x name : Str} {cs : Scope} {f : Addr} {cd v : Value} {cl : List (Str × Addr)} {m : Mp} {l : Ld} {k : Nat} {e e1 test : Expr} {p1 p2 p3 p4 pos : Pos} {Q : Flow → Shared → Prop} {E : Value → Shared → Prop} {rest : List Stmt} {c : LC} {y : LD} {r buf : Bs} {p : UInt8 → Bool} {tp : Int → Prop}
theorem W.eat (p : UInt8 → Bool) (hb : P.b = true) (O : Ok P (envX cn cs P.L f cd cl) (k + 2)) (S : Stat P.prog P.w c P.g) (hm : m x = some (.ref c.x)) (htest : ∀ y1, ET P (envX cn cs P.L f cd cl) m (Lx c y1 ++ []) test (tp y1.sg)) (h0 : ¬ tp (-1)) (h1 : ∀ a : UInt8, tp a.toNat ↔ p a = true)
    (I0 : Inv c y r buf) (hz : buf.length + r.length ≤ 2000) (h : ∀ y', Inv c y' (r.dropWhile p) (buf ++ r.takeWhile p) → W P (envX cn cs P.L f cd cl) m (Lx c y' ++ []) rest Q E) (hx : isL cs x = true := by rfl) (hl : (p2.endLine == p3.line) = true := by rfl) (hi : interactive (envX cn cs P.L f cd cl) = false := by rfl)
    (hs : swapsWith (.Call (.Attribute (.Name x p1) (Str.ofString "keep_and_move") p2) [] [] p3) none p4.line (envX cn cs P.L f cd cl) = pure false := by rfl) :
    W P (envX cn cs P.L f cd cl) m (Lx c y ++ []) (.While test [.Expr (.Call (.Attribute (.Name x p1) (Str.ofString "keep_and_move") p2) [] [] p3) p4] [] pos :: rest) Q E := by
  refine W.whl3 (fun (y : LD) (s b : Bs) => An4 (Inv c y s b) (b.length + s.length = buf.length + r.length) (b ++ s.takeWhile p = buf ++ r.takeWhile p) (s.dropWhile p = r.dropWhile p)) (fun _ s _ => s.length) (fun _ _ _ => m) (fun y _ _ => Lx c y ++ []) O ?_ y r buf ⟨I0, rfl, rfl, rfl⟩
  intro y1 s b ⟨I1, e1, e2, e3⟩ Qb Eb lp nx
  refine EtM.of (htest y1) (fun hp => ?_) fun hp => ?_
  · cases s with
    | nil => exact absurd (show tp (sgnL []) from I1.sg ▸ hp) h0
    | cons a s =>
      have ha : p a = true := (h1 a).mp (show tp (sgnL (a :: s)) from I1.sg ▸ hp)
      rw [List.length_cons] at e1
      refine W.expr (em_meth0 mt_keep_and_move O hm (keepMove_w hb O RestOK.nil S I1 (by (first | lia | omega)) fun y2 I2 => ?_) hx hl) hi hs
      exact nx y2 s (b ++ [a]) ⟨I2, by rw [List.length_append, List.length_singleton]; (first | lia | omega), (tw_step ha).trans e2, (dw_step ha).trans e3⟩ (Nat.lt_succ_self _)
  · obtain ⟨q1, q2⟩ := tw_stop (p := p) (r := s) fun a s' e => by
      subst e
      exact Bool.eq_false_iff.mpr fun q => hp (I1.sg ▸ (show tp (sgnL (a :: s')) from (h1 a).mpr q))
    rw [q1, List.append_nil] at e2
    rw [q2] at e3
    exact h y1 (e2 ▸ e3 ▸ I1)
end
section
variable {P : Pt} {env : Env} {k : Nat} {E : Value → Shared → Prop} {c : LC} {y : LD} {l rest : Ld} {kk : Value → Ld → Prop} {a : UInt8} {r buf : Bs}
theorem kinds_get {prog : Program} {w : World} {A : Around} {s : Shared} {g : Heap} {L : Addr} {m : Mp} {c : LC} {wd : Bs} {t : Tok} {Q : Value → Shared → Prop} (S : Stat prog w c g) (F : Fr g L s.heap m)
    (h0 : ∀ tk', kwOf wd = none → Q .none { s with toks := tk' }) (h1 : ∀ (i : Nat) u tk', kwOf wd = some i → Q (.int (257 + i) u) { s with toks := tk' }) : wpAny (model prog w) A (call (.builtin "dict.get") [.ref c.kd, .bytes wd.toArray t]) Q E s := by
  obtain ⟨ts, hl, D⟩ := S.kinds
  have D' := D.keep F.keep
  have hv := kw_val (wd := wd) resList ts 0 (by rw [hl]; rfl)
  refine call_meetsIn PySem.F.slot_dict_get D'.typeIs PySem.F.entry_dict_get (PySem.F.args_dict_get_2 _ _) (meets_dict_get _ c.kd (bytesKind_is prog w wd t) S.kd0) ⟨_, D'.mapOf, ?_⟩
  cases hf : resList.findIdx? (· == wd) with
  | none => rw [hf] at hv; rw [hv]; exact h0 _ hf
  | some i => rw [hf] at hv; obtain ⟨u, hu⟩ := hv; rw [hu]; exact h1 i u _ hf
theorem kinds_meth {prog : Program} {w : World} {A : Around} {s : Shared} {pl : Sem Bool} {g : Heap} {L : Addr} {m : Mp} {c : LC} {Q : Value × List Value → Shared → Prop} (S : Stat prog w c g) (F : Fr g L s.heap m) (h : Q (.builtin "dict.get", [.ref c.kd]) s) : wpAny (model prog w) A (getMethod (.ref c.kd) (Str.ofString "get") pl) Q E s := by
  obtain ⟨ts, hl, D⟩ := S.kinds
  have hD := D.keep F.keep
  exact getMethod_builtin hD.typeIs PySem.F.plainAttrs_dict PySem.F.slot_dict_get PySem.F.type_dict_get hD.mapOf.noDict h
theorem ev_kind {cn x : Str} {cs : Scope} {f : Addr} {cd : Value} {cl : List (Str × Addr)} {m : Mp} {r : Ld} {e1 : Expr} {p1 p2 p3 pos : Pos} {wd : Bs} (O : Ok P (envX cn cs P.L f cd cl) k) (S : Stat P.prog P.w c P.g) (hm : m x = some (.ref c.x)) (h1 : Ev P (envX cn cs P.L f cd cl) m (Lx c y ++ r) e1 (Y wd))
    (hx : isL cs x = true := by rfl) (hl : (p3.endLine == pos.line) = true := by rfl) (hz : okEs [e1] = true := by rfl) :
    Ev P (envX cn cs P.L f cd cl) m (Lx c y ++ r) (.Call (.Attribute (.Attribute (.Name x p1) (Str.ofString "kinds") p2) (Str.ofString "get") p3) [e1] [] pos) (NumR ((kwOf wd).map fun i => 257 + (i : Int))) := fun hp tk H Q E hQ => by
  refine wpB.to_any (bCallMeth (b := false) (ev_kinds O hm hx hp tk H _ _ fun v' h' tk' hv' H' => ?_) hl (meth_form hz) evalMethA rfl)
  subst hv'
  refine kinds_meth (s := P.S h' tk') S H'.F ?_
  refine bCallWithP (first := [.ref c.kd]) (backTo_any hz) rfl (evs1 h1 hz h' tk' pos H' _ _ fun vs h2 t2 ⟨v, e, t, q⟩ H2 => wpB.of_any ?_)
  subst e q
  exact kinds_get (s := P.S h2 t2) S H2.F (fun tk' hk => hQ _ h2 tk' (by rw [hk]; rfl) H2) fun i u tk' hk => hQ _ h2 tk' (by rw [hk]; exact ⟨u, rfl⟩) H2
theorem compared_w (O : Ok P env (k + 3)) (hr : RestOK c rest) (I0 : Inv c y (a :: r) buf) (h : ∀ y' x lt, Inv c y' (cmpR a r).2 buf → TokAt x (cmpR a r).1 .no lt → kk (.ref x) (Lx c y' ++ (lt ++ rest))) : ∀ u, I a.toNat u → CallW P (Lx c y ++ rest) (.ref 392) [.ref c.x, u] kk E := by
  rintro _ ⟨t, rfl⟩
  refine' lex_def [(Str.ofString "self", .ref c.x), (Str.ofString "sign", .int a.toNat t)] O hr ?k1 ?k2 ?k3 ?k4 ?_
  walk_at "sides"
  intro P' J O' Qf Ef fin esc
  refine W.expr (em_meth0 mt_move O' rfl (move_w O' RestOK.nil I0 fun y1 I1 _ => ?_))
  refine W.ifs (p := ¬ y1.sg = 61) (by walk_at "et") (fun hn => ?_) fun hy => ?_
  · rw [cmpR_no (by rw [← I1.sg]; exact hn)] at h
    exact W.retTok O' fin.r (Ev.i (Ev.loc rfl)) ev_none (vl := .no) (fun _ q => q) fun x lt hT => h y1 x lt I1 hT
  · cases r with
    | nil => exact absurd (by rw [I1.sg]; decide) hy
    | cons b r =>
      obtain rfl : b = 61 := sg_eq 61 (show y1.sg = b.toNat from I1.sg) (Decidable.not_not.mp hy)
      rw [cmpR_yes] at h
      refine W.expr (em_meth0 mt_move O' rfl (move_w O' RestOK.nil I1 fun y2 I2 _ => ?_))
      have hne : ∀ b : UInt8, ¬ ((a.toNat : Int) = b.toNat) → ¬ a = b := fun b q e => q (by rw [e])
      refine W.ifs (p := (a.toNat : Int) = 61) (by walk_at "et") (fun q => ?_) fun n1 => ?_
      · rw [if_pos (byte_of 61 q)] at h
        exact W.retTok O' fin.r (Ev.gi O' gi_TK_EQ) ev_none (vl := .no) (fun _ q => q) fun x lt hT => h y2 x lt I2 hT
      refine W.ifs (p := (a.toNat : Int) = 60) (by walk_at "et") (fun q => ?_) fun n2 => ?_
      · rw [if_neg (hne 61 n1), if_pos (byte_of 60 q)] at h
        exact W.retTok O' fin.r (Ev.gi O' gi_TK_LE) ev_none (vl := .no) (fun _ q => q) fun x lt hT => h y2 x lt I2 hT
      rw [if_neg (hne 61 n1), if_neg (hne 60 n2)] at h
      exact W.retTok O' fin.r (ev_if (p := (a.toNat : Int) = 62) (by walk_at "et") (fun q => Ev.ieq (Ev.gi O' gi_TK_GE) (if_pos (byte_of 62 q)).symm) fun q => Ev.ieq (Ev.gi O' gi_TK_NE) (if_neg (hne 62 q)).symm) ev_none (vl := .no) (fun _ q => q) fun x lt hT => h y2 x lt I2 hT
theorem word_w (hb : P.b = true) (O : Ok P env (k + 4)) (hr : RestOK c rest) (S : Stat P.prog P.w c P.g) (I0 : Inv c y r []) (hz : r.length ≤ 1000) (h : RetTok kk c rest (wordTok r)) : CallW P (Lx c y ++ rest) (.ref 406) [.ref c.x] kk E := by
  refine' lex_def [(Str.ofString "self", .ref c.x)] O hr ?k1 ?k2 ?k3 ?k4 ?_
  walk_at "sides"
  intro P' J O' Qf Ef fin esc
  have S' := J.stat S
  refine W.eat isNm (tp := fun i => isNamI i = true) (J.b.trans hb) O' S' rfl (fun y1 => et_b (ev_call1 fn_is_name_sign O' (ev_sign O' rfl) (isName_p O'))) (by decide) (fun a => Iff.rfl) I0 (by simp; (first | lia | omega)) fun y1 I1 => ?_
  rw [List.nil_append] at I1
  have hz1 : (r.takeWhile isNm).length ≤ 1000 := Nat.le_trans (List.takeWhile_prefix _).length_le hz
  have eb := I1.buf
  refine W.asgY (i := r.takeWhile isNm) ?a fun t => ?_
  case a => exact Ev.yeq (ev_bytesbuf O' (ev_buffer O' rfl) (by rw [eb]; (first | lia | omega))) eb
  refine W.asg (R := NumR ((kwOf (r.takeWhile isNm)).map fun i => 257 + (i : Int))) ?a2 fun v hv => ?_
  case a2 => exact ev_kind O' S' rfl (Ev.y (Ev.loc rfl))
  unfold wordTok at h
  cases hk : kwOf (r.takeWhile isNm) with
  | none =>
    rw [hk] at h hv
    obtain rfl : v = .none := hv
    exact W.retE fin.r (em_ifT (et_isnone (Ev.loc rfl) ev_none) (fun _ => em_tokLx O' (Ev.gi O' gi_TK_NAME) (Ev.loc rfl) (vl := .by (r.takeWhile isNm)) (fun _ q => ⟨t, q⟩) fun x lt hT => h y1 x lt _ _ _ _ rfl I1 hT) fun q => absurd rfl q)
  | some i =>
    rw [hk] at h hv
    obtain ⟨ti, rfl⟩ := hv
    exact W.retE fin.r (em_ifT (et_isnone (Ev.loc rfl) ev_none) (fun q => nomatch q) fun _ => em_tokLx O' (Ev.i (Ev.loc rfl)) ev_none (vl := .no) (fun _ q => q) fun x lt hT => h y1 x lt _ _ _ _ rfl I1 hT)
end
end
section
set_option maxHeartbeats 2000000
theorem RetTok.inn {kk : Value → Ld → Prop} {c : LC} {rest : Ld} {o : Tk} (h : RetTok kk c rest o) : RetTok (kR kk rest) c [] o := fun y' x lt buf' k v r' e I' hT => by
  have := h y' x lt buf' k v r' e I' hT
  show kk _ ((Lx c y' ++ (lt ++ [])) ++ rest)
  rw [List.append_nil, List.append_assoc]
  exact this
section
variable {P : Pt} {cn x name : Str} {cs : Scope} {f : Addr} {cd v : Value} {cl : List (Str × Addr)} {m : Mp} {l : Ld} {k : Nat} {e e1 e2 : Expr} {p1 p2 p3 p4 pos : Pos} {Q : Flow → Shared → Prop} {E : Value → Shared → Prop} {rest : List Stmt} {c : LC} {y : LD} {r buf : Bs} {i : Int}
theorem W.err (O : Ok P (envX cn cs P.L f cd cl) (k + 4)) (S : Stat P.prog P.w c P.g) (hm : m x = some (.ref c.x)) (I0 : Inv c y r buf) (hz : buf.length ≤ 1000) (h1 : Ev P (envX cn cs P.L f cd cl) m (Lx c y ++ []) e1 (Ys 100)) (h2 : Ev P (envX cn cs P.L f cd cl) m (Lx c y ++ []) e2 (I i)) (hE : EscF P (envX cn cs P.L f cd cl) E) (hi : i = 284 ∨ i = 286 ∨ i = 287 ∨ i = 91 := by decide)
    (hx : isL cs x = true := by rfl) (hl : (p2.endLine == p3.line) = true := by rfl) (hz2 : okEs [e1, e2] = true := by rfl) (hi2 : interactive (envX cn cs P.L f cd cl) = false := by rfl) (hs : swapsWith (.Call (.Attribute (.Name x p1) (Str.ofString "error") p2) [e1, e2] [] p3) none pos.line (envX cn cs P.L f cd cl) = pure false := by rfl) :
    W P (envX cn cs P.L f cd cl) m (Lx c y ++ []) (.Expr (.Call (.Attribute (.Name x p1) (Str.ofString "error") p2) [e1, e2] [] p3) pos :: rest) Q E :=
  W.expr (em_meth2 mt_error O hm h1 h2 (error_w O RestOK.nil S I0 hz hi hE) hx hl hz2) hi2 hs
theorem ev_short {b : List UInt8} {n : Nat} (h : b.length ≤ 100 := by decide) : Ev P (envX cn cs P.L f cd cl) m l (.Constant (.bytes b) n pos) (Ys 100) := Ev.ys ev_bytes h
end
section
variable {P : Pt} {env : Env} {k : Nat} {E : Value → Shared → Prop} {c : LC} {y : LD} {l rest : Ld} {kk : Value → Ld → Prop} {a : UInt8} {r buf : Bs} {i : Int}
theorem numeral_w (hb : P.b = true) (O : Ok P env (k + 5)) (hr : RestOK c rest) (S : Stat P.prog P.w c P.g) (I0 : Inv c y r buf) (hz : buf.length + r.length ≤ 1000) (hh : ∃ a b', buf ++ r.takeWhile isDD = a :: b' ∧ (isDigI a.toNat = true ∨ a = 46)) (h : RetTok kk c rest (numTok buf r)) (hE : numTok buf r = none → EscF P env E) :
    CallW P (Lx c y ++ rest) (.ref 413) [.ref c.x] kk E := by
  refine' lex_def [(Str.ofString "self", .ref c.x)] O hr ?k1 ?k2 ?k3 ?k4 ?_
  walk_at "sides"
  intro P' J O' Qf Ef fin esc
  have S' := J.stat S
  have hb' := J.b.trans hb
  refine W.eat isDD (tp := fun i => isDigI i = true ∨ i = 46) hb' O' S' rfl (fun y1 => et_or2 (et_b (ev_call1 fn_is_digit O' (ev_sign O' rfl) (isDigit_p O'))) fun _ => by walk_at "et") (by decide) (fun a => by simp [isDD]) I0 (by (first | lia | omega)) fun y1 I1 => ?_
  have hl1 : (buf ++ r.takeWhile isDD).length + (r.dropWhile isDD).length = buf.length + r.length := by
    rw [List.length_append, Nat.add_assoc, ← List.length_append, List.takeWhile_append_dropWhile]
  refine W.cut (fun m' l' => m' = (fun y => List.lookup y [(Str.ofString "self", Value.ref c.x)].reverse) ∧ ∃ y2, l' = Lx c y2 ++ [] ∧ Inv c y2 (expR (r.dropWhile isDD)).2 ((buf ++ r.takeWhile isDD) ++ (expR (r.dropWhile isDD)).1) ∧ ((buf ++ r.takeWhile isDD) ++ (expR (r.dropWhile isDD)).1).length + (expR (r.dropWhile isDD)).2.length = buf.length + r.length) ?tail fun tail => ?_
  case tail =>
    rintro _ _ ⟨rfl, y2, rfl, I2, hl2⟩
    refine W.eat isNm (tp := fun i => isNamI i = true) hb' O' S' rfl (fun y1 => et_b (ev_call1 fn_is_name_sign O' (ev_sign O' rfl) (isName_p O'))) (by decide) (fun a => Iff.rfl) I2 (by (first | lia | omega)) fun y3 I3 => ?_
    change Inv c y3 (numR buf r).2 (numR buf r).1 at I3
    obtain ⟨a0, b0, hab, ha⟩ := hh
    obtain ⟨l0, hl0⟩ : ∃ l0, (numR buf r).1 = a0 :: l0 := ⟨_, by unfold numR; rw [hab]; rfl⟩
    have hl3 : (numR buf r).1.length ≤ buf.length + r.length := by
      show (_ ++ _ : Bs).length ≤ _
      have := (List.takeWhile_prefix isNm (l := (expR (r.dropWhile isDD)).2)).length_le
      rw [List.length_append]; (first | lia | omega)
    have eb := I3.buf
    have hz3 : (a0 :: l0).length ≤ 1000 := by rw [← hl0]; (first | lia | omega)
    refine W.asg (R := NumR (numVal (a0 :: l0))) ?a3 fun v hv => ?_
    case a3 => exact ev_call2 fn_str_to_number O' (Ev.yeq (ev_bytesbuf O' (ev_buffer O' rfl) (by rw [eb]; (first | lia | omega))) (eb.trans hl0)) (ev_limits O' rfl) (strNum_p O' S' hz3 ha)
    unfold numTok at h hE
    rw [hl0] at h hE
    cases hn : numVal (a0 :: l0) with
    | none =>
      rw [hn] at hv hE
      obtain rfl : v = .none := hv
      exact W.ifs (et_isnone (Ev.loc rfl) ev_none) (fun _ => W.err O' S' rfl I3 (by (first | lia | omega)) ev_short (Ev.gi O' gi_TK_NUMBER) (esc (hE rfl)).1.f) fun q => absurd rfl q
    | some i =>
      rw [hn] at hv h
      obtain ⟨ti, rfl⟩ := hv
      exact W.ifs (et_isnone (Ev.loc rfl) ev_none) (fun q => nomatch q) fun _ => W.retTok O' fin.r (Ev.gi O' gi_TK_NUMBER) (Ev.loc rfl) (vl := .nu i) (fun _ q => ⟨ti, q⟩) fun x lt hT => h y3 x lt _ _ _ _ rfl I3 hT
  generalize r.dropWhile isDD = r1 at *
  generalize buf ++ r.takeWhile isDD = b1 at *
  refine W.ifT (etm_keepIf hb' O' S' rfl I1 (by (first | lia | omega)) (evsI ev_int (evsI ev_int evsI0)) (fun a r' y2 e ha I2 => ?_) fun hn => ?_)
  · subst e
    refine W.expr (em_keepIf hb' O' S' rfl I2 (by simp; (first | lia | omega)) (evsI (Ev.gi O' gi_PLUS) (evsI (Ev.gi O' gi_MINUS) evsI0)) (hy := fun b r2 y3 e hb2 I3 => ?_) (hn := fun hn2 => ?_))
    · subst e
      rw [expR_2 ha hb2] at tail
      exact tail _ _ ⟨rfl, y3, rfl, by simpa using I3, by simp at hl1 ⊢; (first | lia | omega)⟩
    · rw [expR_1 ha hn2] at tail
      exact tail _ _ ⟨rfl, y2, rfl, I2, by simp at hl1 ⊢; (first | lia | omega)⟩
  · rw [expR_no hn] at tail
    exact tail _ _ ⟨rfl, y1, rfl, by simpa using I1, by simpa using hl1⟩
theorem dots_w (hb : P.b = true) (O : Ok P env (k + 6)) (hr : RestOK c rest) (S : Stat P.prog P.w c P.g) (I0 : Inv c y (46 :: r) []) (hz : r.length ≤ 900) (h : RetTok kk c rest (dotR r)) (hE : dotR r = none → EscF P env E) : CallW P (Lx c y ++ rest) (.ref 399) [.ref c.x] kk E := by
  refine' lex_def [(Str.ofString "self", .ref c.x)] O hr ?k1 ?k2 ?k3 ?k4 ?_
  walk_at "sides"
  intro P' J O' Qf Ef fin esc
  have S' := J.stat S
  have hb' := J.b.trans hb
  refine W.expr (em_meth0 mt_keep_and_move O' rfl (keepMove_w hb' O' RestOK.nil S' I0 (by simp) fun y1 I1 => ?_))
  refine W.ifT (etm_keepIf hb' O' S' rfl I1 (by simp) (evsI (Ev.gi O' gi_DOT) evsI0) (fun a r' y2 e ha I2 => ?_) fun hn => ?_)
  · subst e
    refine W.ifT (etm_keepIf hb' O' S' rfl I2 (by simp) (evsI (Ev.gi O' gi_DOT) evsI0) (fun b r2 y3 e hb2 I3 => ?_) fun hn2 => ?_)
    · subst e
      exact W.retTok O' fin.r (Ev.gi O' gi_TK_DOTS) ev_none (vl := .no) (fun _ q => q) fun x lt hT => h y3 x lt _ _ _ _ (dotR_dots ha hb2) I3 hT
    · exact W.retTok O' fin.r (Ev.gi O' gi_TK_CONCAT) ev_none (vl := .no) (fun _ q => q) fun x lt hT => h y2 x lt _ _ _ _ (dotR_cat ha hn2) I2 hT
  · rw [dotR_num hn] at h hE
    refine W.ifs (p := isDigI (sgnL r) = true) (by rw [← I1.sg]; exact et_b (ev_call1 fn_is_digit O' (ev_sign O' rfl) (isDigit_p O'))) (fun hp => ?_) fun hp => ?_
    · rw [if_pos hp] at h hE
      exact W.retE fin.r (em_meth0 mt_read_numeral O' rfl (numeral_w hb' O' RestOK.nil S' I1 (by simp; (first | lia | omega)) ⟨46, _, rfl, .inr rfl⟩ h.inn fun q => (esc (hE q)).1.f))
    · rw [if_neg hp] at h
      exact W.retTok O' fin.r (Ev.gi O' gi_DOT) ev_none (vl := .no) (fun _ q => q) fun x lt hT => h y1 x lt _ _ _ _ rfl I1 hT
end
end
section
set_option maxHeartbeats 2000000
section
variable {P : Pt} {cn x name : Str} {cs : Scope} {f : Addr} {cd v : Value} {cl : List (Str × Addr)} {m : Mp} {l : Ld} {k : Nat} {e e1 e2 : Expr} {p1 p2 p3 p4 pos : Pos} {Q : Flow → Shared → Prop} {E : Value → Shared → Prop} {rest : List Stmt} {c : LC} {y : LD} {r buf : Bs} {i : Int} {a : UInt8} {env : Env} {kk : Value → Ld → Prop} {rl : Ld} {n : Nat}
theorem W.retN (fin : FinR P kk rl Q) (h : kk .none (l ++ rl)) : W P env m l (.Return none pos :: rest) Q E := W.ret0 fun _ _ H => fin _ _ _ _ _ H h
theorem ev_find (h1 : Ev P (envX cn cs P.L f cd cl) m l e1 (Y [a])) (hz : okEs [e1] = true := by rfl) (hl : (p2.endLine == pos.line) = true := by rfl) :
    Ev P (envX cn cs P.L f cd cl) m l (.Call (.Attribute (.Constant (.bytes [97, 98, 102, 110, 114, 116, 118]) n p1) (Str.ofString "find") p2) [e1] [] pos) (I (fndI a)) := fun hp tk H Q E hQ => by
  refine wpB.to_any (bCallMeth (b := false) (ev_bytes hp tk H _ _ fun v' h' tk' ⟨t, q⟩ H' => ?_) hl (meth_form hz) rfl rfl)
  subst q
  refine meth_find (s := P.S h' tk') ?_
  refine bCallWithP (backTo_any hz) rfl (evs1 h1 hz h' tk' pos H' _ _ fun vs h2 t2 ⟨v, e, u, q⟩ H2 => wpB.of_any ?_)
  subst e q
  exact by_find (s := P.S h2 t2) fun t tk => hQ _ h2 tk ⟨t, rfl⟩ H2
end
def EscV (a : UInt8) (v : Value) : Prop := (fndI a < 0 ∧ v = .none) ∨ (0 ≤ fndI a ∧ I (escSign a).toNat v)
theorem upd_upd2 {m : Mp} {x z : Str} {v v' u u' : Value} (h : x ≠ z) : upd (upd (upd (upd m x v) z u) x v') z u' = upd (upd m x v') z u' := by
  funext q
  simp only [upd]
  by_cases a : q = x <;> by_cases b : q = z <;> simp_all
section
variable {P : Pt} {env : Env} {k : Nat} {E : Value → Shared → Prop} {c : LC} {y : LD} {l rest : Ld} {kk : Value → Ld → Prop} {a q : UInt8} {r buf : Bs} {i : Int}
theorem escSign_p (O : Ok P env (k + 2)) : ∀ v, I a.toNat v → CallP P l (.ref 231) [v] (EscV a) := by
  rintro _ ⟨t, rfl⟩
  refine' call_pure [(Str.ofString "sign", .int a.toNat t)] O ?k1 ?k2 ?k3 ?k4 ?_
  walk_at "sides"
  intro P' J O' Qf Ef fin
  have hf := fnd_lt a
  have ha := a.toNat_lt
  refine W.asgI (ev_find (a := a) (Ev.yeq (ev_byte1 O' (Ev.i (Ev.loc rfl)) (by (first | lia | omega))) (by simp))) fun t1 => ?_
  refine W.retP' fin (ev_if (p := fndI a < 0) (by walk_at "et") (fun h => Ev.mono ev_none fun v q => .inl ⟨h, q⟩) fun h => ?_)
  have h0 : 0 ≤ fndI a := Int.not_lt.mp h
  exact Ev.mono (Ev.ieq (ev_idx ev_bytes (Ev.i (Ev.loc rfl)) (by decide) h0 hf) (by rw [fnd_yes h0])) fun v q => .inr ⟨h0, q⟩
theorem escDigits_w (hb : P.b = true) (O : Ok P env (k + 5)) (hr : RestOK c rest) (S : Stat P.prog P.w c P.g) (I0 : Inv c y r buf) (hz : buf.length + r.length ≤ 1000) (h : ∀ y', (dig3 3 0 r).1 ≤ 255 → Inv c y' (dig3 3 0 r).2 (buf ++ [(dig3 3 0 r).1.toNat.toUInt8]) → kk .none (Lx c y' ++ rest)) (hE : (dig3 3 0 r).1 > 255 → EscF P env E) :
    CallW P (Lx c y ++ rest) (.ref 462) [.ref c.x] kk E := by
  refine' lex_def [(Str.ofString "self", .ref c.x)] O hr ?k1 ?k2 ?k3 ?k4 ?_
  walk_at "sides"
  intro P' J O' Qf Ef fin esc
  have S' := J.stat S
  have hb' := J.b.trans hb
  refine W.pair (R1 := I 0) (R2 := I 0) O' ?a ?b fun v0 v1 ⟨t0, q0⟩ ⟨t1, q1⟩ => ?_
  case a => exact ev_int
  case b => exact ev_int
  subst q0 q1
  refine W.whl6 (fun (y : LD) (s : Bs) (v : Int) (n : Nat) (_ _ : Tok) => An4 (Inv c y s buf) (dig3 3 0 r = dig3 n v s) (0 ≤ v) (n ≤ 3)) (fun _ _ _ n _ _ => n)
    (fun _ _ v n u1 u2 => upd (upd (fun y => List.lookup y [(Str.ofString "self", Value.ref c.x)].reverse) (Str.ofString "value") (.int v u1)) (Str.ofString "many") (.int (3 - n) u2)) (fun y _ _ _ _ _ => Lx c y ++ []) O' ?_ y r 0 3 t0 t1 ⟨I0, rfl, Int.le_refl _, Nat.le_refl _⟩
  intro y1 s v n u1 u2 ⟨I1, e1, hv, hn⟩ Qb Eb lp nx
  refine EtM.of (et_and2 (p := (3 - n : Int) < 3) (by walk_at "et") fun _ => et_b (ev_call1 fn_is_digit O' (ev_sign O' rfl) (isDigit_p O'))) (fun hp => ?_) fun hp => ?_
  · cases n with
    | zero => exact absurd hp.1 (by decide)
    | succ n =>
      cases s with
      | nil => exact absurd hp.2 (by rw [I1.sg]; decide)
      | cons b s =>
        have hr := dig_rng hp.2
        rw [dig3_go I1.sg hp.2] at e1
        refine W.asgI (i := 10 * v + y1.sg - 48) ?a2 fun t2 => ?_
        case a2 => exact ev_sub (ev_add (ev_bin ev_int (Ev.i (Ev.loc rfl)) (bin_mul (by mul_fits))) (ev_sign O' rfl)) ev_int
        refine W.augI rfl ev_int fun t3 => ?_
        refine W.expr (em_meth0 mt_move O' rfl (move_w O' RestOK.nil I1 fun y2 I2 _ => ?_))
        exact W.map ((upd_upd2 (by decide)).trans (by congr 2; (first | lia | omega))) (nx y2 s _ n t2 t3 ⟨I2, e1, by (first | lia | omega), by (first | lia | omega)⟩ (Nat.lt_succ_self _))
  · have ee : dig3 3 0 r = (v, s) := by
      rw [e1]
      cases n with
      | zero => rfl
      | succ n => exact dig3_no (Bool.eq_false_iff.mpr fun q => hp ⟨by (first | lia | omega), by rw [I1.sg]; exact q⟩)
    rw [ee] at h hE
    refine W.ifs (p := 255 < v) (by walk_at "et") (fun q => W.err O' S' rfl I1 (by (first | lia | omega)) ev_short (Ev.gi O' gi_TK_STRING) (esc (hE q)).1.f) fun q => ?_
    exact W.expr (em_meth1 mt_keep O' rfl (Ev.i (Ev.loc rfl)) (keep_w hb' O' RestOK.nil S' I1 (by (first | lia | omega)) ⟨hv, by (first | lia | omega)⟩ fun y2 I2 => W.done fin (h y2 (by (first | lia | omega)) I2)))
theorem escape_w (hb : P.b = true) (O : Ok P env (k + 6)) (hr : RestOK c rest) (S : Stat P.prog P.w c P.g) (I0 : Inv c y r buf) (hz : buf.length + r.length ≤ 1000) (h : ∀ y' b2 r2, escR buf r = some (b2, r2) → Inv c y' r2 b2 → kk .none (Lx c y' ++ rest)) (hE : escR buf r = none → EscF P env E) :
    CallW P (Lx c y ++ rest) (.ref 455) [.ref c.x] kk E := by
  refine' lex_def [(Str.ofString "self", .ref c.x)] O hr ?k1 ?k2 ?k3 ?k4 ?_
  walk_at "sides"
  intro P' J O' Qf Ef fin esc
  have S' := J.stat S
  have hb' := J.b.trans hb
  cases r with
  | nil => exact W.ifs (p := y.sg = -1) (by walk_at "et") (fun _ => W.retN fin.r (h y buf [] rfl I0)) fun q => absurd I0.sg q
  | cons a r =>
    have hs : y.sg = a.toNat := I0.sg
    rw [List.length_cons] at hz
    refine W.ifs (p := y.sg = -1) (by walk_at "et") (fun q => absurd q (by (first | lia | omega))) fun _ => ?_
    refine W.ifs (et_b (ev_call1 fn_is_newline O' (ev_sign O' rfl) (isNewline_p O'))) (fun q => ?_) fun q => ?_
    · rw [escR_nl (hs ▸ q)] at h
      refine W.expr (em_meth1 mt_keep O' rfl (Ev.gi O' gi_NEWLINE) (keep_w hb' O' RestOK.nil S' I0 (by (first | lia | omega)) (by decide) fun y1 I1 => ?_))
      exact W.expr (em_meth0 mt_end_line O' rfl (endLine_w O' RestOK.nil I1 fun y2 I2 => W.retN fin.r (h y2 _ _ rfl I2)))
    have q1 : isNlI a.toNat = false := Bool.eq_false_iff.mpr (hs ▸ q)
    refine W.ifs (et_b (ev_call1 fn_is_digit O' (ev_sign O' rfl) (isDigit_p O'))) (fun q => ?_) fun q => ?_
    · rw [escR_dig q1 (hs ▸ q)] at h hE
      refine W.expr (em_meth0 mt_read_digits O' rfl (escDigits_w hb' O' RestOK.nil S' I0 (by rw [List.length_cons]; (first | lia | omega)) (fun y1 h1 I1 => ?_) fun h1 => (esc (hE (if_pos h1))).1.f))
      exact W.retN fin.r (h y1 _ _ (if_neg (by (first | lia | omega))) I1)
    rw [escR_oth q1 (Bool.eq_false_iff.mpr (hs ▸ q))] at h
    have ha := a.toNat_lt
    have ha2 := (escSign a).toNat_lt
    refine W.asg (R := EscV a) ?a fun v hv => ?_
    case a => exact ev_call1 fn_escaped_sign O' (Ev.ieq (ev_sign O' rfl) hs) (escSign_p O')
    have e8 : ((escSign a).toNat : Int).toNat.toUInt8 = escSign a := by simp
    refine W.expr (em_meth1 mt_keep O' rfl (ev_if (R := I (escSign a).toNat) (p := v = .none) (et_isnone (Ev.loc rfl) ev_none) (fun q => ?_) fun q => ?_) (keep_w hb' O' RestOK.nil S' I0 (by (first | lia | omega)) (by (first | lia | omega)) fun y1 I1 => ?_))
    · rcases hv with ⟨h1, _⟩ | ⟨_, t, e⟩
      · rw [fnd_no h1]; exact Ev.ieq (ev_sign O' rfl) hs
      · rw [q] at e; cases e
    · rcases hv with ⟨_, h1⟩ | ⟨_, h1⟩
      · exact absurd h1 q
      · exact Ev.mono (Ev.loc rfl) fun w e => e ▸ h1
    · rw [e8] at I1
      exact W.expr (em_meth0 mt_move O' rfl (move_w O' RestOK.nil I1 fun y2 I2 _ => W.done fin (h y2 _ _ rfl I2)))
end
end
section
set_option maxHeartbeats 2000000
section
variable {P : Pt} {env : Env} {k : Nat} {E : Value → Shared → Prop} {c : LC} {y : LD} {l rest : Ld} {kk : Value → Ld → Prop} {a q : UInt8} {r buf : Bs} {i : Int}
theorem cut_str {b : Bs} {q : UInt8} : cutB (b ++ [q]) (some 1) (some (((b ++ [q]).length : Int) - 1)) = ((b ++ [q]).drop 1).take ((b ++ [q]).length - 1 - 1) := by
  have hlen : (b ++ [q]).length = b.length + 1 := by simp
  rw [cut_mid (by decide) (by (first | lia | omega)) (by (first | lia | omega)) (by (first | lia | omega))]
  congr 1
  rw [show (1 : Int).toNat = 1 from rfl]
  (first | lia | omega)
theorem string_w (hb : P.b = true) (O : Ok P env (k + 7)) (hr : RestOK c rest) (S : Stat P.prog P.w c P.g) (I0 : Inv c y (q :: r) []) (hz : r.length ≤ 900) (hq : q = 34 ∨ q = 39) (h : RetTok kk c rest (strTok q r)) (hE : strTok q r = none → EscF P env E) :
    ∀ u, I q.toNat u → CallW P (Lx c y ++ rest) (.ref 448) [.ref c.x, u] kk E := by
  rintro _ ⟨t, rfl⟩
  refine' lex_def [(Str.ofString "self", .ref c.x), (Str.ofString "quote", .int q.toNat t)] O hr ?k1 ?k2 ?k3 ?k4 ?_
  walk_at "sides"
  intro P' J O' Qf Ef fin esc
  have S' := J.stat S
  have hb' := J.b.trans hb
  have hE' : strR q [q] r = none → EscF P env E := fun e => hE (by unfold strTok; rw [e]; rfl)
  have hq9 : (92 : UInt8) ≠ q := by rintro rfl; rcases hq with hq | hq <;> revert hq <;> decide
  refine W.expr (em_meth0 mt_keep_and_move O' rfl (keepMove_w hb' O' RestOK.nil S' I0 (by simp) fun y1 I1 => ?_))
  refine W.whl3 (fun (y : LD) (s b : Bs) => An3 (Inv c y s b) (strR q [q] r = strR q b s) (b.length + s.length ≤ r.length + 1)) (fun _ s _ => s.length) (fun _ _ _ => fun y => List.lookup y [(Str.ofString "self", Value.ref c.x), (Str.ofString "quote", .int q.toNat t)].reverse) (fun y _ _ => Lx c y ++ []) O' ?_ y1 r [q] ⟨I1, rfl, by simp; (first | lia | omega)⟩
  intro y2 s b ⟨I2, e, hl⟩ Qb Eb lp nx
  refine EtM.of (p := ¬ y2.sg = q.toNat) (by walk_at "et") (fun hn => ?_) fun hy => ?_
  · cases s with
    | nil => exact W.ifs (p := y2.sg = -1) (by walk_at "et") (fun _ => W.err O' S' rfl I2 (by (first | lia | omega)) ev_short (Ev.gi O' gi_TK_EOS) (lp.es (esc (hE' (by rw [e, strR]))).1).f) fun q => absurd I2.sg q
    | cons a s =>
      have hs : y2.sg = a.toNat := I2.sg
      have ha : a ≠ q := by rintro rfl; exact hn hs
      rw [List.length_cons] at hl
      refine W.ifs (p := y2.sg = -1) (by walk_at "et") (fun q => absurd q (by (first | lia | omega))) fun _ => ?_
      refine W.ifs (et_b (ev_call1 fn_is_newline O' (ev_sign O' rfl) (isNewline_p O'))) (fun hp => ?_) fun hp => ?_
      · exact W.err O' S' rfl I2 (by (first | lia | omega)) ev_short (Ev.gi O' gi_TK_STRING) (lp.es (esc (hE' (by rw [e, strR_nl ha (hs ▸ hp)]))).1).f
      refine W.ifs (p := y2.sg = 92) (by walk_at "et") (fun h2 => ?_) fun h2 => ?_
      · obtain rfl := byte_of 92 (hs.symm.trans h2)
        refine W.expr (em_meth0 mt_move O' rfl (move_w O' RestOK.nil I2 fun y3 I3 _ => ?_))
        refine W.expr (em_meth0 mt_read_escape O' rfl (escape_w hb' O' RestOK.nil S' I3 (by (first | lia | omega)) (fun y4 b2 r2 e2 I4 => ?_) fun e2 => (lp.es (esc (hE' (by rw [e, strR_esc0 ha e2]))).1).f))
        have hes := escR_len e2
        exact nx y4 r2 b2 ⟨I4, e.trans (strR_esc1 ha e2 hes.1), by (first | lia | omega)⟩ (by rw [List.length_cons]; (first | lia | omega))
      · refine W.expr (em_meth0 mt_keep_and_move O' rfl (keepMove_w hb' O' RestOK.nil S' I2 (by (first | lia | omega)) fun y3 I3 => ?_))
        exact nx y3 s (b ++ [a]) ⟨I3, e.trans (strR_go ha (Bool.eq_false_iff.mpr (hs ▸ hp)) fun e => h2 (hs.trans (by rw [e]; rfl))), by rw [List.length_append, List.length_singleton]; (first | lia | omega)⟩ (Nat.lt_succ_self _)
  · have hy := Decidable.not_not.mp hy
    cases s with
    | nil => exact absurd (I2.sg.symm.trans hy) (by have := q.toNat_lt; exact fun e => nomatch e)
    | cons a s =>
      obtain rfl : a = q := UInt8.toNat_inj.mp (by have := I2.sg.symm.trans hy; exact Int.ofNat.inj this)
      rw [strR_end] at e
      rw [List.length_cons] at hl
      refine W.expr (em_meth0 mt_keep_and_move O' rfl (keepMove_w hb' O' RestOK.nil S' I2 (by (first | lia | omega)) fun y3 I3 => ?_))
      have eb := I3.buf
      have hz3 : y3.buf.length < 1000000 := by rw [eb, List.length_append, List.length_singleton]; (first | lia | omega)
      refine W.retTok O' fin.r (Ev.gi O' gi_TK_STRING) (ev_bytesslice O' (ev_buffer O' rfl) (part1 ev_int) (part1 (ev_sub (ev_lenbuf O' (ev_buffer O' rfl) hz3) ev_int)) hz3) (vl := .by (((b ++ [a]).drop 1).take ((b ++ [a]).length - 1 - 1))) ?hv fun x lt hT => h y3 x lt _ _ _ _ (by unfold strTok; rw [e]; rfl) I3 hT
      case hv =>
        rintro v ⟨t, rfl⟩
        exact ⟨t, by rw [eb, cut_str]⟩
end
end
section
set_option maxHeartbeats 2000000
section
variable {P : Pt} {cn x : Str} {cs : Scope} {f : Addr} {cd : Value} {cl : List (Str × Addr)} {m : Mp} {k : Nat} {e1 e2 : Expr} {p1 p2 p3 pos : Pos} {kk : Value → Ld → Prop} {E : Value → Shared → Prop} {i : Int} {c : LC} {y : LD} {rl : Ld} {kt kf : Ld → Prop} {a : UInt8} {r buf : Bs} {lv : Nat}
theorem etm_level (hb : P.b = true) (O : Ok P (envX cn cs P.L f cd cl) (k + 3)) (S : Stat P.prog P.w c P.g) (hm : m x = some (.ref c.x)) (I0 : Inv c y (a :: r) buf) (hz : buf.length + r.length < 400000) (h2 : ∀ y', Ev P (envX cn cs P.L f cd cl) m (Lx c y' ++ []) e2 (I (lv : Int)))
    (hy : ∀ y', sgnL (eqs r).2 = a.toNat → ((eqs r).1 : Int) = lv → Inv c y' (eqs r).2 (buf ++ a :: List.replicate (eqs r).1 61) → kt (Lx c y' ++ []))
    (hn : ∀ y', (sgnL (eqs r).2 = a.toNat → ((eqs r).1 : Int) ≠ lv) → Inv c y' (eqs r).2 (buf ++ a :: List.replicate (eqs r).1 61) → kf (Lx c y' ++ []))
    (hx : isL cs x = true := by rfl) (hl : (p2.endLine == p3.line) = true := by rfl) :
    EtM P (envX cn cs P.L f cd cl) m (Lx c y ++ []) (.Compare (.Call (.Attribute (.Name x p1) (Str.ofString "read_level") p2) [] [] p3) [.Eq] [e2] pos) kt kf E :=
  EtM.cmp (em_meth0 mt_read_level O hm (level_w hb O RestOK.nil S I0 hz fun y' t I' => ⟨I (lv : Int), _, h2 y', fun u hu => cmp_int (op := .Eq) rfl _ u ⟨t, rfl⟩ hu, fun q => by
    by_cases h : sgnL (eqs r).2 = a.toNat
    · exact hy y' h ((if_pos h).symm.trans q) I'
    · have q : (if sgnL (eqs r).2 = a.toNat then ((eqs r).1 : Int) else - (eqs r).1 - 1) = lv := q
      rw [if_neg h] at q
      (first | lia | omega), fun q => hn y' (fun h q' => q ((if_pos h).trans q')) I'⟩) hx hl) (behind_I rfl)
theorem et_bl {l : Ld} {tx : Bool} (hm : m x = some (.bool tx)) (hx : isL cs x = true := by rfl) : ET P (envX cn cs P.L f cd cl) m l (.Name x pos) (tx = true) := et_b (Ev.mono (Ev.loc hm hx) fun v q => ⟨tx, q, Iff.rfl⟩)
theorem em_tokM (hb : P.b = true) (O : Ok P (envX cn cs P.L f cd cl) (k + 2)) (h1 : Ev P (envX cn cs P.L f cd cl) m (Lx c y ++ []) e1 (I i)) (h2 : Em P (envX cn cs P.L f cd cl) m (Lx c y ++ []) e2 (fun v l' => ∃ vl y', vl.is v ∧ l' = Lx c y' ++ [] ∧ ∀ x lt, TokAt x i vl lt → kk (.ref x) (Lx c y' ++ (lt ++ rl))) E)
    (hx : isG cs (Str.ofString "Token") = true := by rfl) (hz : okEs [e1, e2] = true := by rfl) : Em P (envX cn cs P.L f cd cl) m (Lx c y ++ []) (.Call (.Name (Str.ofString "Token") p1) [e1, e2] [] p2) (kR kk rl) E := fun hp tk H Q hQ => by
  rw [evalCall]
  refine wpB.bindA (Ev.glob O fn_Token.at_ hx hp tk H _ _ fun v' h' tk' hv' H' => ?_)
  subst hv'
  have h2' := h2
  unfold Em at h2'
  rw [hb] at h2' ⊢
  have s1 : starEach [e1, e2] (envX cn cs P.L f cd cl) = (false, eval e1 (envX cn cs P.L f cd cl)) :: starEach [e2] (envX cn cs P.L f cd cl) := star1 hz
  have s2 : starEach [e2] (envX cn cs P.L f cd cl) = (false, eval e2 (envX cn cs P.L f cd cl)) :: starEach [] (envX cn cs P.L f cd cl) := star1 (okEs_tail hz)
  refine wpB.of_n (nCallWith (fn_Token (w := P.w)).kp (nArgsCons (wpN_of_wpAny (h1 h' tk' H' _ _ fun v ha ta hv Ha => nArgsCons (wpN_mono (h2' ha ta Ha (fun u s1 => ∃ l' h' tk', s1 = P.S h' tk' ∧ (∃ vl y', vl.is u ∧ l' = Lx c y' ++ [] ∧ ∀ x lt, TokAt x i vl lt → kk (.ref x) (Lx c y' ++ (lt ++ rl))) ∧ Led P m l' h') fun u l' hb' tb hu Hb => ⟨l', hb', tb, rfl, hu, Hb⟩).to_n ?_ fun _ _ x => x) s2)) s1) s1 (backTo_any (okEs_tail hz)))
  rintro u s1 ⟨l', hb', tb, rfl, ⟨vl, y', hvl, rfl, hk⟩, Hb⟩
  refine wpN_of_wpAny (args_nil ⟨O.X.keeps Hb.F.keep, ?_⟩)
  have C := tok_w (E := E) (kk := fun v l' => ∃ l0, kR kk rl v l0 ∧ ∀ q ∈ l0, q ∈ l') O hvl (fun x lt hT _ => ⟨Lx c y' ++ lt, hk x lt hT, fun q hq => by
    rcases List.mem_append.mp hq with hq | hq
    · exact List.mem_append_right _ (List.mem_append_left _ hq)
    · exact List.mem_append_left _ hq⟩) v hv m hb' tb Hb Q fun v l' h' tk' ⟨l0, hk, hs⟩ H' => hQ v l0 h' tk' hk (H'.sub hs)
  rw [hb] at C
  exact C.to_n
end
section
variable {P : Pt} {env : Env} {k : Nat} {E : Value → Shared → Prop} {c : LC} {y : LD} {l rest : Ld} {kk : Value → Ld → Prop} {a : UInt8} {r buf : Bs} {i : Int} {lv : Nat} {tx : Bool}
theorem inner_w (hb : P.b = true) (O : Ok P env (k + 6)) (hr : RestOK c rest) (S : Stat P.prog P.w c P.g) (I0 : Inv c y (91 :: r) buf) (hz : buf.length + r.length ≤ 950) (h : ∀ y' b2 r2, inR lv buf r = some (b2, r2) → Inv c y' r2 b2 → kk .none (Lx c y' ++ rest)) (hE : inR lv buf r = none → EscF P env E) :
    ∀ u, I (lv : Int) u → CallW P (Lx c y ++ rest) (.ref 441) [.ref c.x, u] kk E := by
  rintro _ ⟨t, rfl⟩
  refine' lex_def [(Str.ofString "self", .ref c.x), (Str.ofString "level", .int lv t)] O hr ?k1 ?k2 ?k3 ?k4 ?_
  walk_at "sides"
  intro P' J O' Qf Ef fin esc
  have S' := J.stat S
  have hb' := J.b.trans hb
  have hq := eqs_len r
  refine W.ifT (etm_level hb' O' S' rfl I0 (by (first | lia | omega)) (fun y' => Ev.i (Ev.loc rfl)) (fun y1 h1 h2 I1 => ?_) fun y1 h1 I1 => W.done fin (h y1 _ _ (inR_no h1) I1))
  cases e : (eqs r).2 with
  | nil => rw [e] at h1; exact absurd h1 (by decide)
  | cons a2 r2 =>
    rw [e] at I1
    refine W.expr (em_meth0 mt_keep_and_move O' rfl (keepMove_w hb' O' RestOK.nil S' I1 (by simp only [List.length_append, List.length_cons, List.length_replicate]; (first | lia | omega)) fun y2 I2 => ?_))
    exact W.ifs (p := (lv : Int) = 0) (by walk_at "et") (fun q => W.err O' S' rfl I2 (by simp only [List.length_append, List.length_cons, List.length_replicate, List.length_nil]; (first | lia | omega)) ev_short (Ev.gi O' gi_BRACKET_OPEN) (esc (hE (inR_err h1 h2 (by (first | lia | omega))))).1.f) fun q => W.done fin (h y2 _ _ (inR_yes h1 h2 e (by (first | lia | omega))) I2)
theorem long_w (hb : P.b = true) (O : Ok P env (k + 7)) (hr : RestOK c rest) (S : Stat P.prog P.w c P.g) (I0 : Inv c y (91 :: r) buf) (hz : buf.length + r.length ≤ 900)
    (h : ∀ y' b2 r2 v, longR lv tx (buf.length + 1) (buf ++ [91]) (openR r) = some (b2, r2) → Inv c y' r2 b2 → b2.length + r2.length ≤ buf.length + r.length + 1 → Y (cutB b2 (some ((buf.length + 1 : Nat) : Int)) (some ((b2.length : Int) - lv - 2))) v → kk v (Lx c y' ++ rest))
    (hE : longR lv tx (buf.length + 1) (buf ++ [91]) (openR r) = none → EscF P env E) : ∀ u v, I (lv : Int) u → V (.bool tx) v → CallW P (Lx c y ++ rest) (.ref 434) [.ref c.x, u, v] kk E := by
  rintro _ _ ⟨t, rfl⟩ rfl
  refine' lex_def [(Str.ofString "self", .ref c.x), (Str.ofString "level", .int lv t), (Str.ofString "is_text", .bool tx)] O hr ?k1 ?k2 ?k3 ?k4 ?_
  walk_at "sides"
  intro P' J O' Qf Ef fin esc
  have S' := J.stat S
  have hb' := J.b.trans hb
  have hop := openR_le r
  have hl1 : (buf ++ [91]).length = buf.length + 1 := List.length_append
  refine W.expr (em_meth0 mt_keep_and_move O' rfl (keepMove_w hb' O' RestOK.nil S' I0 (by (first | lia | omega)) fun y1 I1 => ?_))
  refine W.cut (fun m' l' => m' = (fun y => List.lookup y [(Str.ofString "self", Value.ref c.x), (Str.ofString "level", Value.int lv t), (Str.ofString "is_text", Value.bool tx)].reverse) ∧ ∃ y2, l' = Lx c y2 ++ [] ∧ Inv c y2 (openR r) (buf ++ [91])) ?tail fun tail => ?_
  case tail =>
    rintro _ _ ⟨rfl, y2, rfl, I2⟩
    have eb := I2.buf
    refine W.asgI (i := ((buf.length + 1 : Nat) : Int)) ?a1 fun u0 => ?_
    case a1 => exact Ev.ieq (ev_lenbuf O' (ev_buffer O' rfl) (by rw [eb]; (first | lia | omega))) (by rw [eb, hl1])
    refine W.whl3 (fun (y : LD) (s b : Bs) => An4 (Inv c y s b) (longR lv tx (buf.length + 1) (buf ++ [91]) (openR r) = longR lv tx (buf.length + 1) b s) (b.length + s.length ≤ buf.length + r.length + 1) (buf.length + 1 ≤ b.length)) (fun _ s _ => s.length)
      (fun _ _ _ => upd (fun y => List.lookup y [(Str.ofString "self", Value.ref c.x), (Str.ofString "level", Value.int lv t), (Str.ofString "is_text", Value.bool tx)].reverse) (Str.ofString "begin") (.int ((buf.length + 1 : Nat) : Int) u0)) (fun y _ _ => Lx c y ++ []) O' ?_ y2 (openR r) (buf ++ [91]) ⟨I2, rfl, by (first | lia | omega), by (first | lia | omega)⟩
    clear I1 I2 eb
    intro y2 s b ⟨I2, e, hl, hb2⟩ Qb Eb lp nx
    refine EtM.of et_true (fun _ => ?_) fun h => absurd trivial h
    cases s with
    | nil => exact W.ifs (p := y2.sg = -1) (by walk_at "et") (fun _ => W.err O' S' rfl I2 (by (first | lia | omega)) (ev_if (R := Ys 100) (et_bl rfl) (fun _ => ev_short) fun _ => ev_short) (Ev.gi O' gi_TK_EOS) (lp.es (esc (hE (by rw [e, longR]))).1).f) fun q => absurd I2.sg q
    | cons a s =>
      have hs : y2.sg = a.toNat := I2.sg
      rw [List.length_cons] at hl
      refine W.ifs (p := y2.sg = -1) (by walk_at "et") (fun q => absurd q (by (first | lia | omega))) fun _ => ?_
      refine W.ifs (p := y2.sg = 91) (by walk_at "et") (fun q => ?_) fun n1 => ?_
      · obtain rfl := byte_of 91 (hs.symm.trans q)
        refine W.expr (em_meth1 mt_read_inner O' rfl (Ev.i (Ev.loc rfl)) (inner_w (lv := lv) hb' O' RestOK.nil S' I2 (by (first | lia | omega)) (fun y3 b2 r2 e2 I3 => ?_) fun e2 => (lp.es (esc (hE (e.trans (lR_in0 e2)))).1).f))
        have hi := inR_len e2
        exact nx y3 r2 b2 ⟨I3, e.trans (lR_in1 e2), by (first | lia | omega), by (first | lia | omega)⟩ (Nat.lt_succ_of_le hi.1)
      refine W.ifs (p := y2.sg = 93) (by walk_at "et") (fun q => ?_) fun n2 => ?_
      · obtain rfl := byte_of 93 (hs.symm.trans q)
        have hq := eqs_len s
        refine W.ifT (etm_level hb' O' S' rfl I2 (by (first | lia | omega)) (fun y' => Ev.i (Ev.loc rfl)) (fun y3 h1 h2 I3 => ?_) fun y3 h1 I3 => nx y3 _ _ ⟨I3, e.trans (lR_out h1), ?g1, ?g2⟩ ?g3)
        case g1 | g2 => simp only [List.length_append, List.length_cons, List.length_replicate]; (first | lia | omega)
        case g3 => exact Nat.lt_succ_of_le (by (first | lia | omega))
        cases e2 : (eqs s).2 with
        | nil => rw [e2] at h1; exact absurd h1 (by decide)
        | cons a2 r2 =>
          rw [e2] at I3
          rw [e2, List.length_cons] at hq
          refine W.expr (em_meth0 mt_keep_and_move O' rfl (keepMove_w hb' O' RestOK.nil S' I3 (by simp only [List.length_append, List.length_cons, List.length_replicate]; (first | lia | omega)) fun y4 I4 => ?_))
          have eb := I4.buf
          have hl4 : y4.buf.length + r2.length ≤ buf.length + r.length + 1 := by
            rw [eb]; simp only [List.length_append, List.length_cons, List.length_replicate, List.length_nil]; (first | lia | omega)
          have hz4 : y4.buf.length < 1000000 := by (first | lia | omega)
          refine W.retE (fin.r.to lp.rt) (Em.of (ev_bytesslice O' (ev_buffer O' rfl) (part1 (Ev.i (Ev.loc rfl))) (part1 (ev_sub (ev_sub (ev_lenbuf O' (ev_buffer O' rfl) hz4) (Ev.i (Ev.loc rfl))) ev_int)) hz4) fun v hv => ?_)
          rw [eb] at hv hl4
          exact h y4 _ _ v (e.trans (lR_end h1 h2 e2)) I4 hl4 hv
      have e1 : a ≠ 91 := by rintro rfl; exact n1 hs
      have e2 : a ≠ 93 := by rintro rfl; exact n2 hs
      refine W.ifs (et_b (ev_call1 fn_is_newline O' (ev_sign O' rfl) (isNewline_p O'))) (fun hp => ?_) fun hp => ?_
      · have hnl := nlRest_le a s
        have e := e.trans (lR_nl e1 e2 (hs ▸ hp))
        refine W.expr (em_meth1 mt_keep O' rfl (Ev.gi O' gi_NEWLINE) (keep_w hb' O' RestOK.nil S' I2 (by (first | lia | omega)) (by decide) fun y3 I3 => ?_))
        refine W.expr (em_meth0 mt_end_line O' rfl (endLine_w O' RestOK.nil I3 fun y4 I4 => ?_))
        have hlb : (b ++ [10]).length = b.length + 1 := List.length_append
        refine W.ifs (et_not (et_bl rfl)) (fun ht => ?_) fun ht => ?_
        · rw [if_neg ht] at e
          have eb := I4.buf
          have ec : cutB y4.buf none (some ((buf.length + 1 : Nat) : Int)) = (b ++ [10]).take (buf.length + 1) := by rw [eb]; exact cut_pre (l := b ++ [10]) (j := ((buf.length + 1 : Nat) : Int)) (by (first | lia | omega)) (by (first | lia | omega))
          have ht2 : ((b ++ [10]).take (buf.length + 1)).length = buf.length + 1 := by rw [List.length_take]; (first | lia | omega)
          refine W.setM rfl (ew_slice (ev_buffer O' rfl) part0 (part1 (Ev.i (Ev.loc rfl))) (by rw [eb]; show (b ++ [10]).length < _; (first | lia | omega)) fun b' => ⟨_, (setL_buffer O' RestOK.nil).pre ba_front, ?_⟩).em
          exact nx _ (nlRest a s) ((b ++ [10]).take (buf.length + 1)) ⟨⟨I4.suf, I4.sg, ec, I4.ln, I4.sz⟩, e, by (first | lia | omega), by (first | lia | omega)⟩ (Nat.lt_succ_of_le hnl)
        · rw [if_pos (Decidable.not_not.mp ht)] at e
          exact nx y4 _ _ ⟨I4, e, by show (b ++ [10]).length + _ ≤ _; (first | lia | omega), by show _ ≤ (b ++ [10]).length; (first | lia | omega)⟩ (Nat.lt_succ_of_le hnl)
      · have e := e.trans (lR_go e1 e2 (Bool.eq_false_iff.mpr (hs ▸ hp)))
        refine W.ifs (et_bl rfl) (fun ht => ?_) fun ht => ?_
        · rw [if_pos ht] at e
          refine W.expr (em_meth0 mt_keep_and_move O' rfl (keepMove_w hb' O' RestOK.nil S' I2 (by (first | lia | omega)) fun y3 I3 => ?_))
          have hlb : (b ++ [a]).length = b.length + 1 := List.length_append
          exact nx y3 s (b ++ [a]) ⟨I3, e, by (first | lia | omega), by (first | lia | omega)⟩ (Nat.lt_succ_self _)
        · rw [if_neg ht] at e
          exact W.expr (em_meth0 mt_move O' rfl (move_w O' RestOK.nil I2 fun y3 I3 _ => nx y3 s b ⟨I3, e, by (first | lia | omega), hb2⟩ (Nat.lt_succ_self _)))
  refine W.ifs (et_b (ev_call1 fn_is_newline O' (ev_sign O' rfl) (isNewline_p O'))) (fun hp => ?_) fun hp => ?_
  · cases r with
    | nil => exact absurd hp (by rw [I1.sg]; decide)
    | cons a r =>
      have ha : isNlI a.toNat = true := (congrArg isNlI (show (a.toNat : Int) = y1.sg from I1.sg.symm)).trans hp
      exact W.expr (em_meth0 mt_end_line O' rfl (endLine_w O' RestOK.nil I1 fun y2 I2 => tail _ _ ⟨rfl, y2, rfl, by rw [openR_nl ha]; exact I2⟩))
  · exact tail _ _ ⟨rfl, y1, rfl, by rw [openR_no (Bool.eq_false_iff.mpr (I1.sg ▸ hp))]; exact I1⟩
theorem bracket_w (hb : P.b = true) (O : Ok P env (k + 8)) (hr : RestOK c rest) (S : Stat P.prog P.w c P.g) (I0 : Inv c y (91 :: r) []) (hz : r.length ≤ 800) (h : RetTok kk c rest (brkR r)) (hE : brkR r = none → EscF P env E) : CallW P (Lx c y ++ rest) (.ref 420) [.ref c.x] kk E := by
  refine' lex_def [(Str.ofString "self", .ref c.x)] O hr ?k1 ?k2 ?k3 ?k4 ?_
  walk_at "sides"
  intro P' J O' Qf Ef fin esc
  have S' := J.stat S
  have hb' := J.b.trans hb
  have hq := eqs_len r
  refine W.asgM (em_meth0 mt_read_level O' rfl (level_w hb' O' RestOK.nil S' I0 (by simp only [List.length_nil]; (first | lia | omega)) fun y1 t I1 => ?_))
  have hlb : (([] : Bs) ++ (91 : UInt8) :: List.replicate (eqs r).1 61).length = (eqs r).1 + 1 := by simp
  by_cases h9 : sgnL (eqs r).2 = (91 : UInt8).toNat
  · rw [if_pos h9]
    refine W.ifs (p := (0 : Int) ≤ (eqs r).1) (by walk_at "et") (fun _ => ?_) fun q => absurd q (by (first | lia | omega))
    cases e : (eqs r).2 with
    | nil => rw [e] at h9; exact absurd h9 (by decide)
    | cons a2 r2 =>
      obtain rfl : a2 = 91 := byte_of 91 (show sgnL (a2 :: r2) = _ from e ▸ h9)
      rw [e] at I1
      rw [e, List.length_cons] at hq
      refine W.retE fin.r (em_tokM hb' O' (Ev.gi O' gi_TK_STRING) (em_meth2 mt_read_long O' rfl (Ev.i (Ev.loc rfl)) ev_bool (long_w (lv := (eqs r).1) hb' O' RestOK.nil S' I1 (by (first | lia | omega)) (fun y2 b2 r3 v q I2 _ hv => ⟨.by _, y2, ?hv, rfl, fun x lt hT => h y2 x lt _ _ _ _ (brk_long1 h9 e q) I2 hT⟩) fun q => (esc (hE ((brk_long h9 e).trans (congrArg (Option.map _) q)))).1.f)))
      case hv => rw [brk_cut1 q] at hv; exact hv
  · rw [if_neg h9]
    refine W.ifs (p := (0 : Int) ≤ - (eqs r).1 - 1) (by walk_at "et") (fun q => absurd q (by (first | lia | omega))) fun _ => ?_
    refine W.ifs (p := (- (eqs r).1 - 1 : Int) < -1) (by walk_at "et") (fun q => ?_) fun q => ?_
    · exact W.err O' S' rfl I1 (by (first | lia | omega)) ev_short (Ev.gi O' gi_TK_STRING) (esc (hE (brk_err h9 (by (first | lia | omega))))).1.f
    · exact W.retTok O' fin.r (Ev.gi O' gi_BRACKET_OPEN) ev_none (vl := .no) (fun _ q => q) fun x lt hT => h y1 x lt _ _ _ _ (brk_open h9 (by (first | lia | omega))) I1 hT
end
end
section
set_option maxHeartbeats 2000000
section
variable {P : Pt} {cn x name : Str} {cs : Scope} {f fm : Addr} {cd : Value} {cl : List (Str × Addr)} {m : Mp} {l l2 r : Ld} {k : Nat} {p1 p2 pos : Pos} {E : Value → Shared → Prop} {Q : Flow → Shared → Prop} {c : LC} {y : LD} {st : List Stmt} {R : Value → Prop} {env : Env} {v : Value} {xa : Addr} {kt kf : Ld → Prop} {a : UInt8} {bs buf : Bs}
theorem ev_meth0 (Mx : Mt P.w name fm) (O : Ok P (envX cn cs P.L f cd cl) k) (hm : m x = some (.ref c.x)) (hc : CallP P (Lx c y ++ r) (.ref fm) [.ref c.x] R) (hx : isL cs x = true := by rfl) (hl : (p2.endLine == pos.line) = true := by rfl) :
    Ev P (envX cn cs P.L f cd cl) m (Lx c y ++ r) (.Call (.Attribute (.Name x p1) name p2) [] [] pos) R := fun hp tk H Q E hQ => by
  refine wpB.to_any (bCallMeth (b := false) (Ev.loc hm hx hp tk H _ _ fun v' h' tk' hv' H' => ?_) hl (meth_form (es := []) rfl) evalMeth baseName)
  subst hv'
  refine method_inst (s := P.S h' tk') (K := (Mine.H.hd.heap_1_1 P.w.params)) (C := 465) (es := lexEnt c y) (n := c.n) H'.F O.X (lx_inst (s := P.S h' tk') H'.N) Mx.pg Mx.at_ Mx.fn (Mx.no c y) ?_
  exact bCallWith (first := [.ref c.x]) (backTo_any (es := []) rfl) Mx.kp (evs0 h' tk' pos H' _ _ fun vs h2 t2 e H2 => ⟨O.X.keeps H2.F.keep, wpB.of_any (by subst e; exact hc m h2 t2 H2 Q E hQ)⟩)
theorem behind_p (O : Ok P env (k + 1)) (hr : RestOK c r) (I : Inv c y (a :: bs) buf) : CallP P (Lx c y ++ r) (.ref 378) [.ref c.x] (Mine.I (sgnL bs)) := CallP.of fun _ => behind_w O.off hr I fun t => ⟨⟨t, rfl⟩, rfl⟩
theorem SetL.led (h : ∀ m hp, Led P m l hp → SetL P xa name v l l2) : SetL P xa name v l l2 := fun m hp tk H => h m hp H m hp tk H
end
section
variable {P : Pt} {env : Env} {k : Nat} {E : Value → Shared → Prop} {c : LC} {y : LD} {l rest : Ld} {kk : Value → Ld → Prop} {a : UInt8} {r buf : Bs} {i : Int}
theorem comment_w (hb : P.b = true) (O : Ok P env (k + 8)) (hr : RestOK c rest) (S : Stat P.prog P.w c P.g) (I0 : Inv c y (45 :: 45 :: r) []) (hz : r.length ≤ 800) (h : ∀ y' r2, cmtR r = some r2 → Inv c y' r2 [] → kk .none (Lx c y' ++ rest)) (hE : cmtR r = none → EscF P env E) :
    CallW P (Lx c y ++ rest) (.ref 385) [.ref c.x] kk E := by
  refine' lex_def [(Str.ofString "self", .ref c.x)] O hr ?k1 ?k2 ?k3 ?k4 ?_
  walk_at "sides"
  intro P' J O' Qf Ef fin esc
  have S' := J.stat S
  have hb' := J.b.trans hb
  refine W.expr (em_meth0 mt_move O' rfl (move_w O' RestOK.nil I0 fun y1 I1 _ => ?_))
  refine W.expr (em_meth0 mt_move O' rfl (move_w O' RestOK.nil I1 fun y2 I2 _ => ?_))
  refine W.cut (fun m' l' => m' (Str.ofString "self") = some (.ref c.x) ∧ ∃ y3 r3, l' = Lx c y3 ++ [] ∧ Inv c y3 r3 [] ∧ cmtR r = some (lineR r3)) ?tail fun tail => ?_
  case tail =>
    rintro m' _ ⟨hm, y3, r3, rfl, I3, e3⟩
    refine W.whl2 (fun (y : LD) (s : Bs) => Inv c y s [] ∧ lineR r3 = lineR s) (fun _ s => s.length) (fun _ _ => m') (fun y _ => Lx c y ++ []) O' ?_ y3 r3 ⟨I3, rfl⟩
    intro y4 s ⟨I4, e4⟩ Qb Eb lp nx
    refine EtM.of (p := ¬ isNlI y4.sg = true ∧ ¬ y4.sg = -1) (et_and2 (et_not (et_b (ev_call1 fn_is_newline O' (ev_sign O' hm) (isNewline_p O')))) fun _ => et_ne (ev_sign O' hm) (Ev.gi O' gi_END_OF_TEXT)) (fun hp => ?_) fun hp => ?_
    · cases s with
      | nil => exact absurd I4.sg hp.2
      | cons a s =>
        have hs : y4.sg = a.toNat := I4.sg
        exact W.expr (em_meth0 mt_move O' hm (move_w O' RestOK.nil I4 fun y5 I5 _ => nx y5 s ⟨I5, e4.trans (lineR_go (Bool.eq_false_iff.mpr (hs ▸ hp.1)))⟩ (Nat.lt_succ_self _)))
    · refine W.done fin (h y4 s (e3.trans (congrArg some (e4.trans ?_))) I4)
      cases s with
      | nil => rfl
      | cons a s =>
        have hs : y4.sg = a.toNat := I4.sg
        exact lineR_stop (r := a :: s) (by
          show isNlI a.toNat = true
          rw [← hs]
          exact Decidable.not_not.mp fun q => hp ⟨q, by (first | lia | omega)⟩)
  refine W.ifs (p := y2.sg = 91) (by walk_at "et") (fun q => ?_) fun q => tail _ _ ⟨rfl, y2, r, rfl, I2, cmt_line (I2.sg ▸ q)⟩
  cases r with
  | nil => exact absurd (I2.sg.symm.trans q) (by decide)
  | cons a r =>
    obtain rfl : a = 91 := byte_of 91 ((show (a.toNat : Int) = y2.sg from I2.sg.symm).trans q)
    have hq := eqs_len r
    rw [List.length_cons] at hz
    refine W.asgM (em_meth0 mt_read_level O' rfl (level_w hb' O' RestOK.nil S' I2 (by simp only [List.length_nil]; (first | lia | omega)) fun y3 t I3 => ?_))
    refine W.expr (em_meth0 mt_clear O' rfl (clear_w hb' O' RestOK.nil I3 fun y4 I4 => ?_))
    by_cases h9 : sgnL (eqs r).2 = (91 : UInt8).toNat
    · rw [if_pos h9]
      refine W.ifs (p := (0 : Int) ≤ (eqs r).1) (by walk_at "et") (fun _ => ?_) fun q => absurd q (by (first | lia | omega))
      cases e : (eqs r).2 with
      | nil => rw [e] at h9; exact absurd h9 (by decide)
      | cons a2 r2 =>
        obtain rfl : a2 = 91 := byte_of 91 (show sgnL (a2 :: r2) = _ from e ▸ h9)
        rw [e] at I4
        rw [e, List.length_cons] at hq
        refine W.expr (em_meth2 mt_read_long O' rfl (Ev.i (Ev.loc rfl)) ev_bool (long_w (lv := (eqs r).1) hb' O' RestOK.nil S' I4 (by simp only [List.length_nil]; (first | lia | omega)) (fun y5 b2 r3 v q I5 _ hv => ?_) fun q => (esc (hE ((cmt_long h9 e).trans (congrArg (Option.map _) q)))).1.f))
        obtain ⟨t5, rfl⟩ := hv
        exact W.expr (em_meth0 mt_clear O' rfl (clear_w hb' O' RestOK.nil I5 fun y6 I6 => W.retN fin.r (h y6 r3 (cmt_long1 h9 e q) I6)))
    · rw [if_neg h9]
      refine W.ifs (p := (0 : Int) ≤ - (eqs r).1 - 1) (by walk_at "et") (fun q => absurd q (by (first | lia | omega))) fun _ => ?_
      exact tail _ _ ⟨rfl, y4, _, rfl, I4, cmt_lvl h9⟩
theorem skipOne_w (hb : P.b = true) (O : Ok P env (k + 9)) (hr : RestOK c rest) (S : Stat P.prog P.w c P.g) (I0 : Inv c y r []) (hz : r.length ≤ 800) (hT : ∀ y' r2, skO r = some (true, r2) → Inv c y' r2 [] → kk (.bool true) (Lx c y' ++ rest)) (hF : skO r = some (false, r) → kk (.bool false) (Lx c y ++ rest))
    (hE : skO r = none → EscF P env E) : CallW P (Lx c y ++ rest) (.ref 371) [.ref c.x] kk E := by
  refine' lex_def [(Str.ofString "self", .ref c.x)] O hr ?k1 ?k2 ?k3 ?k4 ?_
  walk_at "sides"
  intro P' J O' Qf Ef fin esc
  have S' := J.stat S
  have hb' := J.b.trans hb
  refine W.ifs (et_b (ev_call1 fn_is_newline O' (ev_sign O' rfl) (isNewline_p O'))) (fun hp => ?_) fun hp => ?_
  · cases r with
    | nil => exact absurd hp (by rw [I0.sg]; decide)
    | cons a r =>
      have hs : y.sg = a.toNat := I0.sg
      exact W.expr (em_meth0 mt_end_line O' rfl (endLine_w O' RestOK.nil I0 fun y2 I2 => W.retV fin.r ev_bool (hT y2 _ (skO_nl (hs ▸ hp)) I2)))
  refine W.ifs (et_b (ev_call1 fn_is_blank_lexer O' (ev_sign O' rfl) (isBlank_p O'))) (fun hp2 => ?_) fun hp2 => ?_
  · cases r with
    | nil => exact absurd hp2 (by rw [I0.sg]; decide)
    | cons a r =>
      have hs : y.sg = a.toNat := I0.sg
      exact W.expr (em_meth0 mt_move O' rfl (move_w O' RestOK.nil I0 fun y2 I2 _ => W.retV fin.r ev_bool (hT y2 _ (skO_bl (Bool.eq_false_iff.mpr (hs ▸ hp)) (hs ▸ hp2)) I2)))
  cases r with
  | nil => exact W.ifs (p := y.sg = 45 ∧ False) (et_and2 (et_eq (ev_sign O' rfl) (Ev.gi O' gi_MINUS)) fun q => absurd (I0.sg.symm.trans q) (by decide)) (fun q => q.2.elim) fun _ => W.retV fin.r ev_bool (hF rfl)
  | cons a r =>
    have hs : y.sg = a.toNat := I0.sg
    refine W.ifs (p := y.sg = 45 ∧ sgnL r = 45) (et_and2 (et_eq (ev_sign O' rfl) (Ev.gi O' gi_MINUS)) fun _ => et_eq (ev_meth0 mt_sign_behind O' rfl (behind_p O' RestOK.nil I0)) (Ev.gi O' gi_MINUS)) (fun q => ?_) fun q => ?_
    · obtain rfl : a = 45 := byte_of 45 (hs.symm.trans q.1)
      cases r with
      | nil => exact absurd q.2 (by decide)
      | cons b r =>
        obtain rfl : b = 45 := byte_of 45 q.2
        simp only [List.length_cons] at hz
        rw [skO_cm] at hT hE
        exact W.expr (em_meth0 mt_skip_comment O' rfl (comment_w hb' O' RestOK.nil S' I0 (by (first | lia | omega)) (fun y2 r2 e2 I2 => W.retV fin.r ev_bool (hT y2 r2 (congrArg (Option.map _) e2) I2)) fun q => (esc (hE (congrArg (Option.map _) q))).1.f))
    · refine W.retV fin.r ev_bool (hF (skO_no (Bool.eq_false_iff.mpr (hs ▸ hp)) (Bool.eq_false_iff.mpr (hs ▸ hp2)) fun z => q ⟨?_, z.2⟩))
      rw [hs, z.1]; rfl
theorem read_w (hb : P.b = true) (O : Ok P env (k + 10)) (hr : RestOK c rest) (S : Stat P.prog P.w c P.g) (I0 : Inv c y r buf) (hz : r.length ≤ 700) (h : RetTok kk c rest (readS r)) (hE : readS r = none → EscF P env E) : CallW P (Lx c y ++ rest) (.ref 364) [.ref c.x] kk E := by
  refine' lex_def [(Str.ofString "self", .ref c.x)] O hr ?k1 ?k2 ?k3 ?k4 ?_
  walk_at "sides"
  intro P' J O' Qf Ef fin esc
  have S' := J.stat S
  have hb' := J.b.trans hb
  refine W.expr (em_meth0 mt_clear O' rfl (clear_w hb' O' RestOK.nil I0 fun y1 I1 => ?_))
  refine W.whl2 (fun (y : LD) (s : Bs) => An3 (Inv c y s []) (skipR r = skipR s) (s.length ≤ r.length)) (fun _ s => s.length) (fun _ _ => fun y => List.lookup y [(Str.ofString "self", Value.ref c.x)].reverse) (fun y _ => Lx c y ++ []) O' ?_ y1 r ⟨I1, rfl, Nat.le_refl _⟩
  intro y2 s ⟨I2, e, hl⟩ Qb Eb lp nx
  refine EtM.call (em_meth0 mt_skip_blank O' rfl (skipOne_w hb' O' RestOK.nil S' I2 (by (first | lia | omega)) (fun y3 r2 e2 I3 => .inl ⟨rfl, W.pass (nx y3 r2 ⟨I3, e.trans (skO_lt e2).2, by have := (skO_lt e2).1; (first | lia | omega)⟩ (skO_lt e2).1)⟩) (fun e2 => .inr ⟨rfl, ?_⟩) fun e2 => (lp.es (esc (hE (by unfold readS; rw [e, skO_0 e2]; rfl))).1).f)) rfl
  have es : readS r = tokS s := by unfold readS; rw [e, skO_F e2]; rfl
  rw [es] at h hE
  clear e2 es nx lp I1
  refine W.asgI (ev_sign O' rfl) fun t => ?_
  cases s with
  | nil => exact W.ifs (p := y2.sg = -1) (by walk_at "et") (fun _ => W.retTok O' fin.r (Ev.gi O' gi_TK_EOS) ev_none (vl := .no) (fun _ q => q) fun x lt hT => h y2 x lt _ _ _ _ rfl I2 hT) fun q => absurd I2.sg q
  | cons a s =>
    have hs : y2.sg = a.toNat := I2.sg
    rw [List.length_cons] at hl
    refine W.ifs (p := y2.sg = -1) (by walk_at "et") (fun q => absurd q (by (first | lia | omega))) fun _ => ?_
    have hof : ∀ b : UInt8, ¬ y2.sg = b.toNat → ¬ a = b := fun b q z => q (by rw [hs, z])
    refine W.ifs (et_in (nz := [34, 39]) (Ev.i (Ev.loc rfl)) (evsI (Ev.gi O' gi_QUOTE_DOUBLE) (evsI (Ev.gi O' gi_QUOTE_SINGLE) evsI0))) (fun q => ?_) fun q => ?_
    · have q : a = 34 ∨ a = 39 := by
        rcases List.mem_cons.mp q with q | q
        · exact .inl (byte_of 34 (hs.symm.trans q))
        · exact .inr (byte_of 39 (hs.symm.trans (List.mem_singleton.mp q)))
      rw [show tokS (a :: s) = strTok a s from congrArg (tokK a s) (if_pos q)] at h hE
      exact W.retE fin.r (em_meth1 mt_read_string O' rfl (Ev.ieq (Ev.i (Ev.loc rfl)) hs) (string_w hb' O' RestOK.nil S' I2 (by (first | lia | omega)) q h.inn fun e => (esc (hE e)).1.f))
    have n1 : ¬ (a = 34 ∨ a = 39) := fun z => q (by rcases z with rfl | rfl <;> rw [hs] <;> decide)
    clear q
    refine W.ifs (p := y2.sg = 91) (by walk_at "et") (fun q => ?_) fun q => ?_
    · obtain rfl := byte_of 91 (hs.symm.trans q)
      exact W.retE fin.r (em_meth0 mt_read_bracket O' rfl (bracket_w hb' O' RestOK.nil S' I2 (by (first | lia | omega)) h.inn fun e => (esc (hE e)).1.f))
    have n2 := hof 91 q
    clear q
    refine W.ifs (p := y2.sg = 46) (by walk_at "et") (fun q => ?_) fun q => ?_
    · obtain rfl := byte_of 46 (hs.symm.trans q)
      exact W.retE fin.r (em_meth0 mt_read_dots O' rfl (dots_w hb' O' RestOK.nil S' I2 (by (first | lia | omega)) h.inn fun e => (esc (hE e)).1.f))
    have n3 := hof 46 q
    clear q
    refine W.ifs (et_b (ev_call1 fn_is_digit O' (Ev.ieq (Ev.i (Ev.loc rfl)) hs) (isDigit_p O'))) (fun q => ?_) fun n4 => ?_
    · rw [show tokS (a :: s) = numTok [] (a :: s) from congrArg (tokK a s) (tcNum n1 n2 n3 q)] at h hE
      exact W.retE fin.r (em_meth0 mt_read_numeral O' rfl (numeral_w hb' O' RestOK.nil S' I2 (by simp only [List.length_cons, List.length_nil]; (first | lia | omega)) (num_head rfl q) h.inn fun e => (esc (hE e)).1.f))
    refine W.ifs (et_b (ev_call1 fn_is_letter O' (Ev.ieq (Ev.i (Ev.loc rfl)) hs) (isLetter_p O'))) (fun q => ?_) fun n5 => ?_
    · rw [show tokS (a :: s) = wordTok (a :: s) from congrArg (tokK a s) (tcWord n1 n2 n3 n4 q)] at h
      exact W.retE fin.r (em_meth0 mt_read_word O' rfl (word_w hb' O' RestOK.nil S' I2 (by simp only [List.length_cons]; (first | lia | omega)) h.inn))
    clear hE
    refine W.ifs (p := y2.sg = 45) (by walk_at "et") (fun q => ?_) fun q => ?_
    · obtain rfl := byte_of 45 (hs.symm.trans q)
      exact W.expr (em_meth0 mt_move O' rfl (move_w O' RestOK.nil I2 fun y3 I3 _ => W.retTok O' fin.r (Ev.gi O' gi_MINUS) ev_none (vl := .no) (fun _ q => q) fun x lt hT => h y3 x lt _ _ _ _ rfl I3 hT))
    have n6 := hof 45 q
    clear q
    refine W.ifs (et_in (nz := [61, 60, 62, 126]) (Ev.i (Ev.loc rfl)) (evsI (Ev.gi O' gi_EQUALS) (evsI (Ev.gi O' gi_LESS) (evsI (Ev.gi O' gi_GREATER) (evsI (Ev.gi O' gi_TILDE) evsI0))))) (fun q => ?_) fun q => ?_
    · have q : a = 61 ∨ a = 60 ∨ a = 62 ∨ a = 126 := is_cmp.mp (List.any_eq_true.mpr ⟨_, hs ▸ q, beq_self_eq_true _⟩)
      rw [show tokS (a :: s) = some ((cmpR a s).1, .no, (cmpR a s).2) from congrArg (tokK a s) (tcCmp n1 n2 n3 n4 n5 n6 q)] at h
      exact W.retE fin.r (em_meth1 mt_read_compared O' rfl (Ev.ieq (Ev.i (Ev.loc rfl)) hs) (compared_w O' RestOK.nil I2 fun y3 x lt I3 hT => h.inn y3 x lt _ _ _ _ rfl I3 hT))
    rw [show tokS (a :: s) = some ((a.toNat : Int), Vl.no, s) from congrArg (tokK a s) (tcOther n1 n2 n3 n4 n5 n6 fun z => q (by rcases z with rfl | rfl | rfl | rfl <;> rw [hs] <;> decide))] at h
    exact W.expr (em_meth0 mt_move O' rfl (move_w O' RestOK.nil I2 fun y3 I3 _ => W.retTok O' fin.r (Ev.ieq (Ev.i (Ev.loc rfl)) hs) ev_none (vl := .no) (fun _ q => q) fun x lt hT => h y3 x lt _ _ _ _ rfl I3 hT))
theorem next_w (hb : P.b = true) (O : Ok P env (k + 11)) (hr : RestOK c rest) (S : ∀ P', Into P P' rest → Stat P'.prog P'.w c P'.g) (I0 : Inv c y r buf) (hz : r.length ≤ 700) (h : RetTok kk c rest (readS r)) (hE : readS r = none → EscF P env E) : CallW P (Lx c y ++ rest) (.ref 287) [.ref c.x] kk E := by
  refine' lex_def [(Str.ofString "self", .ref c.x)] O hr ?k1 ?k2 ?k3 ?k4 ?_
  walk_at "sides"
  intro P' J O' Qf Ef fin esc
  have S' := S P' J
  have hb' := J.b.trans hb
  refine W.setI rfl (ev_line O' rfl) (fun t => setL_last O' RestOK.nil) fun t => ?_
  refine W.ifs (et_isnot (ev_ahead O' rfl) ev_none) (fun q => absurd rfl q) fun _ => ?_
  refine W.setM rfl (em_meth0 mt_read O' rfl (read_w hb' O' RestOK.nil S' (inv_ll I0) hz (fun y2 x lt buf2 kd v r2 e I2 hT => ⟨_, SetL.led fun m hp H => setL_current O' (tok_rest hT H.N RestOK.nil), ?_⟩) fun e => (esc (hE e)).1.f))
  exact W.retE fin.r (Em.of (ev_current O' rfl rfl) fun v q => q ▸ h.inn _ x lt _ _ _ _ e (inv_cur I2) hT)
end
end
section
set_option maxHeartbeats 2000000
section
variable {P : Pt} {env : Env} {k : Nat} {E : Value → Shared → Prop} {m : Mp} {l : Ld} {e1 e2 : Expr} {pos : Pos} {a b : List UInt8}
theorem et_eqY (h1 : Ev P env m l e1 (Y a)) (h2 : Ev P env m l e2 (Y b)) : ET P env m l (.Compare e1 [.Eq] [e2] pos) (a = b) :=
  et_cmp h1 h2 (fun v u ⟨t, q⟩ ⟨t', q'⟩ s Q E hQ => by subst q q'; exact eq_bytes (hQ _ (by simp))) (behind_off rfl)
theorem chunk_p (O : Ok P env (k + 3)) : ∀ v u, Y [61, 108, 97, 119] v → I 80 u → CallP P l (.ref 180) [v, u] (Ys 1000) := by
  rintro _ _ ⟨t, rfl⟩ ⟨t2, rfl⟩
  refine' call_pure [(Str.ofString "source", .bytes #[61, 108, 97, 119] t), (Str.ofString "size", .int 80 t2)] O ?k1 ?k2 ?k3 ?k4 ?_
  walk_at "sides"
  intro P' J O' Qf Ef fin
  refine W.asg (R := Y [61, 108, 97, 119]) ?a fun v ⟨t3, q⟩ => ?_
  case a =>
    refine Ev.mono (ev_call1 fn_c_text O' (Ev.mono (Ev.loc rfl) fun v q => ⟨t, q⟩) (cTextS_p (x := [61, 108, 97, 119]) O' (by decide))) fun v ⟨j, hj, h0, hv⟩ => ?_
    have key : ∀ j : Nat, j ≤ 4 → (j < 4 → ([61, 108, 97, 119] : List UInt8).getD j 0 = 0) → List.take j ([61, 108, 97, 119] : List UInt8) = [61, 108, 97, 119] := fun j hj h => by
      match j with
      | 0 => exact absurd (h (by decide)) (by decide)
      | 1 => exact absurd (h (by decide)) (by decide)
      | 2 => exact absurd (h (by decide)) (by decide)
      | 3 => exact absurd (h (by decide)) (by decide)
      | 4 => rfl
      | j + 5 => omega
    exact Y.of_eq (key j hj h0) hv
  subst q
  refine W.ifs (et_eqY (ev_slice (Ev.y (Ev.loc rfl)) part0 (part1 ev_int) (by decide)) ev_bytes) (fun _ => ?_) fun q => absurd (by decide) q
  exact W.retP fin (ev_slice (Ev.y (Ev.loc rfl)) (part1 ev_int) (part1 (Ev.i (Ev.loc rfl))) (by decide)) fun v ⟨t, q⟩ => ⟨_, t, q, Nat.le_trans (cutB_len _ _ _) (by decide)⟩
end
section
variable {P : Pt} {env : Env} {k : Nat} {E : Value → Shared → Prop} {rest own l : Ld} {name qual : Str} {params : Arguments} {body : List Stmt} {scope : Scope} {dV kV doc pm cdv ct oc : Value} {an od : Option Addr} {osl : Array (Option Value)} {f : Addr} {args : List Value}
theorem callx_defE (binds : List (Str × Value)) {kk : Value → Ld → Prop} (O : Ok P env (k + 1))
    (ho : (Mine.H.hd.heap_1_1 P.w.params).lookup f = some ⟨oc, od, .func (fnOf name qual params body scope dV kV doc pm an cdv ct), osl⟩) (hcd : codeIn (Mine.H.hd.heap_1_1 P.w.params) cdv qual = true)
    (hbind : ∀ s, BindsTo s (fnOf name qual params body scope dV kV doc pm an cdv ct) ⟨args, []⟩ binds) (hs : okDef scope (binds.map (·.1)) = true)
    (walk : ∀ P' : Pt, P'.b = false → Into { P with b := false } P' l → Ok P' (envX qual scope P'.L f cdv []) k → ∀ Qf Ef, Fin P' kk l Qf → PassesOwn P'.M P'.A (envX qual scope P'.L f cdv []) Ef → W P' (envX qual scope P'.L f cdv []) (fun y => binds.reverse.lookup y) [] body Qf Ef) : CallX P l (.ref f) args kk := by
  obtain ⟨hco, hgen, hk, hloc, hcell⟩ := okDef_parts hs
  intro m hp tk H Q E hQ
  refine wpAny_call (enter (K := (Mine.H.hd.heap_1_1 P.w.params)) [] binds O.C H.F H.N (fun _ _ h => nomatch h) (Top.nolimit O.T) O.X ho hcd (hbind _) hloc (fun g' L' h₁ tk₁ F' N' st X' C' FG rs ret => ?_) hcell hco hgen hk)
  exact (walk ⟨false, P.prog, P.w, P.A.deeper (envX qual scope L' f cdv []), P.base, env :: P.outer, g', L', P.mean, P.mg, P.mb, P.s⟩ rfl ⟨rfl, rfl, rfl, st, rs⟩ ⟨C', X', O.T.keeps st⟩ _ _
    (fun fl m' l' h' tk' H' hkk => have R := ret _ _ _ _ H'.F H'.N; hQ _ _ _ _ hkk ⟨R.1, R.2⟩) PassesOwn.leaving h₁ tk₁ ⟨F', N'⟩).to_any
theorem bn_enum {w : World} : Bn w (Str.ofString "enumerate") (.type "enumerate") := ⟨by k_is, by boot_fast, by decide, rfl⟩
end
section
variable {P : Pt} {cn xi xc x z : Str} {cs : Scope} {f : Addr} {cd : Value} {cl : List (Str × Addr)} {m : Mp} {l : Ld} {k : Nat} {e e1 : Expr} {p1 p2 p3 p4 pos : Pos} {E : Value → Shared → Prop} {Q : Flow → Shared → Prop} {rest body : List Stmt} {lst : Addr} {vs : List Value} {α : Type} {K : ItemKind α} {as : List α} {n : Nat}
theorem W.led {env : Env} (h : ∀ hp, Led P m l hp → W P env m l rest Q E) : W P env m l rest Q E := fun hp tk H => h hp H hp tk H
theorem W.forEnum (J : Nat → Mp → Ld → Prop) (hb : P.b = false) (O : Ok P (envX cn cs P.L f cd cl) k) (hE : PassesOwn P.M P.A (envX cn cs P.L f cd cl) E) (h1 : Ev P (envX cn cs P.L f cd cl) m l e1 (V (.ref lst))) (hl : P.g.IsList lst vs.toArray) (hi : AreOf K vs as) (h0 : J 0 m l)
    (turn : ∀ (i : Nat) a t v m1 l1 own Qb, as[i]? = some a → K.is a v → J i m1 l1 → l1.map (·.1) = l.map (·.1) → (∀ p ∈ own, ∀ q ∈ l, p.1 ≠ q.1) → (∀ m2 l2, l2.map (·.1) = l1.map (·.1) → J (i + 1) m2 l2 → W P (envX cn cs P.L f cd cl) m2 (own ++ l2) [] Qb E) → W P (envX cn cs P.L f cd cl) (upd (upd m1 xi (.int i t)) xc v) (own ++ l1) body Qb E)
    (done : ∀ m' l', J as.length m' l' → W P (envX cn cs P.L f cd cl) m' l' rest Q E) (hxi : isL cs xi = true := by rfl) (hxc : isL cs xc = true := by rfl) (hx : isG cs (Str.ofString "enumerate") = true := by rfl) (hz : okEs [e1] = true := by rfl)
    (hs : ∀ y, foldedSetIterable (.Call (.Name (Str.ofString "enumerate") p1) [e1] [] p2) (envX cn cs P.L f cd cl) y = pure y := by intro _; rfl) :
    W P (envX cn cs P.L f cd cl) m l (.For (.Tuple [.Name xi p3, .Name xc p4] n pos) (.Call (.Name (Str.ofString "enumerate") p1) [e1] [] p2) body [] pos :: rest) Q E := W.consA fun hp tk H => by
  have ki := isL_parts (cn := cn) (L := P.L) (f := f) (cd := cd) (cl := cl) hxi
  have kc := isL_parts (cn := cn) (L := P.L) (f := f) (cd := cd) (cl := cl) hxc
  refine For_pair3 P.g O.C.handled ki.2.1 kc.2.1 ?_ ?_ hs hE
  · show (cs.kind == .class || (cs.kind == .module && _)) = false
    rw [ki.1]; rfl
  refine Call_ (Ev.blt bn_enum O hx hp tk H _ _ fun v' h' tk' hv' H' => ?_) evalCall
  subst hv'
  refine wpB.to_any (bCallWithP (b := false) (first := []) (backTo_any hz) (bn_enum (w := P.w)).kp (evs1 h1 hz h' tk' p2 H' _ _ fun us h2 t2 ⟨v, e, hv⟩ H2 => wpB.of_any ?_))
  subst e hv
  refine call_enum_list (s := P.S h2 t2) O.C.handled hl hi H2.F H2.N fun h3 it F3 N3 S => ?_
  refine (S.at _ rfl) xi xc body _ J h0 (fun i a t v m1 l1 s1 own ⟨hh, tk1, q⟩ ha hv hJ hmap hown F1 N1 => ?_) fun h4 tk4 m4 l4 F4 N4 _ hJ => done m4 l4 hJ h4 tk4 ⟨F4, N4⟩
  subst q
  have T := turn i a t v m1 l1 own (LoopStep3 P.g P.L own l1 (J (i + 1)) (P.S hh tk1) (fun v s' => Q (.ret v) s') fun s' => wpB P.b P.M P.A (execs rest (envX cn cs P.L f cd cl)) Q E s') ha hv hJ hmap hown (fun m2 l2 hm hJ2 => W.nil fun h5 t5 H5 => ⟨rfl, h5, t5, m2, l2, rfl, H5.F, H5.N, hm, hJ2⟩) hh tk1 ⟨F1, N1⟩
  exact fun Γ q hΓ => T Γ q hΓ fun e => absurd (hb.symm.trans e) Bool.false_ne_true
end
section
variable {P : Pt} {cn x z : Str} {cs : Scope} {f : Addr} {cd : Value} {cl : List (Str × Addr)} {m : Mp} {l own : Ld} {k : Nat} {e : Expr} {p1 p2 p3 pos : Pos} {E : Value → Shared → Prop} {Q : Flow → Shared → Prop} {rest : List Stmt} {env : Env} {d : Addr} {o : Obj} {key : Value} {kv : Bs} {kvs : List (Bs × Value)} {i : Int}
theorem W.dict0 (O : Ok P (envX cn cs P.L f cd cl) k) (h : ∀ d o, o.IsDictOf (bytesKind P.prog P.w) [] → (d == sysModules) = false → W P (envX cn cs P.L f cd cl) (upd m x (.ref d)) ((d, o) :: l) rest Q E) (hx : isL cs x = true := by rfl) (hs : swapsWith (.Dict [] [] p2) (some (.Name x p1)) pos.line (envX cn cs P.L f cd cl) = pure false := by rfl) :
    W P (envX cn cs P.L f cd cl) m l (.Assign [.Name x p1] (.Dict [] [] p2) pos :: rest) Q E := W.asgM (Ew.em (fun hp tk H Q E hQ => newDict_K (s := P.S hp tk) H.F H.N (Top.nolimit O.T) fun d h' o F N _ h0 hs _ _ _ => hQ (.ref d) ((d, o) :: l) h' tk (h d o (dict_nil hs) h0) ⟨F, N⟩)) hx hs
theorem W.setKey (O : Ok P (envX cn cs P.L f cd cl) k) (ho : o.IsDictOf (bytesKind P.prog P.w) kvs) (hne : ∀ p ∈ own, p.1 ≠ d) (ha : Ev P (envX cn cs P.L f cd cl) m (own ++ [(d, o)]) e (I i)) (hm : m x = some (.ref d)) (hz : m z = some key) (hk : (bytesKind P.prog P.w).is kv key = true) (hsz : kvs.length ≤ 100)
    (h : ∀ t o', o'.IsDictOf (bytesKind P.prog P.w) (stored kvs kv (.int i t)) → W P (envX cn cs P.L f cd cl) m (own ++ [(d, o')]) rest Q E) (hx : isL cs x = true := by rfl) (hzl : isL cs z = true := by rfl)
    (hs : swapsWith e (some (.Subscript (.Name x p1) (.Name z p2) p3)) pos.line (envX cn cs P.L f cd cl) = pure false := by rfl) : W P (envX cn cs P.L f cd cl) m (own ++ [(d, o)]) (.Assign [.Subscript (.Name x p1) (.Name z p2) p3] e pos :: rest) Q E :=
  W.consA fun hp tk H => wpAny_Assign_Subscript (ha hp tk H _ _ fun v h1 t1 ⟨t, q⟩ H1 => Ev.loc hm hx h1 t1 H1 _ _ fun v2 h2 t2 q2 H2 => Ev.loc hz hzl h2 t2 H2 _ _ fun v3 h3 t3 q3 H3 => by
    subst q q2 q3
    exact kda_set (s := P.S h3 t3) H3.F H3.N (updOwn hne) ho hk (Nat.le_trans hsz (by rw [sizeLine_eq]; decide)) fun h4 o4 F4 N4 hd4 => h t o4 hd4 h4 _ ⟨F4, N4⟩) hs
end
section
variable {P : Pt} {env : Env} {k : Nat} {l : Ld} {kk : Value → Ld → Prop}
theorem resKinds_x (O : Ok P env (k + 2)) (h : ∀ d o ts, ts.length = 21 → o.IsDictOf (bytesKind P.prog P.w) (kvOf resList ts) → (d == sysModules) = false → (∀ p ∈ l, p.1 ≠ d) → kk (.ref d) ((d, o) :: l)) : CallX P l (.ref 238) [] kk := by
  refine' callx_defE [] O ?k1 ?k2 ?k3 ?k4 ?_
  walk_at "sides"
  intro P' hb J O' Qf Ef fin hE
  refine W.dict0 O' fun d o ho hd => ?_
  refine W.forEnum (K := kBytes) (as := resList) (vs := valsOf resList 440) (lst := 181) (fun i m1 l1 => m1 (Str.ofString "kinds") = some (.ref d) ∧ ∃ o ts, ts.length = i ∧ o.IsDictOf (bytesKind P'.prog P'.w) (kvOf (resList.take i) ts) ∧ l1 = [(d, o)]) hb O' hE ?a ?b (areB resList 440) ⟨rfl, o, [], rfl, ho, rfl⟩ ?turn ?done
  case a => exact Ev.glob O' (by k_is)
  case b => exact res_list O'.X
  case turn =>
    rintro i a t v m1 _ own Qb hi ⟨tb, rfl⟩ ⟨hm, o, ts, hts, ho, rfl⟩ - hown nx
    have hil := (List.getElem?_eq_some_iff.mp hi).1
    have h1 := kv_len (resList.take i) ts
    rw [List.length_take] at h1
    have h2 : resList.length = 21 := rfl
    refine W.setKey (i := 257 + (i : Nat)) O' ho (fun p hp => hown p hp _ (.head _)) ?a2 ((if_neg (by decide)).trans ((if_neg (by decide)).trans hm)) (if_pos rfl) (bytesKind_is P'.prog P'.w a tb) (by omega) fun t2 o2 ho2 => ?_
    case a2 => exact ev_add (Ev.gi O' gi_FIRST_RESERVED) (Ev.i (Ev.loc ((if_neg (by decide)).trans (if_pos rfl))))
    exact nx _ [(d, o2)] rfl ⟨(if_neg (by decide)).trans ((if_neg (by decide)).trans hm), o2, ts ++ [t2], by rw [List.length_append, hts]; rfl, stored_kv hi hts ▸ ho2, rfl⟩
  case done =>
    rintro m2 _ ⟨hm, o, ts, hts, ho, rfl⟩
    rw [show List.take resList.length resList = resList from List.take_length] at ho
    refine W.led fun hp H => W.retV fin.r (Ev.loc hm) (h d o ts hts (J.prog ▸ J.w ▸ ho) hd fun p hp e => ?_)
    exact Option.some_ne_none _ ((J.rs p hp).symm.trans (e ▸ (H.N _ (.head _)).2.2))
end
end
section
set_option maxHeartbeats 2000000
section
variable {P : Pt} {env : Env} {k : Nat} {l l1 : Ld} {name : Str} {v : Value} {xa : Addr} {kk : Ld → Prop}
theorem SetX.pre (h : SetX P xa name v l1 kk) (hs : ∀ p ∈ l1, p ∈ l) : SetX P xa name v l kk := fun m hp tk H => h m hp tk (H.sub hs)
theorem cm_Lexer {w : World} : Cm w 465 280 := ⟨by k_is, by k_is, by k_is⟩
theorem cl_text {w : World} : Cn w 465 (Str.ofString "text") := ⟨by k_is, by k_is, by k_is, by k_is⟩
theorem cl_source {w : World} : Cn w 465 (Str.ofString "source") := ⟨cl_text.hs, cl_text.hp, by k_is, cl_text.hh⟩
theorem cl_chunk {w : World} : Cn w 465 (Str.ofString "chunk") := ⟨cl_text.hs, cl_text.hp, by k_is, cl_text.hh⟩
theorem cl_limits {w : World} : Cn w 465 (Str.ofString "limits") := ⟨cl_text.hs, cl_text.hp, by k_is, cl_text.hh⟩
theorem cl_kinds {w : World} : Cn w 465 (Str.ofString "kinds") := ⟨cl_text.hs, cl_text.hp, by k_is, cl_text.hh⟩
theorem cl_at {w : World} : Cn w 465 (Str.ofString "at") := ⟨cl_text.hs, cl_text.hp, by k_is, cl_text.hh⟩
theorem cl_sign {w : World} : Cn w 465 (Str.ofString "sign") := ⟨cl_text.hs, cl_text.hp, by k_is, cl_text.hh⟩
theorem cl_line {w : World} : Cn w 465 (Str.ofString "line") := ⟨cl_text.hs, cl_text.hp, by k_is, cl_text.hh⟩
theorem cl_last {w : World} : Cn w 465 (Str.ofString "last_line") := ⟨cl_text.hs, cl_text.hp, by k_is, cl_text.hh⟩
theorem cl_buffer {w : World} : Cn w 465 (Str.ofString "buffer") := ⟨cl_text.hs, cl_text.hp, by k_is, cl_text.hh⟩
theorem cl_current {w : World} : Cn w 465 (Str.ofString "current") := ⟨cl_text.hs, cl_text.hp, by k_is, cl_text.hh⟩
theorem cl_ahead {w : World} : Cn w 465 (Str.ofString "ahead") := ⟨cl_text.hs, cl_text.hp, by k_is, cl_text.hh⟩
end
section
variable {P : Pt} {cn x name : Str} {cs : Scope} {f fm : Addr} {cd : Value} {cl : List (Str × Addr)} {m : Mp} {l r : Ld} {k : Nat} {e : Expr} {p1 p2 pos : Pos} {E : Value → Shared → Prop} {Q : Flow → Shared → Prop} {rest : List Stmt} {R : Value → Prop} {xa C dx : Addr} {n : Nat} {es : List DictEntry} {kk : Value → Ld → Prop}
theorem W.setNew (O : Ok P (envX cn cs P.L f cd cl) k) (hm : m x = some (.ref xa)) (Hc : Cn P.w C name) (hne : xa ≠ dx) (hr : ∀ p ∈ r, p.1 ≠ dx) (ha : Ev P (envX cn cs P.L f cd cl) m ((xa, instObj C dx) :: (dx, dictOf es n) :: r) e R)
    (h : ∀ v, R v → ∀ a ka, W P (envX cn cs P.L f cd cl) m ((xa, instObj C dx) :: (dx, dictOf (es ++ [⟨a, .str name ka, v⟩]) (n + 1)) :: r) rest Q E) (hno : getL name es = some none := by rfl) (hz : es.length ≤ 100 := by exact Nat.le_of_ble_eq_true rfl) (hx : isL cs x = true := by rfl)
    (hs : swapsWith e (some (.Attribute (.Name x p1) name p2)) pos.line (envX cn cs P.L f cd cl) = pure false := by rfl) : W P (envX cn cs P.L f cd cl) m ((xa, instObj C dx) :: (dx, dictOf es n) :: r) (.Assign [.Attribute (.Name x p1) name p2] e pos :: rest) Q E :=
  W.setX hm (Em.of ha fun v hv => setL_new O Hc hne hr hno hz (h v hv)) hx hs
theorem W.setNewV {v : Value} (O : Ok P (envX cn cs P.L f cd cl) k) (hm : m x = some (.ref xa)) (Hc : Cn P.w C name) (hne : xa ≠ dx) (hr : ∀ p ∈ r, p.1 ≠ dx) (ha : Ev P (envX cn cs P.L f cd cl) m ((xa, instObj C dx) :: (dx, dictOf es n) :: r) e (V v))
    (h : ∀ a ka, W P (envX cn cs P.L f cd cl) m ((xa, instObj C dx) :: (dx, dictOf (es ++ [⟨a, .str name ka, v⟩]) (n + 1)) :: r) rest Q E) (hno : getL name es = some none := by rfl) (hz : es.length ≤ 100 := by exact Nat.le_of_ble_eq_true rfl) (hx : isL cs x = true := by rfl)
    (hs : swapsWith e (some (.Attribute (.Name x p1) name p2)) pos.line (envX cn cs P.L f cd cl) = pure false := by rfl) : W P (envX cn cs P.L f cd cl) m ((xa, instObj C dx) :: (dx, dictOf es n) :: r) (.Assign [.Attribute (.Name x p1) name p2] e pos :: rest) Q E :=
  W.setNew O hm Hc hne hr ha (fun _ q => q ▸ h) hno hz hx hs
theorem W.setNewI {i : Int} (O : Ok P (envX cn cs P.L f cd cl) k) (hm : m x = some (.ref xa)) (Hc : Cn P.w C name) (hne : xa ≠ dx) (hr : ∀ p ∈ r, p.1 ≠ dx) (ha : Ev P (envX cn cs P.L f cd cl) m ((xa, instObj C dx) :: (dx, dictOf es n) :: r) e (I i))
    (h : ∀ t a ka, W P (envX cn cs P.L f cd cl) m ((xa, instObj C dx) :: (dx, dictOf (es ++ [⟨a, .str name ka, .int i t⟩]) (n + 1)) :: r) rest Q E) (hno : getL name es = some none := by rfl) (hz : es.length ≤ 100 := by exact Nat.le_of_ble_eq_true rfl) (hx : isL cs x = true := by rfl)
    (hs : swapsWith e (some (.Attribute (.Name x p1) name p2)) pos.line (envX cn cs P.L f cd cl) = pure false := by rfl) : W P (envX cn cs P.L f cd cl) m ((xa, instObj C dx) :: (dx, dictOf es n) :: r) (.Assign [.Attribute (.Name x p1) name p2] e pos :: rest) Q E :=
  W.setNew O hm Hc hne hr ha (fun _ ⟨t, q⟩ => q ▸ h t) hno hz hx hs
theorem W.setNewM (O : Ok P (envX cn cs P.L f cd cl) k) (hm : m x = some (.ref xa)) (Hc : Cn P.w C name) (hne : xa ≠ dx) (ha : Em P (envX cn cs P.L f cd cl) m ((xa, instObj C dx) :: (dx, dictOf es n) :: r) e (fun v l' => ∃ r', (∀ p ∈ r', p.1 ≠ dx) ∧ (∀ p ∈ (xa, instObj C dx) :: (dx, dictOf es n) :: r', p ∈ l') ∧ ∀ a ka, W P (envX cn cs P.L f cd cl) m ((xa, instObj C dx) :: (dx, dictOf (es ++ [⟨a, .str name ka, v⟩]) (n + 1)) :: r') rest Q E) E)
    (hno : getL name es = some none := by rfl) (hz : es.length ≤ 100 := by exact Nat.le_of_ble_eq_true rfl) (hx : isL cs x = true := by rfl)
    (hs : swapsWith e (some (.Attribute (.Name x p1) name p2)) pos.line (envX cn cs P.L f cd cl) = pure false := by rfl) : W P (envX cn cs P.L f cd cl) m ((xa, instObj C dx) :: (dx, dictOf es n) :: r) (.Assign [.Attribute (.Name x p1) name p2] e pos :: rest) Q E :=
  W.setX hm (fun hp tk H Q2 hQ => ha hp tk H Q2 fun v l' h' tk' ⟨r', h1, h2, h3⟩ H' => hQ v l' h' tk' (SetX.pre (setL_new O Hc hne h1 hno hz h3) h2) H') hx hs
theorem ew_call0 {a : Addr} (Fx : Fn P.w x a) (O : Ok P (envX cn cs P.L f cd cl) k) (hc : CallX P l (.ref a) [] kk) (hx : isG cs x = true := by rfl) : Ew P (envX cn cs P.L f cd cl) m l (.Call (.Name x p1) [] [] pos) kk := fun hp tk H Q E hQ => by
  refine Call_ (Ev.glob O Fx.at_ hx hp tk H _ _ fun v' h' tk' hv' H' => ?_) evalCall
  subst hv'
  exact wpB.to_any (bCallWith (b := false) (first := []) (backTo_any (es := []) rfl) Fx.kp (evs0 h' tk' pos H' _ _ fun vs h2 t2 e H2 => ⟨O.X.keeps H2.F.keep, wpB.of_any (by subst e; exact hc m h2 t2 H2 Q E hQ)⟩))
end
theorem lex_cy {x dx b kd lim ld : Addr} {o : Obj} {tx : Bs} {cv : Array UInt8} {h0 h1 h2 h3 h4 h5 h6 h7 h8 h9 h10 h11 : Int} {k0 k1 k2 k3 k4 k5 k6 k7 k8 k9 k10 k11 t u ct ta ts tl tm lw lt : Tok} {cur : Value} {sg : Int} (hs : sg = sgnL tx) (hz : tx.length ≤ 90) :
    ∃ c y, c.x = x ∧ c.d = dx ∧ c.kd = kd ∧ c.tx = tx ∧ c.lim = lim ∧ c.ld = ld ∧ c.lw = lw ∧ c.lt = lt ∧ c.cv = cv ∧ Inv c y tx [] ∧ Lx c y ++ [(kd, o)] = [(x, instObj 465 dx), (dx, dictOf [⟨h0, .str (Str.ofString "text") k0, .bytes tx.toArray t⟩, ⟨h1, .str (Str.ofString "source") k1, .bytes #[61, 108, 97, 119] u⟩, ⟨h2, .str (Str.ofString "chunk") k2, .bytes cv ct⟩, ⟨h3, .str (Str.ofString "limits") k3, .ref lim⟩, ⟨h4, .str (Str.ofString "kinds") k4, .ref kd⟩, ⟨h5, .str (Str.ofString "at") k5, .int 0 ta⟩, ⟨h6, .str (Str.ofString "sign") k6, .int sg ts⟩, ⟨h7, .str (Str.ofString "line") k7, .int 1 tl⟩, ⟨h8, .str (Str.ofString "last_line") k8, .int 1 tm⟩, ⟨h9, .str (Str.ofString "buffer") k9, .ref b⟩, ⟨h10, .str (Str.ofString "current") k10, cur⟩, ⟨h11, .str (Str.ofString "ahead") k11, .none⟩] 12), (b, baObj []), (kd, o)] :=
  ⟨⟨x, dx, fun i => [h0, h1, h2, h3, h4, h5, h6, h7, h8, h9, h10, h11].getD i 0, fun i => [k0, k1, k2, k3, k4, k5, k6, k7, k8, k9, k10, k11].getD i 0, tx, t, #[61, 108, 97, 119], u, cv, ct, lim, ld, lw, lt, kd, 12⟩, ⟨0, ta, sg, ts, 1, tl, 1, tm, b, cur, []⟩, rfl, rfl, rfl, rfl, rfl, rfl, rfl, rfl, rfl, ⟨⟨[], rfl, rfl⟩, hs, rfl, ⟨Int.le_refl 1, Int.le_refl 1⟩, hz⟩, rfl⟩
section
variable {P : Pt} {env : Env} {k : Nat} {E : Value → Shared → Prop} {l : Ld} {kk : Value → Ld → Prop} {tx : Bs} {lim ld : Addr} {lw lt : Tok}
theorem lexNew_w (hb : P.b = true) (O : Ok P env (k + 5)) (hz : tx.length ≤ 90) (hn : ∀ q ∈ l, q.2.cls ≠ .type "bytearray" ∧ q.2.cls ≠ .ref 465)
    (h : ∀ c y o, c.tx = tx → c.lim = lim → c.ld = ld → c.lw = lw → c.lt = lt → c.cv.size ≤ 1000 → (∃ ts, ts.length = 21 ∧ o.IsDictOf (bytesKind P.prog P.w) (kvOf resList ts)) → (c.kd == sysModules) = false → Inv c y tx [] → RestOK c ((c.kd, o) :: l) → kk (.ref c.x) (Lx c y ++ (c.kd, o) :: l)) :
    ∀ u v, Y tx u → Y [61, 108, 97, 119] v → CallW P l (.ref 465) [u, v, .ref lim] kk E := by
  rintro _ _ ⟨t, rfl⟩ ⟨u, rfl⟩
  refine' new_def [(Str.ofString "text", .bytes tx.toArray t), (Str.ofString "chunk", .bytes #[61, 108, 97, 119] u), (Str.ofString "limits", .ref lim)] (Str.ofString "self") O cm_Lexer ?k1 ?k2 ?k3 ?k4 ?_
  (case k1 => k_is); (case k2 => k_is); (case k3 => exact fun _ _ _ => BindsTo.of_eq rfl); (case k4 => exact rfl)
  intro x dx l2 l1 P' J O' Qf Ef fin esc
  have hne : x ≠ dx := Ne.symm (Nat.ne_of_lt l2)
  have h0 : ∀ p ∈ ([] : Ld), p.1 ≠ dx := fun _ h => nomatch h
  refine W.setNewV O' rfl cl_text hne h0 (Ev.loc rfl) fun a0 k0 => ?_
  refine W.setNewV O' rfl cl_source hne h0 (Ev.loc rfl) fun a1 k1 => ?_
  refine W.setNew O' rfl cl_chunk hne h0 (ev_call2 fn_chunk_id O' (Ev.mono (Ev.loc rfl) fun v q => ⟨u, q⟩) (Ev.gi O' gi_SOURCE_SIZE) (chunk_p O')) fun v q a2 k2 => ?_
  obtain ⟨cv, ct, rfl, hcv⟩ := q
  refine W.setNewV O' rfl cl_limits hne h0 (Ev.loc rfl) fun a3 k3 => ?_
  refine W.setNewM O' rfl cl_kinds hne (Ew.em (ew_call0 fn_reserved_kinds O' (resKinds_x O' fun kd o ts hts ho hk hd => ?_)))
  have h1 : ∀ p ∈ [(kd, o)], p.1 ≠ dx := fun p hp e => by
    rw [List.mem_singleton.mp hp] at e
    exact hd _ (.tail _ (.head _)) e.symm
  refine ⟨[(kd, o)], h1, fun p hp => by
    rcases List.mem_cons.mp hp with rfl | hp
    · exact .tail _ (.head _)
    rcases List.mem_cons.mp hp with rfl | hp
    · exact .tail _ (.tail _ (.head _))
    · rw [List.mem_singleton.mp hp]; exact .head _, fun a4 k4 => ?_⟩
  refine W.setNewI O' rfl cl_at hne h1 ev_int fun ta a5 k5 => ?_
  refine W.setNewI (i := sgnL tx) O' rfl cl_sign hne h1 (ev_if (p := (0 : Int) < tx.length) (by walk_at "et") (fun q => Ev.ieq (ev_idx (Ev.y (Ev.loc rfl)) ev_int (by omega) (by omega) q) (sg_some q)) fun q => Ev.ieq (Ev.gi O' gi_END_OF_TEXT) (sg_none q)) fun ts6 a6 k6 => ?_
  refine W.setNewI O' rfl cl_line hne h1 ev_int fun tl a7 k7 => ?_
  refine W.setNewI O' rfl cl_last hne h1 ev_int fun tm a8 k8 => ?_
  refine W.setNewM O' rfl cl_buffer hne (em_ba (J.b.trans hb) O' fun b hlt => ?_)
  have h2 : ∀ p ∈ [(b, baObj []), (kd, o)], p.1 ≠ dx := fun p hp e => by
    rcases List.mem_cons.mp hp with rfl | hp
    · exact absurd (hlt _ (.tail _ (.head _))) (e ▸ Nat.lt_irrefl _)
    · exact h1 p hp e
  refine ⟨[(b, baObj []), (kd, o)], h2, fun p hp => by
    rcases List.mem_cons.mp hp with rfl | hp
    · exact .tail _ (.head _)
    rcases List.mem_cons.mp hp with rfl | hp
    · exact .tail _ (.tail _ (.head _))
    rcases List.mem_cons.mp hp with rfl | hp
    · exact .head _
    · rw [List.mem_singleton.mp hp]; exact .tail _ (.tail _ (.tail _ (.head _))), fun a9 k9 => ?_⟩
  refine W.setNewM O' rfl cl_current hne (em_call2 fn_Token O' (Ev.gi O' gi_TK_EOS) ev_none fun u2 v2 hu hv => tok_w O' (vl := .no) hv (fun yt ly hT _ => ⟨_, h2, fun p hp => List.mem_append_right _ hp, fun a10 k10 => ?_⟩) u2 hu)
  refine W.setNewV O' rfl cl_ahead hne h2 ev_none fun a11 k11 => ?_
  obtain ⟨c, y, rfl, rfl, rfl, el, em, en, eo, ep, rfl, I0, e⟩ := lex_cy (x := x) (dx := dx) (b := b) (kd := kd) (lim := lim) (ld := ld) (o := o) (tx := tx) (cv := cv) (h0 := a0) (h1 := a1) (h2 := a2) (h3 := a3) (h4 := a4) (h5 := a5) (h6 := a6) (h7 := a7) (h8 := a8) (h9 := a9) (h10 := a10) (h11 := a11) (k0 := k0) (k1 := k1) (k2 := k2) (k3 := k3) (k4 := k4) (k5 := k5) (k6 := k6) (k7 := k7) (k8 := k8) (k9 := k9) (k10 := k10) (k11 := k11) (t := t) (u := u) (ct := ct) (ta := ta) (ts := ts6) (tl := tl) (tm := tm) (lw := lw) (lt := lt) (cur := .ref yt) rfl hz
  refine W.done fin ⟨rfl, ?_⟩
  have R := h c _ o el em en eo ep hcv ⟨ts, hts, J.prog ▸ J.w ▸ ho⟩ hk I0 (RestOK.cons (h1 _ (.head _)) (dict_cls1 ho) (dict_cls2 ho) fun q hq => ⟨Nat.ne_of_lt (l1 q hq), hn q hq⟩)
  have e2 := congrArg (· ++ l) e
  rw [List.append_assoc] at e2
  exact Eq.mp (congrArg (kk _) e2) R
end
end
section
section
variable {p : UInt8 → Bool} {x l r : Bs} {c : UInt8}
theorem dw_app (h : l.dropWhile p ≠ []) : (l ++ x).dropWhile p = l.dropWhile p ++ x := by
  induction l with
  | nil => exact absurd rfl h
  | cons a l ih =>
    simp only [List.cons_append, List.dropWhile_cons] at h ⊢
    split
    · rename_i q; rw [if_pos q] at h; exact ih h
    · rfl
theorem tw_app (h : l.dropWhile p ≠ []) : (l ++ x).takeWhile p = l.takeWhile p := by
  induction l with
  | nil => exact absurd rfl h
  | cons a l ih =>
    simp only [List.cons_append, List.takeWhile_cons, List.dropWhile_cons] at h ⊢
    split
    · rename_i q; rw [if_pos q] at h; rw [ih h]
    · rfl
theorem dw_ext (h : l.dropWhile p = []) : (l ++ [c]).dropWhile p = [] ∨ (l ++ [c]).dropWhile p = [c] := by
  induction l with
  | nil => simp only [List.nil_append, List.dropWhile_cons, List.dropWhile_nil]; split <;> simp
  | cons a l ih =>
    simp only [List.cons_append, List.dropWhile_cons] at h ⊢
    split at h
    · rename_i q; rw [if_pos q]; exact ih h
    · cases h
theorem dw_le : (l.dropWhile p).length ≤ l.length := by
  induction l with
  | nil => simp
  | cons a l ih => simp only [List.dropWhile_cons]; split <;> simp; lia
end
def Few (c : UInt8) (r : Bs) : Prop := r = [] ∨ r = [c]
def TkFew (c : UInt8) (t : Tk) : Prop := ∀ k v r, t = some (k, v, r) → Few c r
theorem tkFew_none {c : UInt8} : TkFew c none := fun _ _ _ h => nomatch h
theorem tkFew_some {c : UInt8} {k : Int} {v : Vl} {r : Bs} (h : Few c r) : TkFew c (some (k, v, r)) := fun _ _ _ e => by
  cases e; exact h
section
variable {x l r buf : Bs} {c : UInt8} {k : Int} {v : Vl}
theorem expR_st (h : (expR l).2 ≠ []) : expR (l ++ x) = ((expR l).1, (expR l).2 ++ x) := by
  match l with
  | [] => exact absurd rfl h
  | [e] =>
    simp only [expR] at h ⊢
    split at h
    · exact absurd rfl h
    · rename_i q; simp only [List.cons_append, List.nil_append, expR, if_neg q]
  | e :: s :: r3 =>
    simp only [expR, List.cons_append]
    split
    · split <;> rfl
    · rfl
theorem numR_st (h : (numR buf r).2 ≠ []) : numR buf (r ++ x) = ((numR buf r).1, (numR buf r).2 ++ x) := by
  unfold numR at h ⊢
  dsimp only at h ⊢
  have h2 : (expR (r.dropWhile isDD)).2 ≠ [] := fun q => h (by rw [q]; rfl)
  have h1 : r.dropWhile isDD ≠ [] := fun q => h2 (by rw [q]; rfl)
  rw [dw_app h1, tw_app h1, expR_st h2]
  dsimp only
  rw [dw_app h, tw_app h]
theorem numR_ext (h : (numR buf r).2 = []) : Few c (numR buf (r ++ [c])).2 := by
  unfold numR at h ⊢
  dsimp only at h ⊢
  have one : ∀ l : Bs, Few c l → Few c ((expR l).2.dropWhile isNm) := by
    rintro l (rfl | rfl)
    · exact .inl rfl
    · simp only [expR]; split
      · exact .inl rfl
      · exact dw_ext (l := []) rfl
  by_cases h1 : r.dropWhile isDD = []
  · exact one _ (dw_ext h1)
  · rw [dw_app h1]
    by_cases h2 : (expR (r.dropWhile isDD)).2 = []
    · generalize r.dropWhile isDD = l at *
      match l with
      | [] => exact absurd rfl h1
      | [e] =>
        simp only [List.cons_append, List.nil_append]
        simp only [expR] at h2 ⊢
        split
        · split
          · exact .inl rfl
          · exact dw_ext (l := []) rfl
        · rename_i q; rw [if_neg q] at h2; cases h2
      | e :: s :: r3 =>
        simp only [List.cons_append]
        simp only [expR] at h2 ⊢
        split
        · rename_i q; rw [if_pos q] at h2
          split
          · rename_i q2; rw [if_pos q2] at h2; dsimp only at h2 ⊢; rw [h2]; exact dw_ext (l := []) rfl
          · rename_i q2; rw [if_neg q2] at h2; cases h2
        · rename_i q; rw [if_neg q] at h2; cases h2
    · rw [expR_st h2]; exact dw_ext h
theorem numTok_st (h : numTok buf r = some (k, v, l)) (hl : l ≠ []) : numTok buf (r ++ x) = some (k, v, l ++ x) := by
  unfold numTok at h ⊢
  obtain ⟨u, h1, h2⟩ := Option.map_eq_some_iff.mp h
  cases h2
  rw [numR_st hl]
  dsimp only
  rw [h1]; rfl
theorem numTok_ext (h : numTok buf r = some (k, v, [])) : TkFew c (numTok buf (r ++ [c])) := by
  unfold numTok at h ⊢
  obtain ⟨u, h1, h2⟩ := Option.map_eq_some_iff.mp h
  injection h2 with _ h3
  injection h3 with _ h3
  intro k' v' r' e
  obtain ⟨_, _, e2⟩ := Option.map_eq_some_iff.mp e
  cases e2
  exact numR_ext h3
theorem sgn_app (h : l ≠ []) : sgnL (l ++ x) = sgnL l := by
  cases l with
  | nil => exact absurd rfl h
  | cons a l => rfl
theorem numR_len : (numR buf r).2.length ≤ r.length := by
  unfold numR
  dsimp only
  refine Nat.le_trans dw_le (Nat.le_trans ?_ (dw_le (p := isDD)))
  generalize r.dropWhile isDD = l
  match l with
  | [] => exact Nat.le_refl _
  | [e] => simp only [expR]; split <;> simp
  | e :: s :: r3 =>
    simp only [expR]
    split
    · split
      · simp; lia
      · simp
    · simp
theorem numR_len1 {a : UInt8} (ha : isDigI a.toNat = true) : (numR buf (a :: r)).2.length ≤ r.length := by
  have e : (a :: r).dropWhile isDD = r.dropWhile isDD := by
    rw [List.dropWhile_cons, if_pos]
    show (isDigI a.toNat || _) = true
    rw [ha]; rfl
  have := numR_len (buf := []) (r := r)
  unfold numR at this ⊢
  dsimp only at this ⊢
  rw [e]; exact this
theorem numTok_len (h : numTok buf r = some (k, v, l)) : l.length ≤ r.length ∧ k = 284 := by
  unfold numTok at h
  obtain ⟨u, h1, h2⟩ := Option.map_eq_some_iff.mp h
  cases h2
  exact ⟨numR_len, rfl⟩
theorem dotR_cases (r : Bs) : (∃ t, r = 46 :: 46 :: t ∧ dotR r = some (279, .no, t)) ∨ (∃ t, r = 46 :: t ∧ t.head? ≠ some 46 ∧ dotR r = some (278, .no, t)) ∨ (r.head? ≠ some 46 ∧ dotR r = if isDigI (sgnL r) then numTok [46] r else some (46, .no, r)) := by
  match r with
  | [] => exact .inr (.inr ⟨by simp, rfl⟩)
  | [a] =>
    by_cases h : a = 46
    · subst h; exact .inr (.inl ⟨[], rfl, by simp, by simp [dotR]⟩)
    · refine .inr (.inr ⟨by simpa using h, ?_⟩)
      unfold dotR; split <;> simp_all
  | a :: b :: t =>
    by_cases h : a = 46
    · subst h
      by_cases h2 : b = 46
      · subst h2; exact .inl ⟨t, rfl, rfl⟩
      · refine .inr (.inl ⟨b :: t, rfl, by simpa using h2, ?_⟩)
        unfold dotR; split <;> simp_all
    · refine .inr (.inr ⟨by simpa using h, ?_⟩)
      unfold dotR; split <;> simp_all
theorem dotR_one {t : Bs} (h : t.head? ≠ some 46) : dotR (46 :: t) = some (278, .no, t) := by
  unfold dotR; split <;> simp_all
theorem dotR_none {t : Bs} (h : t.head? ≠ some 46) : dotR t = if isDigI (sgnL t) then numTok [46] t else some (46, .no, t) := by
  unfold dotR; split <;> simp_all
theorem head_app (h : l ≠ []) : (l ++ x).head? = l.head? := by
  cases l with
  | nil => exact absurd rfl h
  | cons a l => rfl
theorem dotR_st (h : dotR r = some (k, v, l)) (hl : l ≠ []) : dotR (r ++ x) = some (k, v, l ++ x) := by
  rcases dotR_cases r with ⟨t, rfl, e⟩ | ⟨t, rfl, ht, e⟩ | ⟨hr, e⟩
  · rw [e] at h; cases h; rfl
  · rw [e] at h; cases h; exact dotR_one (t := l ++ x) (by rw [head_app hl]; exact ht)
  · rw [e] at h
    have hr0 : r ≠ [] := by
      rintro rfl
      simp [sgnL, isDigI] at h
      exact hl h.2.2
    rw [dotR_none (by rw [head_app hr0]; exact hr), sgn_app hr0]
    split at h
    · rename_i q; rw [if_pos q]; exact numTok_st h hl
    · rename_i q; rw [if_neg q]; cases h; rfl
theorem dotR_ext (h : dotR r = some (k, v, [])) : TkFew c (dotR (r ++ [c])) := by
  rcases dotR_cases r with ⟨t, rfl, e⟩ | ⟨t, rfl, ht, e⟩ | ⟨hr, e⟩
  · rw [e] at h; cases h; exact tkFew_some (.inr rfl)
  · rw [e] at h; cases h
    by_cases hc : c = 46
    · subst hc; exact tkFew_some (.inl rfl)
    · show TkFew c (dotR (46 :: [c])); rw [dotR_one (by simpa using hc)]; exact tkFew_some (.inr rfl)
  · by_cases hr0 : r = []
    · subst hr0
      by_cases hc : c = 46
      · subst hc; show TkFew 46 (dotR (46 :: [])); rw [dotR_one (by simp)]; exact tkFew_some (.inl rfl)
      · rw [List.nil_append, dotR_none (by simpa using hc)]
        split
        · intro k v r' e'
          unfold numTok at e'
          obtain ⟨_, _, e2⟩ := Option.map_eq_some_iff.mp e'
          cases e2
          exact numR_ext (r := []) (by unfold numR; rfl)
        · exact tkFew_some (.inr rfl)
    · rw [e] at h
      rw [dotR_none (by rw [head_app hr0]; exact hr), sgn_app hr0]
      split at h
      · rename_i q; rw [if_pos q]; exact numTok_ext h
      · cases h; exact absurd rfl hr0
theorem dotR_len (h : dotR r = some (k, v, l)) : l.length ≤ r.length ∧ k ≠ 287 := by
  rcases dotR_cases r with ⟨t, rfl, e⟩ | ⟨t, rfl, ht, e⟩ | ⟨hr, e⟩
  · rw [e] at h; cases h; exact ⟨by simp; lia, by decide⟩
  · rw [e] at h; cases h; exact ⟨by simp, by decide⟩
  · rw [e] at h
    split at h
    · obtain ⟨h1, h2⟩ := numTok_len h; exact ⟨h1, by rw [h2]; decide⟩
    · cases h; exact ⟨Nat.le_refl _, by decide⟩
theorem wordTok_st (h : wordTok r = some (k, v, l)) (hl : l ≠ []) : wordTok (r ++ x) = some (k, v, l ++ x) := by
  have hd : r.dropWhile isNm = l := by
    unfold wordTok at h; split at h <;> cases h <;> rfl
  unfold wordTok at h ⊢
  rw [tw_app (by rw [hd]; exact hl), dw_app (by rw [hd]; exact hl)]
  split at h <;> cases h <;> rfl
theorem wordTok_ext (h : wordTok r = some (k, v, [])) : TkFew c (wordTok (r ++ [c])) := by
  have hd : r.dropWhile isNm = [] := by
    unfold wordTok at h; split at h
    · injection h with h; injection h with _ h; injection h
    · injection h with h; injection h with _ h; injection h
  unfold wordTok
  split <;> exact tkFew_some (dw_ext hd)
theorem kwOf_lt {b : Bs} {i : Nat} (h : kwOf b = some i) : i < 21 := by
  unfold kwOf at h
  have := (List.findIdx?_eq_some_iff_getElem.mp h).1
  exact this
theorem wordTok_len {a : UInt8} (ha : isLetI a.toNat = true) (h : wordTok (a :: r) = some (k, v, l)) : l.length ≤ r.length ∧ k ≠ 287 := by
  have e : (a :: r).dropWhile isNm = r.dropWhile isNm := by
    rw [List.dropWhile_cons, if_pos]
    show (isLetI a.toNat || _) = true
    rw [ha]; rfl
  unfold wordTok at h
  rw [e] at h
  split at h
  · rename_i i hi
    have := kwOf_lt hi
    cases h; exact ⟨dw_le, by lia⟩
  · cases h; exact ⟨dw_le, by decide⟩
end
section
variable {x l r buf : Bs} {c : UInt8} {k : Int} {v : Vl}
theorem eqs_st : ∀ {r : Bs}, (eqs r).2 ≠ [] → eqs (r ++ x) = ((eqs r).1, (eqs r).2 ++ x)
  | [], h => absurd rfl h
  | a :: r, h => by
    simp only [eqs, List.cons_append] at h ⊢
    split
    · rename_i q; rw [if_pos q] at h; rw [eqs_st h]
    · rfl
theorem eqs_all : ∀ {r : Bs}, (eqs r).2 = [] → eqs (r ++ [c]) = if c = 61 then ((eqs r).1 + 1, []) else ((eqs r).1, [c])
  | [], _ => by simp only [List.nil_append, eqs]
  | a :: r, h => by
    simp only [eqs, List.cons_append] at h ⊢
    split
    · rename_i q; rw [if_pos q] at h; rw [eqs_all h]; split <;> rfl
    · rename_i q; rw [if_neg q] at h; cases h
theorem nlRest_st {a : UInt8} (h : r ≠ []) : nlRest a (r ++ x) = nlRest a r ++ x := by
  cases r with
  | nil => exact absurd rfl h
  | cons b r => simp only [nlRest, List.cons_append]; split <;> rfl
theorem nlRest_ne {a : UInt8} (h : nlRest a r ≠ []) : r ≠ [] := by rintro rfl; exact h rfl
theorem dig3_st : ∀ {n : Nat} {i : Int} {r : Bs}, (dig3 n i r).2 ≠ [] → dig3 n i (r ++ x) = ((dig3 n i r).1, (dig3 n i r).2 ++ x)
  | 0, _, _, _ => rfl
  | _ + 1, _, [], h => absurd rfl h
  | n + 1, i, a :: r, h => by
    simp only [dig3, List.cons_append] at h ⊢
    split
    · rename_i q; rw [if_pos q] at h; exact dig3_st h
    · rfl
theorem escR_st {b : Bs} (h : escR buf r = some (b, l)) (hl : l ≠ []) : escR buf (r ++ x) = some (b, l ++ x) := by
  cases r with
  | nil => cases h; exact absurd rfl hl
  | cons a r =>
    simp only [escR, List.cons_append] at h ⊢
    split at h
    · rename_i q; rw [if_pos q]; cases h; rw [nlRest_st (nlRest_ne hl)]
    · rename_i q; rw [if_neg q]
      split at h
      · rename_i q2; rw [if_pos q2]
        split at h
        · cases h
        · rename_i q3
          cases h
          have e : dig3 3 0 (a :: (r ++ x)) = ((dig3 3 0 (a :: r)).1, (dig3 3 0 (a :: r)).2 ++ x) := dig3_st (r := a :: r) hl
          rw [e]; dsimp only; rw [if_neg q3]
      · rename_i q2; rw [if_neg q2]; cases h; rfl
theorem strR_nil {q : UInt8} {b : Bs} : strR q b [] = none := by rw [strR]
theorem strR_st {q : UInt8} : ∀ (n : Nat) {buf r b : Bs}, r.length ≤ n → strR q buf r = some (b, l) → strR q buf (r ++ x) = some (b, l ++ x)
  | n, buf, [], b, _, h => by rw [strR_nil] at h; cases h
  | 0, buf, a :: r, b, hn, h => by simp at hn
  | n + 1, buf, a :: r, b, hn, h => by
    have hn' : r.length ≤ n := by simpa using hn
    rw [List.cons_append, strR]
    rw [strR] at h
    split at h
    · rename_i q1; rw [if_pos q1]; cases h; rfl
    · rename_i q1; rw [if_neg q1]
      split at h
      · cases h
      · rename_i q2; rw [if_neg q2]
        split at h
        · rename_i q3; rw [if_pos q3]
          cases he : escR buf r with
          | none => rw [he] at h; cases h
          | some p =>
            obtain ⟨b2, r2⟩ := p
            rw [he] at h
            dsimp only at h
            split at h
            · rename_i hlen
              have hr2 : r2 ≠ [] := by rintro rfl; rw [strR_nil] at h; cases h
              rw [escR_st he hr2]
              dsimp only
              rw [dif_pos (by simp only [List.length_append, List.length_cons] at hlen ⊢; lia)]
              exact strR_st n (by simp only [List.length_cons] at hlen; lia) h
            · cases h
        · rename_i q3; rw [if_neg q3]; exact strR_st n hn' h
theorem longR_nil {lv : Nat} {t : Bool} {bg : Nat} {b : Bs} : longR lv t bg b [] = none := by rw [longR]
theorem longR_st {lv : Nat} {t : Bool} {bg : Nat} : ∀ (n : Nat) {buf r b : Bs}, r.length ≤ n → longR lv t bg buf r = some (b, l) → longR lv t bg buf (r ++ x) = some (b, l ++ x)
  | n, buf, [], b, _, h => by rw [longR_nil] at h; cases h
  | 0, buf, a :: r, b, hn, h => by simp at hn
  | n + 1, buf, a :: r, b, hn, h => by
    have hn' : r.length ≤ n := by simpa using hn
    have hq := eqs_len r
    rw [List.cons_append, longR]
    rw [longR] at h
    have tail : ∀ {m : Bs} {i : Int}, sgnL m = i → 0 ≤ i → m ≠ [] ∧ (m ++ x).tail = m.tail ++ x := by
      rintro m i e h0
      cases m with
      | nil => exact absurd (show (-1 : Int) = i from e) (by lia)
      | cons => exact ⟨by simp, rfl⟩
    split at h
    · rename_i q1; rw [if_pos q1]
      split at h
      · rename_i q2
        obtain ⟨t1, t2⟩ := tail q2.1 (by decide)
        rw [eqs_st t1, sgn_app t1, if_pos q2]
        split at h
        · cases h
        · rename_i q3; rw [if_neg q3, t2]
          exact longR_st n (by rw [List.length_tail]; lia) h
      · rename_i q2
        have t1 : (eqs r).2 ≠ [] := by intro e; rw [e, longR_nil] at h; cases h
        rw [eqs_st t1, sgn_app t1, if_neg q2]
        exact longR_st n (by lia) h
    · rename_i q1; rw [if_neg q1]
      split at h
      · rename_i q2; rw [if_pos q2]
        split at h
        · rename_i q3
          obtain ⟨t1, t2⟩ := tail q3.1 (by decide)
          rw [eqs_st t1, sgn_app t1, if_pos q3, t2]
          cases h; rfl
        · rename_i q3
          have t1 : (eqs r).2 ≠ [] := by intro e; rw [e, longR_nil] at h; cases h
          rw [eqs_st t1, sgn_app t1, if_neg q3]
          exact longR_st n (by lia) h
      · rename_i q2; rw [if_neg q2]
        split at h
        · rename_i q3; rw [if_pos q3]
          have t1 : nlRest a r ≠ [] := by intro e; rw [e, longR_nil] at h; cases h
          rw [nlRest_st (nlRest_ne t1)]
          exact longR_st n (Nat.le_trans (nlRest_le _ _) hn') h
        · rename_i q3; rw [if_neg q3]
          split at h
          · rename_i q4; rw [if_pos q4]; exact longR_st n hn' h
          · rename_i q4; rw [if_neg q4]; exact longR_st n hn' h
theorem openR_st (h : openR r ≠ []) : openR (r ++ x) = openR r ++ x := by
  cases r with
  | nil => exact absurd rfl h
  | cons b r =>
    simp only [openR, List.cons_append] at h ⊢
    split
    · rename_i q; rw [if_pos q] at h; exact nlRest_st (nlRest_ne h)
    · rfl
theorem openR_le_p : (openR r).length ≤ r.length := by
  cases r with
  | nil => exact Nat.le_refl _
  | cons b r => simp only [openR]; split; exact Nat.le_succ_of_le (nlRest_le _ _); exact Nat.le_refl _
theorem sgn91 (h : sgnL r = 91) : r ≠ [] := by rintro rfl; exact absurd h (by decide)
theorem long_open {lv : Nat} {t : Bool} {bg : Nat} {b : Bs} {m : Bs} (hm : m ≠ []) (h : longR lv t bg buf (openR m.tail) = some (b, l)) : longR lv t bg buf (openR (m ++ x).tail) = some (b, l ++ x) := by
  cases m with
  | nil => exact absurd rfl hm
  | cons a m =>
    have t1 : openR m ≠ [] := by intro e; change longR lv t bg buf (openR m) = _ at h; rw [e, longR_nil] at h; cases h
    show longR lv t bg buf (openR (m ++ x)) = _
    rw [openR_st t1]
    exact longR_st _ (Nat.le_refl _) h
theorem longR_len_p {lv : Nat} {t : Bool} {bg : Nat} : ∀ (n : Nat) {buf r b : Bs}, r.length ≤ n → longR lv t bg buf r = some (b, l) → l.length < r.length
  | n, buf, [], b, _, h => by rw [longR_nil] at h; cases h
  | 0, buf, a :: r, b, hn, h => by simp at hn
  | n + 1, buf, a :: r, b, hn, h => by
    have hn' : r.length ≤ n := by simpa using hn
    have hq := eqs_len r
    have ht := List.length_tail (l := (eqs r).2)
    have hnl := nlRest_le a r
    rw [longR] at h
    rw [List.length_cons]
    split at h
    · split at h
      · split at h
        · cases h
        · have := longR_len_p n (by lia) h; lia
      · have := longR_len_p n (by lia) h; lia
    · split at h
      · split at h
        · cases h; lia
        · have := longR_len_p n (by lia) h; lia
      · split at h
        · have := longR_len_p n (by lia) h; lia
        · split at h
          · have := longR_len_p n (by lia) h; lia
          · have := longR_len_p n (by lia) h; lia
theorem brkR_st (h : brkR r = some (k, v, l)) (hl : l ≠ []) : brkR (r ++ x) = some (k, v, l ++ x) := by
  unfold brkR at h ⊢
  split at h
  · rename_i q
    have t1 := sgn91 q
    rw [eqs_st t1, sgn_app t1, if_pos q]
    obtain ⟨⟨b, l2⟩, h1, h2⟩ := Option.map_eq_some_iff.mp h
    dsimp only at h1 h2 ⊢
    rw [long_open t1 h1]
    cases h2; rfl
  · rename_i q
    split at h
    · cases h
    · rename_i q2
      cases h
      rw [eqs_st hl, sgn_app hl, if_neg q, if_neg q2]
theorem brkR_ext (h : brkR r = some (k, v, [])) : TkFew c (brkR (r ++ [c])) := by
  unfold brkR at h ⊢
  split at h
  · rename_i q
    have t1 := sgn91 q
    rw [eqs_st t1, sgn_app t1, if_pos q]
    obtain ⟨⟨b, l2⟩, h1, h2⟩ := Option.map_eq_some_iff.mp h
    cases h2
    dsimp only at h1 ⊢
    rw [long_open t1 h1]
    exact tkFew_some (.inr rfl)
  · rename_i q
    split at h
    · cases h
    · rename_i q2
      have e : (eqs r).2 = [] := by injection h with h; injection h with _ h; injection h
      rw [eqs_all e]
      split
      · dsimp only
        rw [if_neg (by decide), if_pos (by lia)]
        exact tkFew_none
      · dsimp only
        split
        · rw [show openR ([c] : Bs).tail = [] from rfl, longR_nil]
          exact tkFew_none
        · exact tkFew_some (.inr rfl)
theorem brkR_len (h : brkR r = some (k, v, l)) : l.length ≤ r.length ∧ k ≠ 287 := by
  have hq := eqs_len r
  have ht := List.length_tail (l := (eqs r).2)
  unfold brkR at h
  split at h
  · obtain ⟨⟨b, l2⟩, h1, h2⟩ := Option.map_eq_some_iff.mp h
    cases h2
    have := longR_len_p _ (Nat.le_refl _) h1
    have := openR_le_p (r := (eqs r).2.tail)
    exact ⟨by dsimp only; lia, by decide⟩
  · split at h
    · cases h
    · cases h; exact ⟨by lia, by decide⟩
theorem lineR_ext (h : lineR r = []) : Few c (lineR (r ++ [c])) := dw_ext h
theorem cmtR_other (h : ∀ r1, r ≠ 91 :: r1) : cmtR r = some (lineR r) := by
  unfold cmtR; split
  · exact absurd rfl (h _)
  · rfl
theorem cmtR_br (r1 : Bs) : cmtR (91 :: r1) = if sgnL (eqs r1).2 = 91 then (longR (eqs r1).1 false 1 [91] (openR (eqs r1).2.tail)).map (·.2) else some (lineR (eqs r1).2) := rfl
theorem cmtR_st (h : cmtR r = some l) (hl : l ≠ []) : cmtR (r ++ x) = some (l ++ x) := by
  by_cases hb : ∃ r1, r = 91 :: r1
  · obtain ⟨r1, rfl⟩ := hb
    rw [List.cons_append, cmtR_br]
    rw [cmtR_br] at h
    split at h
    · rename_i q
      have t1 := sgn91 q
      rw [eqs_st t1, sgn_app t1, if_pos q]
      obtain ⟨⟨b, l2⟩, h1, h2⟩ := Option.map_eq_some_iff.mp h
      cases h2
      dsimp only at h1 ⊢
      rw [long_open t1 h1]; rfl
    · rename_i q
      cases h
      have t1 : (eqs r1).2 ≠ [] := by intro e; rw [e] at hl; exact hl rfl
      rw [eqs_st t1, sgn_app t1, if_neg q]
      exact congrArg some (dw_app hl)
  · have hb' : ∀ r1, r ≠ 91 :: r1 := fun r1 e => hb ⟨r1, e⟩
    rw [cmtR_other hb'] at h
    cases h
    have t1 : r ≠ [] := by rintro rfl; exact hl rfl
    rw [cmtR_other]
    · exact congrArg some (dw_app hl)
    · intro r1 e
      cases r with
      | nil => exact t1 rfl
      | cons a r => injection e with e1 e2; exact hb' r (by rw [e1])
def BsFew (c : UInt8) (t : Option Bs) : Prop := ∀ r, t = some r → Few c r
theorem cmtR_ext (h : cmtR r = some []) : BsFew c (cmtR (r ++ [c])) := by
  by_cases hb : ∃ r1, r = 91 :: r1
  · obtain ⟨r1, rfl⟩ := hb
    rw [List.cons_append, cmtR_br]
    rw [cmtR_br] at h
    split at h
    · rename_i q
      have t1 := sgn91 q
      rw [eqs_st t1, sgn_app t1, if_pos q]
      obtain ⟨⟨b, l2⟩, h1, h2⟩ := Option.map_eq_some_iff.mp h
      dsimp only at h1 h2 ⊢
      subst h2
      rw [long_open t1 h1]
      intro r e; cases e; exact .inr rfl
    · rename_i q
      have h := Option.some.inj h
      by_cases t1 : (eqs r1).2 = []
      · rw [eqs_all t1]
        split
        · dsimp only; rw [if_neg (by decide)]; intro r e; cases e; exact .inl rfl
        · dsimp only
          split
          · rw [show openR ([c] : Bs).tail = [] from rfl, longR_nil]; intro r e; cases e
          · intro r e; cases e; exact lineR_ext (r := []) rfl
      · rw [eqs_st t1, sgn_app t1, if_neg q]
        intro r e; cases e; exact lineR_ext h
  · have hb' : ∀ r1, r ≠ 91 :: r1 := fun r1 e => hb ⟨r1, e⟩
    rw [cmtR_other hb'] at h
    have h := Option.some.inj h
    by_cases t1 : r = []
    · subst t1
      by_cases hc : c = 91
      · subst hc
        intro r e; cases e; exact .inl rfl
      · rw [List.nil_append, cmtR_other (by intro r1 e; injection e with e1 _; exact hc e1)]
        intro r e; cases e; exact lineR_ext (r := []) rfl
    · rw [cmtR_other]
      · intro r e; cases e; exact lineR_ext h
      · intro r1 e
        cases r with
        | nil => exact t1 rfl
        | cons a r => injection e with e1 e2; exact hb' r (by rw [e1])
end
section
variable {x l r s buf : Bs} {c : UInt8} {k : Int} {v : Vl}
theorem skipR_nil : skipR [] = some [] := by rw [skipR]
theorem lineR_le_p : (lineR r).length ≤ r.length := dw_le
theorem cmtR_le_p (h : cmtR r = some l) : l.length ≤ r.length := by
  by_cases hb : ∃ r1, r = 91 :: r1
  · obtain ⟨r1, rfl⟩ := hb
    have hq := eqs_len r1
    have ht := List.length_tail (l := (eqs r1).2)
    rw [cmtR_br] at h
    rw [List.length_cons]
    split at h
    · obtain ⟨⟨b, l2⟩, h1, h2⟩ := Option.map_eq_some_iff.mp h
      dsimp only at h1 h2
      subst h2
      have := longR_len_p _ (Nat.le_refl _) h1
      have := openR_le_p (r := (eqs r1).2.tail)
      lia
    · cases h
      have := lineR_le_p (r := (eqs r1).2)
      lia
  · rw [cmtR_other (fun r1 e => hb ⟨r1, e⟩)] at h
    cases h
    exact lineR_le_p
theorem skipR_cons (a : UInt8) (r : Bs) : skipR (a :: r) = if isNlI a.toNat then skipR (nlRest a r) else if isBlkI a.toNat then skipR r
    else if a = 45 ∧ sgnL r = 45 then (cmtR r.tail).bind skipR else some (a :: r) := by
  rw [skipR]
  split
  · rfl
  · split
    · rfl
    · split
      · rename_i q
        cases hc : cmtR r.tail with
        | none => rfl
        | some r2 =>
          have := cmtR_le_p hc
          have := List.length_tail (l := r)
          dsimp only
          rw [dif_pos (by rw [List.length_cons]; lia)]
          rfl
      · rfl
theorem skipR_len : ∀ (n : Nat) {r s : Bs}, r.length ≤ n → skipR r = some s → s.length ≤ r.length
  | n, [], s, _, h => by rw [skipR_nil] at h; cases h; exact Nat.le_refl _
  | 0, a :: r, s, hn, h => by simp at hn
  | n + 1, a :: r, s, hn, h => by
    have hn' : r.length ≤ n := by simpa using hn
    have hnl := nlRest_le a r
    rw [skipR_cons] at h
    rw [List.length_cons]
    split at h
    · have := skipR_len n (by lia) h; lia
    · split at h
      · have := skipR_len n (by lia) h; lia
      · split at h
        · obtain ⟨r2, h1, h2⟩ := Option.bind_eq_some_iff.mp h
          have := cmtR_le_p h1
          have := List.length_tail (l := r)
          have := skipR_len n (by lia) h2; lia
        · cases h; exact Nat.le_refl _
theorem skipR_st : ∀ (n : Nat) {r s : Bs}, r.length ≤ n → skipR r = some s → 2 ≤ s.length → skipR (r ++ x) = some (s ++ x)
  | n, [], s, _, h, hs => by rw [skipR_nil] at h; cases h; simp at hs
  | 0, a :: r, s, hn, h, hs => by simp at hn
  | n + 1, a :: r, s, hn, h, hs => by
    have hn' : r.length ≤ n := by simpa using hn
    have hnl := nlRest_le a r
    rw [List.cons_append, skipR_cons]
    rw [skipR_cons] at h
    split at h
    · rename_i q; rw [if_pos q]
      have t1 : nlRest a r ≠ [] := by intro e; rw [e, skipR_nil] at h; cases h; simp at hs
      rw [nlRest_st (nlRest_ne t1)]
      exact skipR_st n (by lia) h hs
    · rename_i q; rw [if_neg q]
      split at h
      · rename_i q2; rw [if_pos q2]; exact skipR_st n hn' h hs
      · rename_i q2; rw [if_neg q2]
        split at h
        · rename_i q3
          obtain ⟨r2, h1, h2⟩ := Option.bind_eq_some_iff.mp h
          have t1 : r ≠ [] := by rintro rfl; exact absurd q3.2 (by decide)
          have t2 : r2 ≠ [] := by rintro rfl; rw [skipR_nil] at h2; cases h2; simp at hs
          have e1 := cmtR_le_p h1
          have e2 := List.length_tail (l := r)
          rw [sgn_app t1, if_pos q3]
          have e : (r ++ x).tail = r.tail ++ x := by cases r with
            | nil => exact absurd rfl t1
            | cons => rfl
          rw [e, cmtR_st h1 t2]
          exact skipR_st n (by lia) h2 hs
        · rename_i q3
          cases h
          have t1 : r ≠ [] := by rintro rfl; simp at hs
          rw [sgn_app t1, if_neg q3]; rfl
theorem skipR_one (c : UInt8) : skipR [c] = some [] ∨ skipR [c] = some [c] := by
  rw [skipR_cons]
  split
  · exact .inl skipR_nil
  · split
    · exact .inl skipR_nil
    · rw [if_neg (by rintro ⟨_, q⟩; exact absurd q (by decide))]; exact .inr rfl
theorem skipR_few (h : Few c r) : skipR r = some [] ∨ skipR r = some [c] := by
  rcases h with rfl | rfl
  · exact .inl skipR_nil
  · exact skipR_one c
theorem skipR_ext : ∀ (n : Nat) {r s : Bs}, r.length ≤ n → skipR r = some s → s.length ≤ 1 → skipR (r ++ [c]) = none ∨ skipR (r ++ [c]) = some [] ∨ skipR (r ++ [c]) = some (s ++ [c])
  | n, [], s, _, h, hs => by rw [skipR_nil] at h; cases h; exact .inr (skipR_one c)
  | 0, a :: r, s, hn, h, hs => by simp at hn
  | n + 1, a :: r, s, hn, h, hs => by
    have hn' : r.length ≤ n := by simpa using hn
    have hnl := nlRest_le a r
    rw [List.cons_append, skipR_cons]
    rw [skipR_cons] at h
    split at h
    · rename_i q; rw [if_pos q]
      by_cases t1 : r = []
      · subst t1
        have h' : skipR [] = some s := h
        rw [skipR_nil] at h'
        cases h'
        refine .inr (skipR_few ?_)
        simp only [List.nil_append, nlRest]
        split
        · exact .inl rfl
        · exact .inr rfl
      · rw [nlRest_st t1]
        exact skipR_ext n (by lia) h hs
    · rename_i q; rw [if_neg q]
      split at h
      · rename_i q2; rw [if_pos q2]; exact skipR_ext n hn' h hs
      · rename_i q2; rw [if_neg q2]
        split at h
        · rename_i q3
          obtain ⟨r2, h1, h2⟩ := Option.bind_eq_some_iff.mp h
          have t1 : r ≠ [] := by rintro rfl; exact absurd q3.2 (by decide)
          have e1 := cmtR_le_p h1
          have e2 := List.length_tail (l := r)
          rw [sgn_app t1, if_pos q3]
          have e : (r ++ [c]).tail = r.tail ++ [c] := by cases r with
            | nil => exact absurd rfl t1
            | cons => rfl
          rw [e]
          by_cases t2 : r2 = []
          · subst t2
            rw [skipR_nil] at h2
            cases h2
            cases hc : cmtR (r.tail ++ [c]) with
            | none => exact .inl rfl
            | some r3 => exact .inr (skipR_few (cmtR_ext h1 r3 hc))
          · rw [cmtR_st h1 t2]
            exact skipR_ext n (by lia) h2 hs
        · rename_i q3
          cases h
          have t1 : r = [] := by cases r with
            | nil => rfl
            | cons => simp at hs
          subst t1
          split
          · rename_i q4
            have hc : c = 45 := by
              have := q4.2
              have e : ((c.toNat : Nat) : Int) = 45 := this
              exact UInt8.toNat_inj.mp (by show c.toNat = 45; lia)
            exact .inr (.inl (by show (cmtR []).bind skipR = _; rw [show cmtR [] = some [] from rfl]; exact skipR_nil))
          · exact .inr (.inr rfl)
theorem tokS_c (a : UInt8) (r : Bs) : tokS (a :: r) = tokK a r (tcOf a) := rfl
theorem strR_len {q : UInt8} : ∀ (n : Nat) {buf r b : Bs}, r.length ≤ n → strR q buf r = some (b, l) → l.length < r.length
  | n, buf, [], b, _, h => by rw [strR_nil] at h; cases h
  | 0, buf, a :: r, b, hn, h => by simp at hn
  | n + 1, buf, a :: r, b, hn, h => by
    have hn' : r.length ≤ n := by simpa using hn
    rw [strR] at h
    rw [List.length_cons]
    split at h
    · cases h; lia
    · split at h
      · cases h
      · split at h
        · split at h
          · cases h
          · split at h
            · rename_i hl
              rw [List.length_cons] at hl
              have := strR_len n (by lia) h; lia
            · cases h
        · have := strR_len n hn' h; lia
theorem cmpR_st {a : UInt8} (h : r ≠ []) : cmpR a (r ++ x) = ((cmpR a r).1, (cmpR a r).2 ++ x) := by
  cases r with
  | nil => exact absurd rfl h
  | cons b r => simp only [cmpR, List.cons_append]; split <;> rfl
theorem cmpR_le {a : UInt8} : (cmpR a r).2.length ≤ r.length := by
  cases r with
  | nil => exact Nat.le_refl _
  | cons b r => simp only [cmpR]; split <;> simp
theorem tokS_len {a : UInt8} (h : tokS (a :: r) = some (k, v, l)) : l.length ≤ r.length ∧ k ≠ 287 := by
  rw [tokS_c] at h
  revert h
  cases hc : tcOf a with
  | str =>
    intro h
    obtain ⟨⟨b, l2⟩, h1, h2⟩ := Option.map_eq_some_iff.mp h
    cases h2
    exact ⟨Nat.le_of_lt (strR_len _ (Nat.le_refl _) h1), by decide⟩
  | brk => exact brkR_len
  | dot => exact dotR_len
  | num =>
    intro h
    obtain ⟨u, h1, h2⟩ := Option.map_eq_some_iff.mp h
    cases h2
    exact ⟨numR_len1 (tc_num hc), by decide⟩
  | word => exact wordTok_len (tc_word hc)
  | minus => intro h; cases h; exact ⟨Nat.le_refl _, by decide⟩
  | cmp =>
    intro h
    cases h
    refine ⟨cmpR_le, ?_⟩
    have := a.toNat_lt
    cases r with
    | nil => show (a.toNat : Int) ≠ 287; lia
    | cons b r =>
      simp only [cmpR]
      split
      · dsimp only
        split
        · decide
        · split
          · decide
          · split <;> decide
      · dsimp only; lia
  | other =>
    intro h
    cases h
    have := a.toNat_lt
    exact ⟨Nat.le_refl _, by lia⟩
theorem tokS_st (h : tokS s = some (k, v, l)) (hl : l ≠ []) : tokS (s ++ x) = some (k, v, l ++ x) := by
  cases s with
  | nil => cases h; exact absurd rfl hl
  | cons a r =>
    rw [List.cons_append, tokS_c]
    rw [tokS_c] at h
    revert h
    cases tcOf a with
    | str =>
      intro h
      obtain ⟨⟨b, l2⟩, h1, h2⟩ := Option.map_eq_some_iff.mp h
      cases h2
      show Option.map _ (strR a [a] (r ++ x)) = _
      rw [strR_st _ (Nat.le_refl _) h1]; rfl
    | brk => exact fun h => brkR_st h hl
    | dot => exact fun h => dotR_st h hl
    | num => exact fun h => numTok_st (r := a :: r) h hl
    | word => exact fun h => wordTok_st (r := a :: r) h hl
    | minus => intro h; cases h; rfl
    | cmp =>
      intro h
      cases h
      show some ((cmpR a (r ++ x)).1, _, (cmpR a (r ++ x)).2) = _
      rw [cmpR_st]
      rintro rfl; exact hl rfl
    | other => intro h; cases h; rfl
theorem tokS_ext (hs : s ≠ []) (h : tokS s = some (k, v, [])) : TkFew c (tokS (s ++ [c])) := by
  cases s with
  | nil => exact absurd rfl hs
  | cons a r =>
    rw [List.cons_append, tokS_c]
    rw [tokS_c] at h
    revert h
    cases tcOf a with
    | str =>
      intro h
      obtain ⟨⟨b, l2⟩, h1, h2⟩ := Option.map_eq_some_iff.mp h
      cases h2
      show TkFew c (Option.map _ (strR a [a] (r ++ [c])))
      rw [strR_st _ (Nat.le_refl _) h1]; exact tkFew_some (.inr rfl)
    | brk => exact brkR_ext
    | dot => exact dotR_ext
    | num => exact numTok_ext (r := a :: r)
    | word => exact wordTok_ext (r := a :: r)
    | minus => intro h; cases h; exact tkFew_some (.inr rfl)
    | cmp =>
      intro h
      have e : (cmpR a r).2 = [] := by injection h with h; injection h with _ h; injection h
      show TkFew c (some ((cmpR a (r ++ [c])).1, _, (cmpR a (r ++ [c])).2))
      cases r with
      | nil =>
        simp only [List.nil_append, cmpR]
        split
        · exact tkFew_some (.inl rfl)
        · exact tkFew_some (.inr rfl)
      | cons b r =>
        rw [cmpR_st (by simp)]
        rw [e]
        exact tkFew_some (.inr rfl)
    | other => intro h; cases h; exact tkFew_some (.inr rfl)
theorem readS_cases (r : Bs) : readS r = none ∨ (skipR r = some [] ∧ readS r = some (287, .no, [])) ∨ ∃ a s k v l, skipR r = some (a :: s) ∧ tokS (a :: s) = some (k, v, l) ∧ readS r = some (k, v, l) ∧ k ≠ 287 ∧ l.length ≤ s.length ∧ l.length < r.length := by
  unfold readS
  cases h : skipR r with
  | none => exact .inl rfl
  | some s =>
    cases s with
    | nil => exact .inr (.inl ⟨rfl, rfl⟩)
    | cons a s =>
      cases h2 : tokS (a :: s) with
      | none => exact .inl (by rw [Option.bind_some, h2])
      | some p =>
        obtain ⟨k, v, l⟩ := p
        obtain ⟨h3, h4⟩ := tokS_len h2
        have := skipR_len _ (Nat.le_refl _) h
        rw [List.length_cons] at this
        exact .inr (.inr ⟨a, s, k, v, l, rfl, h2, by rw [Option.bind_some, h2], h4, h3, by lia⟩)
theorem toks_none (h : readS r = none) : toks r = none := by rw [toks, h]
theorem toks_end (h : readS r = some (287, v, l)) : toks r = some [] := by rw [toks, h]; rfl
theorem toks_tok (h : readS r = some (k, v, l)) (hk : k ≠ 287) : toks r = (toks l).map ((k, v) :: ·) := by
  rcases readS_cases r with e | ⟨_, e⟩ | ⟨a, s, k', v', l', _, _, e, hk', _, hl⟩
  · rw [e] at h; cases h
  · rw [e] at h; cases h; exact absurd rfl hk
  · rw [e] at h; cases h
    rw [toks, e]; dsimp only; rw [if_neg hk, dif_pos hl]
theorem readS_st (h : readS r = some (k, v, l)) (hl : l ≠ []) : readS (r ++ x) = some (k, v, l ++ x) := by
  rcases readS_cases r with e | ⟨_, e⟩ | ⟨a, s, k', v', l', e1, e2, e, hk', h3, _⟩
  · rw [e] at h; cases h
  · rw [e] at h; cases h; exact absurd rfl hl
  · rw [e] at h; cases h
    unfold readS
    have : 0 < l.length := List.length_pos_iff.mpr hl
    rw [skipR_st _ (Nat.le_refl _) e1 (by rw [List.length_cons]; lia)]
    exact tokS_st e2 hl
theorem toks_nil : toks [] = some [] := toks_end (v := .no) (l := []) (by unfold readS; rw [skipR_nil]; rfl)
theorem law_A : ∀ (n : Nat) {r : Bs} {ts us : List (Int × Vl)}, r.length ≤ n → toks r = some ts → toks (r ++ x) = some us → ts.dropLast <+: us := by
  intro n
  induction n with
  | zero =>
    intro r ts us hn h _
    obtain rfl : r = [] := List.length_eq_zero_iff.mp (by lia)
    rw [toks_nil] at h; cases h; exact List.nil_prefix
  | succ n ih =>
    intro r ts us hn h hu
    rcases readS_cases r with e | ⟨_, e⟩ | ⟨a, s, k, v, l, e1, e2, e, hk, h3, h4⟩
    · rw [toks_none e] at h; cases h
    · rw [toks_end e] at h; cases h; exact List.nil_prefix
    · rw [toks_tok e hk] at h
      obtain ⟨ts', h1, rfl⟩ := Option.map_eq_some_iff.mp h
      by_cases hl : l = []
      · subst hl
        rw [toks_nil] at h1; cases h1; exact List.nil_prefix
      · rw [toks_tok (readS_st e hl) hk] at hu
        obtain ⟨us', h2, rfl⟩ := Option.map_eq_some_iff.mp hu
        cases ts' with
        | nil => exact List.nil_prefix
        | cons t ts' =>
          rw [List.dropLast_cons_of_ne_nil (by simp)]
          exact List.prefix_cons_inj _ |>.mpr (ih (by lia) h1 h2)
theorem toks_few {us : List (Int × Vl)} (hf : Few c l) (h : toks l = some us) : us.length ≤ 1 := by
  rcases hf with rfl | rfl
  · rw [toks_nil] at h; cases h; simp
  · rcases readS_cases [c] with e | ⟨_, e⟩ | ⟨a, s, k, v, l, e1, e2, e, hk, h3, h4⟩
    · rw [toks_none e] at h; cases h
    · rw [toks_end e] at h; cases h; simp
    · rw [toks_tok e hk] at h
      obtain rfl : l = [] := List.length_eq_zero_iff.mp (by simp at h4; simpa using h4)
      rw [toks_nil] at h; cases h; simp
theorem law_B : ∀ (n : Nat) {r : Bs} {ts us : List (Int × Vl)}, r.length ≤ n → toks r = some ts → toks (r ++ [c]) = some us → us.length ≤ ts.length + 1 ∧ ts.length ≤ us.length + 1 := by
  intro n
  induction n with
  | zero =>
    intro r ts us hn h hu
    obtain rfl : r = [] := List.length_eq_zero_iff.mp (by lia)
    rw [toks_nil] at h; cases h
    have := toks_few (.inr rfl) hu
    exact ⟨by simpa using this, by simp⟩
  | succ n ih =>
    intro r ts us hn h hu
    rcases readS_cases r with e | ⟨e1, e⟩ | ⟨a, s, k, v, l, e1, e2, e, hk, h3, h4⟩
    · rw [toks_none e] at h; cases h
    · rw [toks_end e] at h; cases h
      refine ⟨?_, by simp⟩
      have key : ∀ m : Bs, Few c m → skipR (r ++ [c]) = some m → us.length ≤ 1 := by
        intro m hm hs
        rcases readS_cases (r ++ [c]) with e | ⟨_, e⟩ | ⟨a, s, k, v, l, e1, e2, e, hk, h3, h4⟩
        · rw [toks_none e] at hu; cases hu
        · rw [toks_end e] at hu; cases hu; simp
        · rw [toks_tok e hk] at hu
          rw [hs] at e1; cases e1
          obtain rfl : l = [] := by
            rcases hm with hm | hm
            · cases hm
            · cases hm; exact List.length_eq_zero_iff.mp (by simpa using h3)
          rw [toks_nil] at hu; cases hu; simp
      rcases skipR_ext (c := c) _ (Nat.le_refl _) e1 (by simp) with q | q | q
      · rw [toks_none (by unfold readS; rw [q]; rfl)] at hu; cases hu
      · exact Nat.le_trans (key _ (.inl rfl) q) (by simp)
      · exact Nat.le_trans (key _ (.inr rfl) q) (by simp)
    · rw [toks_tok e hk] at h
      obtain ⟨ts', h1, rfl⟩ := Option.map_eq_some_iff.mp h
      by_cases hl : l = []
      · subst hl
        rw [toks_nil] at h1; cases h1
        show us.length ≤ 2 ∧ 1 ≤ us.length + 1
        refine ⟨?_, by lia⟩
        have key : ∀ t : Tk, TkFew c t → readS (r ++ [c]) = t → us.length ≤ 2 := by
          intro t ht hs
          rcases readS_cases (r ++ [c]) with e | ⟨_, e⟩ | ⟨a, s, k, v, l, e1, e2, e, hk, h3, h4⟩
          · rw [toks_none e] at hu; cases hu
          · rw [toks_end e] at hu; cases hu; simp
          · rw [toks_tok e hk] at hu
            obtain ⟨us', h5, rfl⟩ := Option.map_eq_some_iff.mp hu
            have := toks_few (ht k v l (hs.symm.trans e)) h5
            simpa using this
        have hlen : ∀ q : skipR r = some (a :: s), True := fun _ => trivial
        by_cases hs2 : 2 ≤ (a :: s).length
        · refine key _ (tokS_ext (by simp) e2) ?_
          unfold readS
          rw [skipR_st _ (Nat.le_refl _) e1 hs2]; rfl
        · rcases skipR_ext (c := c) _ (Nat.le_refl _) e1 (by lia) with q | q | q
          · rw [toks_none (by unfold readS; rw [q]; rfl)] at hu; cases hu
          · rw [toks_end (v := .no) (l := []) (by unfold readS; rw [q]; rfl)] at hu; cases hu; simp
          · refine key _ (tokS_ext (by simp) e2) ?_
            unfold readS
            rw [q]; rfl
      · rw [toks_tok (readS_st e hl) hk] at hu
        obtain ⟨us', h2, rfl⟩ := Option.map_eq_some_iff.mp hu
        have := ih (by lia) h1 h2
        simp only [List.length_cons]
        lia
end
end
section
inductive It
  | nm (b : Bs)
  | tx (b : Bs)
  | nu (i : Int)
  | by (b : Bs)
noncomputable def plainI : Int × Vl → It
  | (k, .by b) => if k = 285 then .nm b else .tx b
  | (_, .nu i) => .nu i
  | (k, .no) => if k > 256 then .by (tokTx k) else .by [k.toNat.toUInt8]
noncomputable def heard (t : Bs) : Option (List It) := (toks t).map (·.map plainI)
noncomputable def pcs : List (Bs × Option (List It)) := [([120], some [.nm [120]]),
  ([97, 110, 100], some [.by [97, 110, 100]]),
  ([39, 113, 39], some [.tx [113]]),
  ([45], some [.by [45]]),
  ([91, 91, 113, 93, 93], some [.tx [113]]),
  ([95, 101, 49], some [.nm [95, 101, 49]]),
  ([91], some [.by [91]]),
  ([61, 61], some [.by [61, 61]]),
  ([46, 46], some [.by [46, 46]]),
  ([48, 120, 49, 70], some [.nu 31]),
  ([45, 45, 122, 10], some []),
  ([39], none),
  ([126, 61], some [.by [126, 61]]),
  ([45, 45, 91, 61], none),
  ([92], some [.by [92]]),
  ([34, 92, 49, 49, 51, 34], some [.tx [113]]),
  ([49, 50], some [.nu 12]),
  ([46], some [.by [46]]),
  ([1], some [.by [1]]),
  ([46, 46, 46], some [.by [46, 46, 46]])]
noncomputable def stL (t : Bs) : Nat → List It × Option Nat × Option (List It)
  | 0 => ([], none, none)
  | n + 1 => ((match heard (t.take n) with | some f => (if f.length > (stL t n).1.length + 1 then f.take (f.length - 1) else (stL t n).1) | none => (stL t n).1), (heard (t.take n)).map (·.length), heard (t.take n))
theorem stL_las (t : Bs) : ∀ n, (stL t n).1 = [] ∨ ∃ m ts, m < n ∧ toks (t.take m) = some ts ∧ (stL t n).1 = ts.dropLast.map plainI
  | 0 => .inl rfl
  | n + 1 => by
    have ih := stL_las t n
    have up : (stL t n).1 = [] ∨ ∃ m ts, m < n + 1 ∧ toks (t.take m) = some ts ∧ (stL t n).1 = ts.dropLast.map plainI := by
      rcases ih with h | ⟨m, ts, h1, h2, h3⟩
      · exact .inl h
      · exact .inr ⟨m, ts, by omega, h2, h3⟩
    simp only [stL]
    cases h : toks (t.take n) with
    | none => simp only [heard, h, Option.map_none]; exact up
    | some ts =>
      simp only [heard, h, Option.map_some]
      split
      · refine .inr ⟨n, ts, Nat.lt_succ_self _, h, ?_⟩
        rw [List.dropLast_eq_take, List.map_take, List.length_map]
      · exact up
theorem law_step {t : Bs} {n : Nat} {f : List It} (hn : n ≤ t.length) (h : heard (t.take n) = some f) :
    f.take (stL t n).1.length = (stL t n).1 ∧ ∀ l, (stL t n).2.1 = some l → f.length ≤ l + 1 ∧ l ≤ f.length + 1 := by
  unfold heard at h
  obtain ⟨us, hu, rfl⟩ := Option.map_eq_some_iff.mp h
  constructor
  · rcases stL_las t n with e | ⟨m, ts, h1, h2, h3⟩
    · rw [e]; rfl
    · rw [h3]
      have e : t.take n = t.take m ++ (t.take n).drop m := by
        rw [show t.take m = (t.take n).take m by rw [List.take_take, Nat.min_eq_left (Nat.le_of_lt h1)]]
        exact (List.take_append_drop m _).symm
      have := law_A _ (Nat.le_refl _) h2 (e ▸ hu)
      obtain ⟨z, rfl⟩ := this
      rw [List.map_append, List.take_left' rfl]
  · intro l hl
    cases n with
    | zero => cases hl
    | succ n =>
      simp only [stL, heard, Option.map_map] at hl
      obtain ⟨ts, h2, rfl⟩ := Option.map_eq_some_iff.mp hl
      have e : t.take (n + 1) = t.take n ++ [t[n]'(by omega)] := (List.take_append_getElem (by omega)).symm
      have := law_B _ (Nat.le_refl _) h2 (e ▸ hu)
      simp only [Function.comp, List.length_map]
      exact this
noncomputable def joinB (g : Bs) : List Bs → Bs
  | [] => []
  | [a] => a
  | a :: b :: l => a ++ g ++ joinB g (b :: l)
theorem skip_sp (x : Bs) : skipR (32 :: x) = skipR x := by rw [skipR_cons]; rw [if_neg (by decide), if_pos (by decide)]
theorem toks_skip {r s : Bs} (h : skipR r = skipR s) : toks r = toks s := by
  have e : readS r = readS s := by unfold readS; rw [h]
  rcases readS_cases s with q | ⟨_, q⟩ | ⟨a, m, k, v, l, e1, e2, q, hk, h3, h4⟩
  · rw [toks_none q, toks_none (e.trans q)]
  · rw [toks_end q, toks_end (e.trans q)]
  · rw [toks_tok q hk, toks_tok (e.trans q) hk]
theorem pc_tok {p : Bs} {k : Int} {v : Vl} (h : readS p = some (k, v, [])) (h2 : readS (p ++ [32]) = some (k, v, [32])) (hk : k ≠ 287) :
    toks p = some [(k, v)] ∧ ∀ x, toks (p ++ 32 :: x) = (toks x).map ((k, v) :: ·) := by
  refine ⟨by rw [toks_tok h hk, toks_nil]; rfl, fun x => ?_⟩
  have e : p ++ 32 :: x = (p ++ [32]) ++ x := by simp
  rw [e, toks_tok (readS_st h2 (by simp)) hk]
  rw [show [32] ++ x = 32 :: x from rfl, toks_skip (skip_sp x)]
theorem pc_cmt : toks [45, 45, 122, 10] = some [] ∧ ∀ x, toks ([45, 45, 122, 10] ++ 32 :: x) = toks x := by
  have e : ∀ y, skipR ([45, 45, 122, 10] ++ y) = skipR (nlRest 10 y) := fun y => by
    show skipR (45 :: 45 :: 122 :: 10 :: y) = _
    rw [skipR_cons, if_neg (by decide), if_neg (by decide), if_pos ⟨rfl, rfl⟩]
    show (cmtR (122 :: 10 :: y)).bind skipR = _
    rw [cmtR_other (by intro r1 e; injection e with e1 _; exact absurd e1 (by decide))]
    show skipR (lineR (122 :: 10 :: y)) = _
    rw [show lineR (122 :: 10 :: y) = 10 :: y from rfl, skipR_cons, if_pos (by decide)]
  constructor
  · exact (toks_skip (s := []) (e [])).trans toks_nil
  · intro x
    exact toks_skip ((e (32 :: x)).trans (skip_sp x))
def PcOk (q : Bs × Option (List It)) : Prop := ∀ its, q.2 = some its → ∃ ts, ts.map plainI = its ∧ toks q.1 = some ts ∧ ∀ x, toks (q.1 ++ 32 :: x) = (toks x).map (ts ++ ·)
theorem pcOk_none {p : Bs} : PcOk (p, none) := fun _ h => nomatch h
theorem pcOk_tok {p : Bs} {k : Int} {v : Vl} {i : It} (h : readS p = some (k, v, [])) (h2 : readS (p ++ [32]) = some (k, v, [32])) (hk : k ≠ 287) (hi : plainI (k, v) = i) : PcOk (p, some [i]) := fun _ e => by
  cases e
  obtain ⟨h3, h4⟩ := pc_tok h h2 hk
  exact ⟨[(k, v)], by rw [← hi]; rfl, h3, h4⟩
theorem pcOk_cmt : PcOk ([45, 45, 122, 10], some []) := fun _ e => by
  cases e
  exact ⟨[], rfl, pc_cmt.1, fun x => (pc_cmt.2 x).trans (by cases toks x <;> rfl)⟩
theorem pcs_ok : ∀ q ∈ pcs, PcOk q := by
  unfold pcs
  simp only [List.forall_mem_cons]
  refine ⟨?_, ?_, ?_, ?_, ?_, ?_, ?_, ?_, ?_, ?_, pcOk_cmt, pcOk_none, ?_, pcOk_none, ?_, ?_, ?_, ?_, ?_, ?_, fun _ h => nomatch h⟩
  · exact pcOk_tok (k := 285) (v := .by [120]) (by kernel_rfl) (by kernel_rfl) (by decide) rfl
  · exact pcOk_tok (k := 257) (v := .no) (by kernel_rfl) (by kernel_rfl) (by decide) rfl
  · exact pcOk_tok (k := 286) (v := .by [113]) (by kernel_rfl) (by kernel_rfl) (by decide) rfl
  · exact pcOk_tok (k := 45) (v := .no) (by kernel_rfl) (by kernel_rfl) (by decide) rfl
  · exact pcOk_tok (k := 286) (v := .by [113]) (by kernel_rfl) (by kernel_rfl) (by decide) rfl
  · exact pcOk_tok (k := 285) (v := .by [95, 101, 49]) (by kernel_rfl) (by kernel_rfl) (by decide) rfl
  · exact pcOk_tok (k := 91) (v := .no) (by kernel_rfl) (by kernel_rfl) (by decide) rfl
  · exact pcOk_tok (k := 280) (v := .no) (by kernel_rfl) (by kernel_rfl) (by decide) rfl
  · exact pcOk_tok (k := 278) (v := .no) (by kernel_rfl) (by kernel_rfl) (by decide) rfl
  · exact pcOk_tok (k := 284) (v := .nu 31) (by kernel_rfl) (by kernel_rfl) (by decide) rfl
  · exact pcOk_tok (k := 283) (v := .no) (by kernel_rfl) (by kernel_rfl) (by decide) rfl
  · exact pcOk_tok (k := 92) (v := .no) (by kernel_rfl) (by kernel_rfl) (by decide) rfl
  · exact pcOk_tok (k := 286) (v := .by [113]) (by kernel_rfl) (by kernel_rfl) (by decide) rfl
  · exact pcOk_tok (k := 284) (v := .nu 12) (by kernel_rfl) (by kernel_rfl) (by decide) rfl
  · exact pcOk_tok (k := 46) (v := .no) (by kernel_rfl) (by kernel_rfl) (by decide) rfl
  · exact pcOk_tok (k := 1) (v := .no) (by kernel_rfl) (by kernel_rfl) (by decide) rfl
  · exact pcOk_tok (k := 279) (v := .no) (by kernel_rfl) (by kernel_rfl) (by decide) rfl
theorem joinB_toks : ∀ (l : List (Bs × List (Int × Vl))), (∀ q ∈ l, toks q.1 = some q.2 ∧ ∀ x, toks (q.1 ++ 32 :: x) = (toks x).map (q.2 ++ ·)) → toks (joinB [32] (l.map (·.1))) = some (l.map (·.2)).flatten
  | [], _ => toks_nil
  | [a], h => by
    show toks a.1 = some (a.2 ++ [])
    rw [List.append_nil]; exact (h a (.head _)).1
  | a :: b :: l, h => by
    have ih := joinB_toks (b :: l) fun q hq => h q (.tail _ hq)
    show toks (a.1 ++ [32] ++ joinB [32] ((b :: l).map (·.1))) = _
    rw [List.append_assoc]
    show toks (a.1 ++ 32 :: joinB [32] ((b :: l).map (·.1))) = _
    rw [(h a (.head _)).2, ih]; rfl
theorem law_C {ps : List (Bs × Option (List It))} (hp : ∀ q ∈ ps, q ∈ pcs) (hc : ∀ q ∈ ps, q.2 ≠ none) :
    heard (joinB [32] (ps.map (·.1))) = some (ps.map fun q => q.2.getD []).flatten := by
  have key : ∀ ps : List (Bs × Option (List It)), (∀ q ∈ ps, q ∈ pcs) → (∀ q ∈ ps, q.2 ≠ none) → ∃ l : List (Bs × List (Int × Vl)), l.map (·.1) = ps.map (·.1) ∧
      (l.map fun q => q.2.map plainI) = (ps.map fun q => q.2.getD []) ∧ ∀ q ∈ l, toks q.1 = some q.2 ∧ ∀ x, toks (q.1 ++ 32 :: x) = (toks x).map (q.2 ++ ·) := by
    intro ps
    induction ps with
    | nil => intro _ _; exact ⟨[], rfl, rfl, fun _ h => nomatch h⟩
    | cons p ps ih =>
      intro hp hc
      obtain ⟨l, h1, h2, h3⟩ := ih (fun q hq => hp q (.tail _ hq)) fun q hq => hc q (.tail _ hq)
      cases e : p.2 with
      | none => exact absurd e (hc p (.head _))
      | some its =>
        obtain ⟨ts, t1, t2, t3⟩ := pcs_ok p (hp p (.head _)) its e
        refine ⟨(p.1, ts) :: l, by simp [h1], by simp [h2, t1, e], fun q hq => ?_⟩
        rcases List.mem_cons.mp hq with rfl | hq
        · exact ⟨t2, t3⟩
        · exact h3 q hq
  obtain ⟨l, h1, h2, h3⟩ := key ps hp hc
  unfold heard
  rw [← h1, joinB_toks l h3, ← h2]
  simp [List.map_flatten, Function.comp_def]
end
section
set_option maxHeartbeats 2000000
theorem toks_unf {r r' : Bs} {k : Int} {v : Vl} (h : readS r = some (k, v, r')) : toks r = (if k = 287 then some [] else (toks r').map ((k, v) :: ·)) ∧ r'.length + (if k = 287 then 0 else 1) ≤ r.length := by
  rcases readS_cases r with e | ⟨_, e⟩ | ⟨a, s, k', v', l', _, _, e, hk', _, hl⟩
  · rw [e] at h; cases h
  · rw [e] at h; cases h; exact ⟨by rw [toks_end e, if_pos rfl], by simp⟩
  · rw [e] at h; cases h
    rw [toks_tok e hk', if_neg hk', if_neg hk']
    exact ⟨rfl, hl⟩
theorem fn_Lexer {w : World} : Fn w (Str.ofString "Lexer") 465 := ⟨by k_is, by k_is⟩
section
variable {P : Pt} {cn x z name : Str} {cs : Scope} {f a : Addr} {cd : Value} {cl : List (Str × Addr)} {m : Mp} {l l0 : Ld} {k j : Nat} {e e1 e2 e3 : Expr} {p1 p2 p3 p4 pos : Pos} {E : Value → Shared → Prop} {Q : Flow → Shared → Prop} {rest : List Stmt} {R1 R2 R3 : Value → Prop} {kk : Value → Ld → Prop} {xa q : Addr} {i : Int} {vl : Vl} {lt : Ld} {vs : List Value} {cp : Nat} {env : Env}
theorem em_call3 (Fx : Fn P.w x a) (O : Ok P (envX cn cs P.L f cd cl) k) (h1 : Ev P (envX cn cs P.L f cd cl) m l e1 R1) (h2 : Ev P (envX cn cs P.L f cd cl) m l e2 R2) (h3 : Ev P (envX cn cs P.L f cd cl) m l e3 R3) (hc : ∀ v u t, R1 v → R2 u → R3 t → CallW P l (.ref a) [v, u, t] kk E) (hx : isG cs x = true := by rfl) (hz : okEs [e1, e2, e3] = true := by rfl) :
    Em P (envX cn cs P.L f cd cl) m l (.Call (.Name x p1) [e1, e2, e3] [] pos) kk E := em_calls Fx O (evs3 h1 h2 h3 hz) (fun vs ⟨v, u, t, e, hv, hu, ht⟩ => e ▸ hc v u t hv hu ht) hx hz
theorem em_pairM (hb : P.b = true) (h1 : Em P env m l e1 (fun v l1 => ∀ q D, kk (.ref D) ((D, tupO [v, .ref q]) :: (q, listOf #[] 0) :: l1)) E) (hz : okEs [e1, .List [] p1] = true := by rfl) : Em P env m l (.Tuple [e1, .List [] p1] j pos) kk E := fun hp tk H Q hQ => by
  have h1' := h1 hp tk H (fun v s1 => ∃ l1 h' tk', s1 = P.S h' tk' ∧ (∀ q D, kk (.ref D) ((D, tupO [v, .ref q]) :: (q, listOf #[] 0) :: l1)) ∧ Led P m l1 h') fun v l1 h' tk' hv H' => ⟨l1, h', tk', rfl, hv, H'⟩
  rw [hb] at h1' ⊢
  rw [arm_eval_Tuple]
  refine wpB.of_n (wpN_bind (wpN_standAt (wpN_bind (nArgsCons (wpN_mono h1'.to_n ?_ fun _ _ x => x) (star1 hz)))))
  rintro v s1 ⟨l1, h', tk', rfl, hk, H'⟩
  exact wpN_of_wpAny (args_cons (List_ (args_nil (newList_K (s := P.S h' tk') H'.F H'.N (fun q' h2 F2 N2 _ => args_nil (wpN_of_wpAny (kup_newTuple (s := P.S h2 tk') F2 N2 (fun D h3 F3 N3 _ => hQ _ _ h3 tk' (hk q' D) ⟨F3, N3⟩) (by rw [sizeLine_eq]; exact Nat.le_of_ble_eq_true rfl)))) (by rw [sizeLine_eq]; decide)))))
theorem W.asg2sM (hb : P.b = true) (O : Ok P (envX cn cs P.L f cd cl) k) (h : Em P (envX cn cs P.L f cd cl) m l e (fun v l' => ∃ D v1 v2, v = .ref D ∧ (D, tupO [v1, v2]) ∈ l' ∧ W P (envX cn cs P.L f cd cl) (upd (upd m z v2) x v1) l' rest Q E) E)
    (hx : isL cs x = true := by rfl) (hz : isL cs z = true := by rfl) (hs : swapsWithSole [.Tuple [.Name x p1, .Name z p2] j p3] e pos.line (envX cn cs P.L f cd cl) = pure false := by rfl)
    (hw : swappedStores [.Tuple [.Name x p1, .Name z p2] j p3] e (envX cn cs P.L f cd cl) = pure (some [x, z]) := by rfl) : W P (envX cn cs P.L f cd cl) m l (.Assign [.Tuple [.Name x p1, .Name z p2] j p3] e pos :: rest) Q E := W.cons fun hp tk H => by
  have h' := h hp tk H (fun v s1 => ∃ l1 h' tk', s1 = P.S h' tk' ∧ (∃ D v1 v2, v = .ref D ∧ (D, tupO [v1, v2]) ∈ l1 ∧ W P (envX cn cs P.L f cd cl) (upd (upd m z v2) x v1) l1 rest Q E) ∧ Led P m l1 h') fun v l1 h' tk' hv H' => ⟨l1, h', tk', rfl, hv, H'⟩
  rw [hb] at h' ⊢
  refine wpB.of_n ?_
  rw [exec_Assign]
  refine wpN_bind (wpN_standAt ?_)
  rw [hs]
  refine wpN_bind (wpN_pure ?_)
  rw [if_neg (by decide)]
  refine wpN_bind (wpN_mono h'.to_n ?_ fun _ _ x => x)
  rintro v s1 ⟨l1, h1, t1, rfl, ⟨D, v1, v2, rfl, hD, w⟩, H1⟩
  rw [hw]
  refine wpN_bind (wpN_pure ?_)
  show wpN P.M P.A (do rule "assign.swapped-stores"; let items ← unpackItems (.ref D) 2 none; assignInOrder ([x, z].reverse.map fun n => bindName (envX cn cs P.L f cd cl) n) items.reverse; pure Flow.next) _ E _
  refine wpN_of_wpAny (wpAny_bind (wpAny_rule (wpAny_bind (unpackItemsN_ (s := P.S h1 t1) H1.F H1.N (News.isTup H1.N hD) O.C.handled rfl fun h2 F2 N2 => wpAny_bind ?_))))
  refine assignInOrder_cons (bindName_ (store_upd (tk := t1) ⟨F2, N2⟩ hz fun h3 t3 H3 => ?_))
  refine assignInOrder_cons (bindName_ (store_upd H3 hx fun h4 t4 H4 => ?_))
  refine assignInOrder_nil (wpAny_pure ?_)
  have := w h4 t4 H4
  rw [hb] at this
  exact this
theorem ev_tok (O : Ok P (envX cn cs P.L f cd cl) k) (hm : m z = some (.ref xa)) {dx : Addr} {es : List DictEntry} {n : Nat} {v : Value} (h1 : (xa, instObj 262 dx) ∈ l) (h2 : (dx, dictOf es n) ∈ l) (hg : plainGet (Mine.H.hd.heap_1_1 P.w.params) 262 name = true) (ha : findIn (Mine.H.hd.heap_1_1 P.w.params) (.ref 262) name = some none)
    (hl : getL name es = some (some v)) (hv : handedIn v = true) (hz : isL cs z = true := by rfl) : Ev P (envX cn cs P.L f cd cl) m l (.Attribute (.Name z p1) name p2) (V v) := fun hp tk H Q E hQ => by
  refine Attribute_Name_ (Ev.loc hm hz hp tk H _ _ fun v' h' tk' hv' H' => ?_) evalAttr
  subst hv'
  exact get_own (s := P.S h' tk') (K := (Mine.H.hd.heap_1_1 P.w.params)) (C := 262) H'.F O.X (InstAt.of_news H'.N h1 h2) hg (by k_is) ha rfl hl hv (hQ _ _ _ rfl H')
theorem ev_tokKind (O : Ok P (envX cn cs P.L f cd cl) k) (hm : m z = some (.ref xa)) (hT : TokAt xa i vl lt) (hs : ∀ q ∈ lt, q ∈ l) (hz : isL cs z = true := by rfl) : Ev P (envX cn cs P.L f cd cl) m l (.Attribute (.Name z p1) (Str.ofString "kind") p2) (I i) := by
  obtain ⟨d, a, b, ka, kb, t, u, rfl, hu⟩ := hT
  exact (ev_tok O hm (hs _ (.head _)) (hs _ (.tail _ (.head _))) (by k_is) (by k_is) rfl rfl hz).i
theorem ev_tokVal (O : Ok P (envX cn cs P.L f cd cl) k) (hm : m z = some (.ref xa)) (hT : TokAt xa i vl lt) (hs : ∀ q ∈ lt, q ∈ l) (hz : isL cs z = true := by rfl) : Ev P (envX cn cs P.L f cd cl) m l (.Attribute (.Name z p1) (Str.ofString "value") p2) vl.is := by
  obtain ⟨d, a, b, ka, kb, t, u, rfl, hu⟩ := hT
  exact Ev.mono (ev_tok O hm (hs _ (.head _)) (hs _ (.tail _ (.head _))) (by k_is) (by k_is) rfl (vl_handed hu) hz) fun v q => q ▸ hu
theorem W.appendT (hm : m x = some (.ref q)) (h1 : Ev P (envX cn cs P.L f cd cl) m ((q, listOf vs.toArray cp) :: l0) e1 R1) (h2 : Ev P (envX cn cs P.L f cd cl) m ((q, listOf vs.toArray cp) :: l0) e2 R2) (hf : ∀ p ∈ l0, p.1 ≠ q) (hsz : vs.length ≤ 100000)
    (h : ∀ v u D, R1 v → R2 u → W P (envX cn cs P.L f cd cl) m ((q, listOf (vs ++ [Value.ref D]).toArray (cp + 1)) :: (D, tupO [v, u]) :: l0) rest Q E) (hx : isL cs x = true := by rfl) (hz : okEs [e1, e2] = true := by rfl) (hz1 : okEs [.Tuple [e1, e2] j p4] = true := by rfl)
    (hl : (p2.endLine == p3.line) = true := by rfl) (hi : interactive (envX cn cs P.L f cd cl) = false := by rfl) (hw : swapsWith (.Call (.Attribute (.Name x p1) (Str.ofString "append") p2) [.Tuple [e1, e2] j p4] [] p3) none pos.line (envX cn cs P.L f cd cl) = pure false := by rfl) :
    W P (envX cn cs P.L f cd cl) m ((q, listOf vs.toArray cp) :: l0) (.Expr (.Call (.Attribute (.Name x p1) (Str.ofString "append") p2) [.Tuple [e1, e2] j p4] [] p3) pos :: rest) Q E := by
  refine W.expr (fun hp tk H Q hQ => ?_) hi hw
  refine bCallMeth (Ev.loc hm hx hp tk H _ _ fun v' h' tk' hv' H' => ?_) hl (meth_form hz1) evalMeth baseName
  subst hv'
  refine kl_method (s := P.S h' tk') H'.N (.head _) F.slot_list_append F.type_list_append ?_
  refine bCallWithP (first := [.ref q]) (backTo_any hz1) rfl (args_cons (ew_tuple (evs2 h1 h2 hz) (fun vs ⟨v, u, e, _, _⟩ => by rw [e]; exact Nat.le_of_ble_eq_true rfl) (kk := fun v l' => ∃ v1 v2 D, v = .ref D ∧ R1 v1 ∧ R2 v2 ∧ q ≠ D ∧ l' = (D, tupO [v1, v2]) :: (q, listOf vs.toArray cp) :: l0) (fun us D ⟨v, u, e, hv, hu⟩ hlt => ⟨v, u, D, rfl, hv, hu, Nat.ne_of_lt (hlt _ (.head _)), by rw [e]⟩) h' tk' H' _ _ fun v l1 h2 t2 ⟨v1, v2, D, e, hv, hu, hne, e2⟩ H2 => args_nil (wpB.of_any ?_)) (star1 hz1))
  subst e e2
  refine append_K (s := P.S h2 t2) H2.F H2.N (.tail (Ne.symm hne) (.head hf)) (fun h3 F3 N3 => hQ .none ((D, tupO [v1, v2]) :: (q, listOf (vs ++ [Value.ref D]).toArray (cp + 1)) :: l0) h3 t2 (W.perm _ (fun p hp => by
    rcases List.mem_cons.mp hp with rfl | hp
    · exact .tail _ (.head _)
    rcases List.mem_cons.mp hp with rfl | hp
    · exact .head _
    · exact .tail _ (.tail _ hp)) (h v1 v2 D hv hu)) ⟨F3, ?_⟩) (by rw [sizeLine_eq, List.size_toArray]; omega)
  rw [List.push_toArray] at N3
  exact N3
end
end
section
set_option maxHeartbeats 2000000
structure AllI where
  y : LD
  x : Addr
  tl : Ld
  kd : Int
  v : Vl
  r : Bs
  buf : Bs
  vs : List Value
  ts : List (Int × Vl)
  pl : Ld
  cp : Nat
theorem rest_led {P : Pt} {m : Mp} {c : LC} {y : LD} {rest : Ld} {hp : Heap} (H : Led P m (Lx c y ++ rest) hp) (h : ∀ q ∈ rest, q.2.cls ≠ .type "dict" ∧ q.2.cls ≠ .type "bytearray" ∧ q.2.cls ≠ .ref 465 ∨ q.1 ≠ c.d ∧ q.2.cls ≠ .type "bytearray" ∧ q.2.cls ≠ .ref 465) : RestOK c rest := fun q hq => by
  rcases h q hq with h | h
  · exact ⟨led_ne H.N (List.mem_append_right _ hq) (q := (c.d, lexD c y)) (.tail _ (.head _)) h.1, h.2⟩
  · exact h
section
variable {P : Pt} {env : Env} {k : Nat} {E : Value → Shared → Prop} {l : Ld} {kk : Value → Ld → Prop} {tx : Bs} {lim ld : Addr} {lw lt : Tok}
theorem all_w (hb : P.b = true) (O : Ok P env (k + 13)) (hlim : LimIn l lim ld lw lt) (hz : tx.length ≤ 90) (h : ∀ a vs ts pl, toks tx = some ts → PairsAt pl vs ts → kk (.ref a) ((a, listOf vs.toArray vs.length) :: (pl ++ l))) (hE : toks tx = none → EscF P env E) :
    ∀ u v w, Y tx u → Y [61, 108, 97, 119] v → V (.ref lim) w → CallW P l (.ref 476) [u, v, w] kk E := by
  rintro _ _ _ ⟨t, rfl⟩ ⟨u, rfl⟩ rfl
  refine' call_def [] [(Str.ofString "text", .bytes tx.toArray t), (Str.ofString "chunk", .bytes #[61, 108, 97, 119] u), (Str.ofString "limits", .ref lim)] O (fun _ _ _ _ _ h => nomatch h) ?k1 ?k2 ?k3 ?k4 ?_
  walk_at "sides"
  intro P' J O' Qf Ef fin esc
  have hb' := J.b.trans hb
  refine W.asg2sM hb' O' (em_pairM hb' (em_call3 (R1 := Y tx) (R2 := Y [61, 108, 97, 119]) fn_Lexer O' (Ev.mono (Ev.loc rfl) fun v q => ⟨t, q⟩) (Ev.mono (Ev.loc rfl) fun v q => ⟨u, q⟩) (Ev.loc rfl) ?call))
  rintro w1 w2 _ h1 h2 rfl
  refine lexNew_w (l := []) (lim := lim) (ld := ld) (lw := lw) (lt := lt) hb' O' hz (fun _ h => nomatch h) (fun c y o el em en eo ep hcv ho h0 I0 hR q D => ⟨D, _, _, rfl, .head _, ?_⟩) _ _ h1 h2
  refine W.perm (Lx c y ++ [(q, listOf #[] 0), (c.kd, o)]) (fun p hp => ?mem) ?_
  case mem =>
    rcases List.mem_append.mp hp with hp | hp
    · exact .tail _ (.tail _ (List.mem_append_left _ hp))
    rcases List.mem_cons.mp hp with rfl | hp
    · exact .tail _ (.head _)
    · exact .tail _ (.tail _ (List.mem_append_right _ hp))
  have hod : o.cls = .type "dict" := by obtain ⟨ts, _, hd⟩ := ho; exact dict_cls hd
  have hkd := hR (c.kd, o) (.head _)
  have SS : ∀ P'' (rest : Ld), Into P' P'' rest → (c.kd, o) ∈ rest → Stat P''.prog P''.w c P''.g := fun P'' rest J2 hm => J2.prog ▸ J2.w ▸ stat_of hlim J.rs em en eo ep hcv ho h0 hm P''.g J2.st J2.rs
  refine W.led fun hp1 H1 => ?_
  have hR1 : RestOK c [(q, listOf #[] 0), (c.kd, o)] := rest_led H1 fun p hp => by
    rcases List.mem_cons.mp hp with rfl | hp
    · exact .inl ⟨by simp, by simp, by simp⟩
    · rw [List.mem_singleton.mp hp]; exact .inr hkd
  clear H1 hp1
  refine W.asgM (em_meth0 mt_next O' rfl (next_w hb' O' hR1 (fun P'' J2 => SS P'' _ J2 (.tail _ (.head _))) I0 (by (first | lia | omega)) (fun y1 x1 l1 buf1 k1 v1 r1 e1 I1 hT => ?_) fun e => (esc (hE (toks_none e))).1.f))
  obtain ⟨e1, e2⟩ := toks_unf e1
  refine W.whl (ι := AllI) (fun i => An7 (Inv c i.y i.r i.buf) (TokAt i.x i.kd i.v i.tl) (PairsAt i.pl i.vs i.ts) (∀ q ∈ i.pl, q.2.cls = .type "tuple") (toks tx = (if i.kd = 287 then some i.ts else (toks i.r).map (fun us => i.ts ++ (i.kd, i.v) :: us))) (i.vs.length + i.r.length + (if i.kd = 287 then 0 else 1) ≤ 90) (i.cp = i.vs.length)) (fun i => i.r.length + (if i.kd = 287 then 0 else 1))
    (fun i => upd (upd (upd (fun y => List.lookup y [(Str.ofString "text", Value.bytes tx.toArray t), (Str.ofString "chunk", .bytes #[61, 108, 97, 119] u), (Str.ofString "limits", .ref lim)].reverse) (Str.ofString "found") (.ref q)) (Str.ofString "lexer") (.ref c.x)) (Str.ofString "token") (.ref i.x))
    (fun i => Lx c i.y ++ (i.tl ++ ((q, listOf i.vs.toArray i.cp) :: (c.kd, o) :: i.pl))) O' ?_ ⟨y1, x1, l1, k1, v1, r1, buf1, [], [], [], 0⟩ ⟨I1, hT, .nil, (fun _ h => nomatch h), e1, by dsimp only; rw [List.length_nil]; (first | lia | omega), rfl⟩
  clear e1 e2 I1 hT
  rintro ⟨y1, x1, l1, k1, v1, r1, buf1, vs, ts, pl, cp⟩ ⟨I1, hT, hP, hc, e1, hle, hcp⟩ Qb Eb lp nx
  dsimp only at I1 hT hP hc e1 hle nx hcp ⊢
  subst hcp
  refine EtM.of (p := ¬ k1 = 287) (et_ne (ev_tokKind O' rfl hT fun q hq => List.mem_append_right _ (List.mem_append_left _ hq)) (Ev.gi O' gi_TK_EOS)) (fun hk => ?_) fun hk => ?_
  · rw [if_neg hk] at e1 hle
    refine W.perm ((q, listOf vs.toArray vs.length) :: (Lx c y1 ++ (l1 ++ ((c.kd, o) :: pl)))) (fun p hp => ?mem2) ?_
    case mem2 =>
      rcases List.mem_cons.mp hp with rfl | hp
      · exact List.mem_append_right _ (List.mem_append_right _ (.head _))
      rcases List.mem_append.mp hp with hp | hp
      · exact List.mem_append_left _ hp
      rcases List.mem_append.mp hp with hp | hp
      · exact List.mem_append_right _ (List.mem_append_left _ hp)
      · exact List.mem_append_right _ (List.mem_append_right _ (.tail _ hp))
    refine W.led fun hp1 H1 => ?_
    have hcl : ∀ p ∈ Lx c y1 ++ (l1 ++ ((c.kd, o) :: pl)), p.2.cls ≠ .type "list" := fun p hp => by
      rcases List.mem_append.mp hp with hp | hp
      · rcases List.mem_cons.mp hp with rfl | hp
        · simp [instObj]
        rcases List.mem_cons.mp hp with rfl | hp
        · simp [lexD]
        · rw [List.mem_singleton.mp hp]; simp [baObj]
      rcases List.mem_append.mp hp with hp | hp
      · obtain ⟨d, a, b, ka, kb, t, u, rfl, hu⟩ := hT
        rcases List.mem_cons.mp hp with rfl | hp
        · simp [instObj]
        · rw [List.mem_singleton.mp hp]; simp
      rcases List.mem_cons.mp hp with rfl | hp
      · rw [hod]; decide
      · rw [hc p hp]; decide
    have hne : ∀ p ∈ Lx c y1 ++ (l1 ++ ((c.kd, o) :: pl)), p.1 ≠ q := fun p hp => led_ne H1.N (.tail _ hp) (q := (q, listOf vs.toArray vs.length)) (.head _) (hcl p hp)
    clear H1 hp1 hcl
    have hsub : ∀ q1 ∈ l1, q1 ∈ (q, listOf vs.toArray vs.length) :: (Lx c y1 ++ (l1 ++ ((c.kd, o) :: pl))) := fun q hq => .tail _ (List.mem_append_right _ (List.mem_append_left _ hq))
    refine W.appendT rfl (ev_tokKind O' rfl hT hsub) (ev_tokVal O' rfl hT hsub) hne (by (first | lia | omega)) fun w1 w2 D hw1 hw2 => ?_
    obtain ⟨tk, rfl⟩ := hw1
    refine W.perm (Lx c y1 ++ ((q, listOf (vs ++ [Value.ref D]).toArray (vs.length + 1)) :: (c.kd, o) :: (D, tupO [.int k1 tk, w2]) :: pl)) (fun p hp => ?mem3) ?_
    case mem3 =>
      rcases List.mem_append.mp hp with hp | hp
      · exact .tail _ (.tail _ (List.mem_append_left _ hp))
      rcases List.mem_cons.mp hp with rfl | hp
      · exact .head _
      rcases List.mem_cons.mp hp with rfl | hp
      · exact .tail _ (.tail _ (List.mem_append_right _ (List.mem_append_right _ (.head _))))
      rcases List.mem_cons.mp hp with rfl | hp
      · exact .tail _ (.head _)
      · exact .tail _ (.tail _ (List.mem_append_right _ (List.mem_append_right _ (.tail _ hp))))
    refine W.led fun hp1 H1 => ?_
    have hR2 := rest_led H1 fun p hp => by
      rcases List.mem_cons.mp hp with rfl | hp
      · exact .inl ⟨by simp, by simp, by simp⟩
      rcases List.mem_cons.mp hp with rfl | hp
      · exact .inr hkd
      rcases List.mem_cons.mp hp with rfl | hp
      · exact .inl ⟨by simp, by simp, by simp⟩
      · rw [hc p hp]; exact .inl ⟨by simp, by simp, by simp⟩
    clear H1 hp1
    refine W.asgM (em_meth0 mt_next O' rfl (next_w hb' O' hR2 (fun P'' J2 => SS P'' _ J2 (.tail _ (.head _))) I1 (by (first | lia | omega)) (fun y2 x2 l2 buf2 k2 v2 r2 e2 I2 hT2 => ?_) fun e => (lp.es (esc (hE (by rw [e1, toks_none e]; rfl))).1).f))
    obtain ⟨e3, e4⟩ := toks_unf e2
    refine W.map upd_upd (nx ⟨y2, x2, l2, k2, v2, r2, buf2, vs ++ [Value.ref D], ts ++ [(k1, v1)], (D, tupO [.int k1 tk, w2]) :: pl, vs.length + 1⟩ ⟨I2, hT2, ?g1, ?g2, ?g3, ?g4, ?g5⟩ ?g6)
    case g1 => exact (hP.mono fun q hq => .tail _ hq).snoc (kv := (k1, v1)) ⟨D, tk, w2, _, rfl, .head _, hw2⟩
    case g2 => exact List.forall_mem_cons.mpr ⟨rfl, hc⟩
    case g3 =>
      dsimp only
      rw [e1, e3]
      split
      · rfl
      · rw [Option.map_map]; congr 1; funext z; simp [Function.comp]
    case g4 => dsimp only; rw [List.length_append, List.length_singleton]; (first | lia | omega)
    case g5 => dsimp only; rw [List.length_append, List.length_singleton]
    case g6 => dsimp only; rw [if_neg hk]; (first | lia | omega)
  · obtain rfl := Decidable.not_not.mp hk
    rw [if_pos rfl] at e1
    refine W.perm ((q, listOf vs.toArray vs.length) :: pl) (fun p hp => ?mem4) (W.retV fin.r (Ev.loc rfl) (h q vs ts pl e1 hP))
    case mem4 =>
      rcases List.mem_cons.mp hp with rfl | hp
      · exact List.mem_append_right _ (List.mem_append_right _ (.head _))
      · exact List.mem_append_right _ (List.mem_append_right _ (.tail _ (.tail _ hp)))
end
end
section
set_option maxHeartbeats 2000000
noncomputable def ItIn (l : List (Addr × Obj)) (v : Value) : It → Prop
  | .nm b => ∃ p t u n, v = .ref p ∧ (p, ({ cls := .type "tuple", data := .seq #[.str (Str.ofString "name") t, .bytes b.toArray u] n } : Obj)) ∈ l
  | .tx b => ∃ p t u n, v = .ref p ∧ (p, ({ cls := .type "tuple", data := .seq #[.str (Str.ofString "text") t, .bytes b.toArray u] n } : Obj)) ∈ l
  | .nu i => ∃ t, v = .int i t
  | .by b => ∃ t, v = .bytes b.toArray t
inductive Items {α : Type} (PI : Value → α → Prop) : List Value → List α → Prop
  | nil : Items PI [] []
  | cons {v i vs is} : PI v i → Items PI vs is → Items PI (v :: vs) (i :: is)
noncomputable abbrev ItsIn (l : List (Addr × Obj)) : List Value → List It → Prop := Items (ItIn l)
def PcIn (l : List (Addr × Obj)) (v : Value) (q : Bs × Option (List It)) : Prop :=
  ∃ p t u n, v = .ref p ∧ (p, ({ cls := .type "tuple", data := .seq #[.bytes q.1.toArray t, u] n } : Obj)) ∈ l ∧ (match q.2 with
    | none => u = .none
    | some is => ∃ a vs k, u = .ref a ∧ (a, listOf vs.toArray k) ∈ l ∧ ItsIn l vs is)
noncomputable abbrev PcsIn (l : List (Addr × Obj)) : List Value → List (Bs × Option (List It)) → Prop := Items (PcIn l)
section
variable {α : Type} {PI PI' : Value → α → Prop}
theorem Items.imp (hs : ∀ v q, PI v q → PI' v q) : ∀ {vs : List Value} {qs : List α}, Items PI vs qs → Items PI' vs qs
  | _, _, .nil => .nil
  | _, _, .cons h r => .cons (hs _ _ h) (r.imp hs)
theorem Items.len : ∀ {vs : List Value} {qs : List α}, Items PI vs qs → vs.length = qs.length
  | _, _, .nil => rfl
  | _, _, .cons _ r => by rw [List.length_cons, List.length_cons, r.len]
theorem Items.snoc {v : Value} {q : α} (hv : PI v q) : ∀ {vs : List Value} {qs : List α}, Items PI vs qs → Items PI (vs ++ [v]) (qs ++ [q])
  | _, _, .nil => .cons hv .nil
  | _, _, .cons h r => .cons h (r.snoc hv)
theorem Items.get : ∀ {vs : List Value} {qs : List α} (i : Nat) {v : Value}, Items PI vs qs → vs[i]? = some v → ∃ q, qs[i]? = some q ∧ PI v q
  | _, _, i, _, .nil, h => by simp at h
  | _, _, 0, _, .cons hv r, h => by cases h; exact ⟨_, rfl, hv⟩
  | _, _, i + 1, _, .cons hv r, h => r.get i h
end
theorem ItIn.mono {l l' : List (Addr × Obj)} {v : Value} {i : It} (hs : ∀ q ∈ l, q ∈ l') (h : ItIn l v i) : ItIn l' v i := by
  cases i with
  | nm b => obtain ⟨p, t, u, n, e, hm⟩ := h; exact ⟨p, t, u, n, e, hs _ hm⟩
  | tx b => obtain ⟨p, t, u, n, e, hm⟩ := h; exact ⟨p, t, u, n, e, hs _ hm⟩
  | nu i => exact h
  | «by» b => exact h
theorem ItsIn.mono {l l' : List (Addr × Obj)} (hs : ∀ q ∈ l, q ∈ l') {vs : List Value} {is : List It} (h : ItsIn l vs is) : ItsIn l' vs is := h.imp fun _ _ h => h.mono hs
theorem PcIn.mono {l l' : List (Addr × Obj)} (hs : ∀ q ∈ l, q ∈ l') {v : Value} {q : Bs × Option (List It)} (h : PcIn l v q) : PcIn l' v q := by
  obtain ⟨p, t, u, n, e, hm, hq⟩ := h
  refine ⟨p, t, u, n, e, hs _ hm, ?_⟩
  cases hq2 : q.2 with
  | none => rw [hq2] at hq; exact hq
  | some is =>
    rw [hq2] at hq
    obtain ⟨a, vs, k, e2, hm2, hi⟩ := hq
    exact ⟨a, vs, k, e2, hs _ hm2, ItsIn.mono hs hi⟩
theorem PcsIn.mono {l l' : List (Addr × Obj)} (hs : ∀ q ∈ l, q ∈ l') {vs : List Value} {qs : List (Bs × Option (List It))} (h : PcsIn l vs qs) : PcsIn l' vs qs := h.imp fun _ _ h => h.mono hs
def TupLst (l : List (Addr × Obj)) : Prop := ∀ q ∈ l, q.2.cls = .type "tuple" ∨ q.2.cls = .type "list"
inductive ItE : Expr → It → Prop
  | nm {p} : ItE (.Name (Str.ofString "name") p) (.nm [120])
  | tx {p} : ItE (.Name (Str.ofString "text") p) (.tx [113])
  | «by» {b n p} : ItE (.Constant (.bytes b) n p) (.by b)
  | nu {i n p} : ItE (.Constant (.int i) n p) (.nu i)
  | pair {b n p n2 p2 j p3} : ItE (.Tuple [.Constant (.str (Str.ofString "name")) n p, .Constant (.bytes b) n2 p2] j p3) (.nm b)
inductive ItsE : List Expr → List It → Prop
  | nil : ItsE [] []
  | cons {e i es is} : ItE e i → ItsE es is → ItsE (e :: es) (i :: is)
inductive PcE : Expr → Bs × Option (List It) → Prop
  | no {b n p n2 p2 j p3} : PcE (.Tuple [.Constant (.bytes b) n p, .Constant .none n2 p2] j p3) (b, none)
  | so {b n p es is p2 j p3} : ItsE es is → PcE (.Tuple [.Constant (.bytes b) n p, .List es p2] j p3) (b, some is)
inductive PcsE : List Expr → List (Bs × Option (List It)) → Prop
  | nil : PcsE [] []
  | cons {e i es is} : PcE e i → PcsE es is → PcsE (e :: es) (i :: is)
section
variable {P : Pt} {cn : Str} {cs : Scope} {f : Addr} {cd : Value} {cl : List (Str × Addr)} {m : Mp} {k : Nat} {e1 e2 : Expr} {p1 p2 pos : Pos} {E : Value → Shared → Prop} {B l : Ld} {R R1 R2 : Ld → Value → Prop} {es : List Expr}
def Gw (P : Pt) (env : Env) (m : Mp) (B : Ld) (e : Expr) (R : Ld → Value → Prop) : Prop :=
  ∀ l, (∀ q ∈ B, q ∈ l) → TupLst l → Ew P env m l e (fun v l2 => (∀ q ∈ l, q ∈ l2) ∧ TupLst l2 ∧ R l2 v)
def Gws (P : Pt) (env : Env) (m : Mp) (B : Ld) (es : List Expr) (R : Ld → List Value → Prop) : Prop :=
  ∀ l, (∀ q ∈ B, q ∈ l) → TupLst l → ∀ h tk pos, Led P m l h → ∀ (Q : List Value → Shared → Prop) (E : Value → Shared → Prop), (∀ vs l2 h' tk', (∀ q ∈ l, q ∈ l2) → TupLst l2 → R l2 vs → Led P m l2 h' → Q vs (P.S h' tk')) → wpAny P.M P.A (spliced (backTo pos (starEach es env))) Q E (P.S h tk)
theorem g_ev {env : Env} {R0 : Value → Prop} (h : ∀ l, Ev P env m l e1 R0) : Gw P env m B e1 (fun _ => R0) := fun l _ hT hp tk H Q E hQ => h l hp tk H Q E fun v h' tk' hv H' => hQ v l h' tk' ⟨fun _ x => x, hT, hv⟩ H'
theorem gws_nil {env : Env} : Gws P env m B [] (fun _ vs => vs = []) := fun l _ hT h tk pos H Q E hQ => args_nil (hQ [] l h tk (fun _ x => x) hT rfl H)
theorem gws_cons {env : Env} {Rs : Ld → List Value → Prop} (hok : okE e1 = true) (h1 : Gw P env m B e1 R1) (mono : ∀ l l' v, (∀ q ∈ l, q ∈ l') → R1 l v → R1 l' v) (h2 : Gws P env m B es Rs) : Gws P env m B (e1 :: es) (fun l vs => ∃ v us, vs = v :: us ∧ R1 l v ∧ Rs l us) :=
  fun l hB hT h tk pos H Q E hQ => args_cons (h1 l hB hT h tk H _ _ fun v l1 ha ta ⟨s1, T1, r1⟩ Ha => h2 l1 (fun q hq => s1 q (hB q hq)) T1 ha ta pos Ha _ _ fun us l2 hb tb s2 T2 r2 Hb => hQ (v :: us) l2 hb tb (fun q hq => s2 q (s1 q hq)) T2 ⟨v, us, rfl, mono _ _ _ s2 r1, r2⟩ Hb) (by
    cases e1 <;> first | rfl | (cases hok))
theorem tl_cons {l : Ld} {q : Addr × Obj} (h : q.2.cls = .type "tuple" ∨ q.2.cls = .type "list") (hT : TupLst l) : TupLst (q :: l) := fun p hp => by
  rcases List.mem_cons.mp hp with rfl | hp
  · exact h
  · exact hT p hp
theorem g_tuple {env : Env} {Rs : Ld → List Value → Prop} {j : Nat} (h : Gws P env m B es Rs) (hz : ∀ l vs, Rs l vs → vs.length ≤ 100) (mono : ∀ l l' vs, (∀ q ∈ l, q ∈ l') → Rs l vs → Rs l' vs) : Gw P env m B (.Tuple es j pos) (fun l v => ∃ D vs, v = .ref D ∧ (D, tupO vs) ∈ l ∧ Rs l vs) := fun l hB hT hp tk H Q E hQ =>
  Tuple_ (h l hB hT hp tk pos H _ _ fun vs l2 h1 t1 s2 T2 r2 H1 => kup_newTuple (s := P.S h1 t1) H1.F H1.N (fun D h' F N lo => hQ _ ((D, tupO vs) :: l2) h' t1 ⟨fun q hq => .tail _ (s2 q hq), tl_cons (.inl rfl) T2, D, vs, rfl, .head _, mono _ _ _ (fun q hq => .tail _ hq) r2⟩ ⟨F, N⟩) (Nat.le_trans (hz _ vs r2) (by rw [sizeLine_eq]; decide)))
theorem g_list {env : Env} {Rs : Ld → List Value → Prop} (h : Gws P env m B es Rs) (hz : ∀ l vs, Rs l vs → vs.length ≤ 100) (mono : ∀ l l' vs, (∀ q ∈ l, q ∈ l') → Rs l vs → Rs l' vs) : Gw P env m B (.List es pos) (fun l v => ∃ D vs, v = .ref D ∧ (D, listOf vs.toArray 0) ∈ l ∧ Rs l vs) := fun l hB hT hp tk H Q E hQ =>
  List_ (h l hB hT hp tk pos H _ _ fun vs l2 h1 t1 s2 T2 r2 H1 => newList_K (s := P.S h1 t1) H1.F H1.N (fun D h' F N lo => hQ _ ((D, listOf vs.toArray 0) :: l2) h' t1 ⟨fun q hq => .tail _ (s2 q hq), tl_cons (.inr rfl) T2, D, vs, rfl, .head _, mono _ _ _ (fun q hq => .tail _ hq) r2⟩ ⟨F, N⟩) (Nat.le_trans (hz _ vs r2) (by rw [sizeLine_eq]; decide)))
theorem Gw.mono {env : Env} (h : Gw P env m B e1 R1) (hi : ∀ l v, (∀ q ∈ B, q ∈ l) → R1 l v → R2 l v) : Gw P env m B e1 R2 := fun l hB hT hp tk H Q E hQ => h l hB hT hp tk H Q E fun v l2 h' tk' ⟨s2, T2, r2⟩ H' => hQ v l2 h' tk' ⟨s2, T2, hi _ _ (fun q hq => s2 q (hB q hq)) r2⟩ H'
theorem g_pair {env : Env} {j : Nat} (ho1 : okE e1 = true) (ho2 : okE e2 = true) (h1 : Gw P env m B e1 R1) (h2 : Gw P env m B e2 R2) (m1 : ∀ l l' v, (∀ q ∈ l, q ∈ l') → R1 l v → R1 l' v) (m2 : ∀ l l' v, (∀ q ∈ l, q ∈ l') → R2 l v → R2 l' v) :
    Gw P env m B (.Tuple [e1, e2] j pos) (fun l v => ∃ D v1 v2, v = .ref D ∧ (D, tupO [v1, v2]) ∈ l ∧ R1 l v1 ∧ R2 l v2) := by
  refine (g_tuple (gws_cons ho1 h1 m1 (gws_cons ho2 h2 m2 gws_nil)) ?_ ?_).mono ?_
  · rintro l _ ⟨v, _, rfl, _, u, _, rfl, _, rfl⟩; exact Nat.le_of_ble_eq_true rfl
  · rintro l l' _ hs ⟨v, _, rfl, r1, u, _, rfl, r2, rfl⟩; exact ⟨v, _, rfl, m1 _ _ _ hs r1, u, _, rfl, m2 _ _ _ hs r2, rfl⟩
  · rintro l _ _ ⟨D, _, rfl, hD, v, _, rfl, r1, u, _, rfl, r2, rfl⟩; exact ⟨D, v, u, rfl, hD, r1, r2⟩
theorem Ew.imp {env : Env} {kk kk' : Value → Ld → Prop} (h : Ew P env m l e1 kk) (hi : ∀ v l', kk v l' → kk' v l') : Ew P env m l e1 kk' := fun hp tk H Q E hQ => h hp tk H Q E fun v l' h' tk' hv H' => hQ v l' h' tk' (hi v l' hv) H'
theorem Ew.impL {env : Env} {kk kk' : Value → Ld → Prop} (h : Ew P env m l e1 kk) (hi : ∀ v l' h, kk v l' → Led P m l' h → kk' v l') : Ew P env m l e1 kk' := fun hp tk H Q E hQ => h hp tk H Q E fun v l' h' tk' hv H' => hQ v l' h' tk' (hi v l' h' hv H') H'
theorem pair_mono {R1 R2 : Value → Prop} (l l' : Ld) (v : Value) (hs : ∀ q ∈ l, q ∈ l') (h : ∃ D v1 v2, v = .ref D ∧ (D, tupO [v1, v2]) ∈ l ∧ R1 v1 ∧ R2 v2) : ∃ D v1 v2, v = .ref D ∧ (D, tupO [v1, v2]) ∈ l' ∧ R1 v1 ∧ R2 v2 := by
  obtain ⟨D, v1, v2, e, hD, h⟩ := h
  exact ⟨D, v1, v2, e, hs _ hD, h⟩
theorem ev_str {env : Env} {x : Str} {n : Nat} : Ev P env m l (.Constant (.str x) n pos) (fun v => ∃ t, v = .str x t) := fun hp tk H Q E hQ => Constant_str (hQ _ hp _ ⟨_, rfl⟩ H)
variable {vn vt : Value} (hn : m (Str.ofString "name") = some vn) (ht : m (Str.ofString "text") = some vt) (hn1 : isL cs (Str.ofString "name") = true) (ht1 : isL cs (Str.ofString "text") = true) (hI : ItIn B vn (.nm [120])) (hJ : ItIn B vt (.tx [113]))
include hn ht hn1 ht1 hI hJ
theorem g_it {e : Expr} {i : It} (h : ItE e i) : Gw P (envX cn cs P.L f cd cl) m B e (fun l v => ItIn l v i) := by
  cases h with
  | nm => exact (g_ev fun l => Ev.loc hn hn1).mono fun l v hB q => q ▸ hI.mono hB
  | tx => exact (g_ev fun l => Ev.loc ht ht1).mono fun l v hB q => q ▸ hJ.mono hB
  | «by» => exact (g_ev fun l => ev_bytes).mono fun l v hB q => q
  | nu => exact (g_ev fun l => ev_int).mono fun l v hB q => q
  | pair =>
    refine (g_pair rfl rfl (g_ev fun l => ev_str) (g_ev fun l => ev_bytes) (fun _ _ _ _ x => x) fun _ _ _ _ x => x).mono ?_
    rintro l _ _ ⟨D, _, _, rfl, hD, ⟨t, rfl⟩, ⟨u, rfl⟩⟩
    exact ⟨D, t, u, _, rfl, hD⟩
theorem g_its {es : List Expr} {is : List It} (h : ItsE es is) : Gws P (envX cn cs P.L f cd cl) m B es (fun l vs => ItsIn l vs is) := by
  induction h with
  | nil => exact fun l hB hT hp tk pos H Q E hQ => gws_nil l hB hT hp tk pos H Q E fun vs l2 h' tk' s T r H' => hQ vs l2 h' tk' s T (r ▸ .nil) H'
  | cons h1 _ ih => exact fun l hB hT hp tk pos H Q E hQ => gws_cons (by cases h1 <;> rfl) (g_it hn ht hn1 ht1 hI hJ h1) (fun _ _ _ hs r => r.mono hs) ih l hB hT hp tk pos H Q E fun vs l2 h' tk' s T ⟨v, us, e, r1, r2⟩ H' => hQ vs l2 h' tk' s T (e ▸ .cons r1 r2) H'
theorem g_pc {e : Expr} {q : Bs × Option (List It)} (h : PcE e q) (hz : (q.2.getD []).length ≤ 100) : Gw P (envX cn cs P.L f cd cl) m B e (fun l v => PcIn l v q) := by
  cases h with
  | no =>
    refine (g_pair rfl rfl (g_ev fun l => ev_bytes) (g_ev fun l => ev_none) (fun _ _ _ _ x => x) fun _ _ _ _ x => x).mono ?_
    rintro l _ _ ⟨D, _, _, rfl, hD, ⟨t, rfl⟩, rfl⟩
    exact ⟨D, t, _, _, rfl, hD, rfl⟩
  | so h =>
    refine (g_pair rfl rfl (g_ev fun l => ev_bytes) (g_list (g_its hn ht hn1 ht1 hI hJ h) (fun l vs r => by rw [r.len]; exact hz) fun _ _ _ hs r => ItsIn.mono hs r) (fun _ _ _ _ x => x) ?_).mono ?_
    · rintro l l' _ hs ⟨D, vs, rfl, hD, r⟩; exact ⟨D, vs, rfl, hs _ hD, ItsIn.mono hs r⟩
    · rintro l _ _ ⟨D, _, _, rfl, hD, ⟨t, rfl⟩, ⟨a, vs, rfl, ha, r⟩⟩
      exact ⟨D, t, _, _, rfl, hD, a, vs, _, rfl, ha, r⟩
theorem g_pcs {es : List Expr} {qs : List (Bs × Option (List It))} (h : PcsE es qs) (hz : ∀ q ∈ qs, (q.2.getD []).length ≤ 100) : Gws P (envX cn cs P.L f cd cl) m B es (fun l vs => PcsIn l vs qs) := by
  induction h with
  | nil => exact fun l hB hT hp tk pos H Q E hQ => gws_nil l hB hT hp tk pos H Q E fun vs l2 h' tk' s T r H' => hQ vs l2 h' tk' s T (r ▸ .nil) H'
  | cons h1 _ ih => exact fun l hB hT hp tk pos H Q E hQ => gws_cons (by cases h1 <;> rfl) (g_pc hn ht hn1 ht1 hI hJ h1 (hz _ (.head _))) (fun _ _ _ hs r => r.mono hs) (ih fun q hq => hz q (.tail _ hq)) l hB hT hp tk pos H Q E fun vs l2 h' tk' s T ⟨v, us, e, r1, r2⟩ H' => hQ vs l2 h' tk' s T (e ▸ .cons r1 r2) H'
end
section
variable {P : Pt} {env : Env} {k : Nat} {l : Ld} {kk : Value → Ld → Prop}
theorem pieces_x (O : Ok P env (k + 2)) (h : ∀ a vs pl, (a, listOf vs.toArray 0) ∈ pl → PcsIn pl vs pcs → TupLst pl → (∀ q ∈ pl, ∀ p ∈ l, q.1 ≠ p.1) → kk (.ref a) (pl ++ l)) : CallX P l (.ref 490) [] kk := by
  refine' callx_def [] O ?k1 ?k2 ?k3 ?k4 ?_
  walk_at "sides"
  intro P' J O' Qf Ef fin
  refine W.asg2 O' ?a
  case a =>
    refine Ew.imp (g_pair (B := []) rfl rfl (g_pair rfl rfl (g_ev fun l => ev_str) (g_ev fun l => ev_bytes) (fun _ _ _ _ x => x) fun _ _ _ _ x => x) (g_pair rfl rfl (g_ev fun l => ev_str) (g_ev fun l => ev_bytes) (fun _ _ _ _ x => x) fun _ _ _ _ x => x) pair_mono pair_mono [] (fun _ h => nomatch h) (fun _ h => nomatch h)) ?_
    rintro _ l2 ⟨_, T2, D, v1, v2, rfl, hD, ⟨D1, _, _, rfl, h1, ⟨t1, rfl⟩, ⟨u1, rfl⟩⟩, D2, _, _, rfl, h2, ⟨t2, rfl⟩, ⟨u2, rfl⟩⟩
    refine ⟨D, _, _, rfl, hD, ?_⟩
    refine W.retE fin.r (Ew.em ?_)
    refine Ew.impL (g_list (B := l2) (g_pcs (qs := pcs) rfl rfl rfl rfl ⟨D1, t1, u1, _, rfl, h1⟩ ⟨D2, t2, u2, _, rfl, h2⟩ ?pcs (by decide)) (fun l vs r => by rw [r.len]; decide) (fun _ _ _ hs r => PcsIn.mono hs r) l2 (fun _ h => h) T2) ?_
    case pcs => exact .cons (.so (.cons .nm .nil)) <| .cons (.so (.cons .by .nil)) <| .cons (.so (.cons .tx .nil)) <| .cons (.so (.cons .by .nil)) <| .cons (.so (.cons .tx .nil)) <| .cons (.so (.cons .pair .nil)) <| .cons (.so (.cons .by .nil)) <| .cons (.so (.cons .by .nil)) <| .cons (.so (.cons .by .nil)) <| .cons (.so (.cons .nu .nil)) <| .cons (.so .nil) <| .cons .no <| .cons (.so (.cons .by .nil)) <| .cons .no <| .cons (.so (.cons .by .nil)) <| .cons (.so (.cons .tx .nil)) <| .cons (.so (.cons .nu .nil)) <| .cons (.so (.cons .by .nil)) <| .cons (.so (.cons .by .nil)) <| .cons (.so (.cons .by .nil)) <| .nil
    rintro _ l3 hp ⟨s3, T3, a, vs, rfl, ha, r⟩ H3
    exact h a vs l3 ha r T3 fun q hq p hp e => Option.some_ne_none _ ((J.rs p hp).symm.trans (e ▸ (H3.N q hq).2.2))
end
end
section
set_option maxHeartbeats 2000000
def WfT (q : Int × Vl) : Prop := (q.1 = 285 ∧ ∃ b, q.2 = .by b) ∨ (q.1 = 286 ∧ ∃ b, q.2 = .by b) ∨ (q.1 = 284 ∧ ∃ i, q.2 = .nu i) ∨ (257 ≤ q.1 ∧ q.1 ≤ 283 ∧ q.2 = .no) ∨ ∃ a : UInt8, q.1 = a.toNat ∧ q.2 = .no
theorem wf_num {b r l : Bs} {k : Int} {v : Vl} (h : numTok b r = some (k, v, l)) : WfT (k, v) := by
  unfold numTok at h
  obtain ⟨u, h1, h2⟩ := Option.map_eq_some_iff.mp h
  cases h2
  exact .inr (.inr (.inl ⟨rfl, _, rfl⟩))
theorem wf_by (a : UInt8) : WfT ((a.toNat : Int), .no) := .inr (.inr (.inr (.inr ⟨a, rfl, rfl⟩)))
theorem wf_op {k : Int} (h : 257 ≤ k ∧ k ≤ 283) : WfT (k, .no) := .inr (.inr (.inr (.inl ⟨h.1, h.2, rfl⟩)))
theorem wf_dot {r l : Bs} {k : Int} {v : Vl} (h : dotR r = some (k, v, l)) : WfT (k, v) := by
  rcases dotR_cases r with ⟨t, rfl, e⟩ | ⟨t, rfl, ht, e⟩ | ⟨hr, e⟩
  · rw [e] at h; cases h; exact wf_op (by decide)
  · rw [e] at h; cases h; exact wf_op (by decide)
  · rw [e] at h
    split at h
    · exact wf_num h
    · cases h; exact wf_by 46
theorem wf_word {r l : Bs} {k : Int} {v : Vl} (h : wordTok r = some (k, v, l)) : WfT (k, v) := by
  unfold wordTok at h
  split at h
  · rename_i i hi
    have := kwOf_lt hi
    cases h; exact wf_op (by (first | lia | omega))
  · cases h; exact .inl ⟨rfl, _, rfl⟩
theorem wf_brk {r l : Bs} {k : Int} {v : Vl} (h : brkR r = some (k, v, l)) : WfT (k, v) := by
  unfold brkR at h
  split at h
  · obtain ⟨⟨b, l2⟩, h1, h2⟩ := Option.map_eq_some_iff.mp h
    cases h2
    exact .inr (.inl ⟨rfl, _, rfl⟩)
  · split at h
    · cases h
    · cases h; exact wf_by 91
theorem wf_tok {a : UInt8} {r l : Bs} {k : Int} {v : Vl} (h : tokS (a :: r) = some (k, v, l)) : WfT (k, v) := by
  rw [tokS_c] at h
  revert h
  cases tcOf a with
  | str =>
    intro h
    obtain ⟨⟨b, l2⟩, h1, h2⟩ := Option.map_eq_some_iff.mp h
    cases h2
    exact .inr (.inl ⟨rfl, _, rfl⟩)
  | brk => exact wf_brk
  | dot => exact wf_dot
  | num => exact wf_num
  | word => exact wf_word
  | minus => intro h; cases h; exact wf_by 45
  | cmp =>
    intro h
    cases h
    cases r with
    | nil => exact wf_by a
    | cons b r =>
      simp only [cmpR]
      split
      · dsimp only
        split
        · exact wf_op (by decide)
        · split
          · exact wf_op (by decide)
          · split
            · exact wf_op (by decide)
            · exact wf_op (by decide)
      · exact wf_by a
  | other => intro h; cases h; exact wf_by a
theorem wf_toks : ∀ (n : Nat) {r : Bs} {ts : List (Int × Vl)}, r.length ≤ n → toks r = some ts → ∀ q ∈ ts, WfT q := by
  intro n
  induction n with
  | zero =>
    intro r ts hn h
    obtain rfl : r = [] := List.length_eq_zero_iff.mp (by (first | lia | omega))
    rw [toks_nil] at h; cases h; exact fun _ h => nomatch h
  | succ n ih =>
    intro r ts hn h
    rcases readS_cases r with e | ⟨_, e⟩ | ⟨a, s, k, v, l, e1, e2, e, hk, h3, h4⟩
    · rw [toks_none e] at h; cases h
    · rw [toks_end e] at h; cases h; exact fun _ h => nomatch h
    · rw [toks_tok e hk] at h
      obtain ⟨ts', h1, rfl⟩ := Option.map_eq_some_iff.mp h
      exact List.forall_mem_cons.mpr ⟨wf_tok e2, ih (by (first | lia | omega)) h1⟩
theorem toks_short : ∀ {n : Nat} {r : Bs} {ts : List (Int × Vl)}, r.length ≤ n → toks r = some ts → ts.length ≤ n := by
  intro n
  induction n with
  | zero =>
    intro r ts hn h
    obtain rfl : r = [] := List.length_eq_zero_iff.mp (by (first | lia | omega))
    rw [toks_nil] at h; cases h; exact Nat.le_refl _
  | succ n ih =>
    intro r ts hn h
    rcases readS_cases r with e | ⟨_, e⟩ | ⟨a, s, k, v, l, e1, e2, e, hk, h3, h4⟩
    · rw [toks_none e] at h; cases h
    · rw [toks_end e] at h; cases h; exact Nat.zero_le _
    · rw [toks_tok e hk] at h
      obtain ⟨ts', h1, rfl⟩ := Option.map_eq_some_iff.mp h
      have := ih (by (first | lia | omega)) h1
      rw [List.length_cons]; (first | lia | omega)
theorem PairsAt.get {l : List (Addr × Obj)} : ∀ {vs : List Value} {ts : List (Int × Vl)} (i : Nat) {v : Value}, PairsAt l vs ts → vs[i]? = some v → ∃ kv, ts[i]? = some kv ∧ PairAt l v kv
  | _, _, i, _, .nil, h => by simp at h
  | _, _, 0, _, .cons hv r, h => by cases h; exact ⟨_, rfl, hv⟩
  | _, _, i + 1, _, .cons hv r, h => r.get i h
def TupNew (pl l : Ld) : Prop := ∀ q ∈ pl, q.2.cls = .type "tuple" ∧ ∀ p ∈ l, q.1 ≠ p.1
theorem Into.off {P0 P' : Pt} {l l' : Ld} {m : Mp} {h : Heap} (J : Into P0 P' l) (H : Led P' m l' h) : ∀ q ∈ l', ∀ p ∈ l, q.1 ≠ p.1 := fun q hq p hp e => Option.some_ne_none _ ((J.rs p hp).symm.trans (e ▸ (H.N q hq).2.2))
theorem wf_word2 {k0 : Int} {v0 : Vl} (hw : WfT (k0, v0)) (hp : k0 = 285 ∨ k0 = 286) : ∃ b, v0 = .by b := by
  rcases hw with ⟨hk, b, hb⟩ | ⟨hk, b, hb⟩ | ⟨hk, i, hb⟩ | ⟨hk, hk2, hb⟩ | ⟨a, hk, hb⟩ <;> dsimp only at hk hb
  · exact ⟨b, hb⟩
  · exact ⟨b, hb⟩
  · (first | lia | omega)
  · (first | lia | omega)
  · have := a.toNat_lt; (first | lia | omega)
theorem wf_num2 {v0 : Vl} (hw : WfT (284, v0)) : ∃ i, v0 = .nu i := by
  rcases hw with ⟨hk, b, hb⟩ | ⟨hk, b, hb⟩ | ⟨hk, i, hb⟩ | ⟨hk, hk2, hb⟩ | ⟨a, hk, hb⟩ <;> dsimp only at hk hb
  · cases hk
  · cases hk
  · exact ⟨i, hb⟩
  · (first | lia | omega)
  · have := a.toNat_lt; (first | lia | omega)
theorem wf_no2 {k0 : Int} {v0 : Vl} (hw : WfT (k0, v0)) (h5 : ¬ (k0 = 285 ∨ k0 = 286)) (h4 : ¬ k0 = 284) : v0 = .no ∧ (256 < k0 → 257 ≤ k0 ∧ k0 ≤ 287) ∧ (¬ 256 < k0 → 0 ≤ k0 ∧ k0 < 256) := by
  rcases hw with ⟨hk, b, hb⟩ | ⟨hk, b, hb⟩ | ⟨hk, i, hb⟩ | ⟨hk, hk2, hb⟩ | ⟨a, hk, hb⟩ <;> dsimp only at hk hb
  · (first | lia | omega)
  · (first | lia | omega)
  · (first | lia | omega)
  · exact ⟨hb, fun _ => by (first | lia | omega), fun h => by (first | lia | omega)⟩
  · have := a.toNat_lt; exact ⟨hb, fun _ => by (first | lia | omega), fun h => by (first | lia | omega)⟩
noncomputable def wordS (k : Int) : Str := if k = 285 then Str.ofString "name" else Str.ofString "text"
theorem it_word {k0 : Int} {b : Bs} {D : Addr} {t : Tok} {u : Value} (hu : (Vl.by b).is u) : ItIn [(D, tupO [.str (wordS k0) t, u])] (.ref D) (plainI (k0, .by b)) := by
  obtain ⟨t2, rfl⟩ := hu
  unfold wordS
  by_cases h : k0 = 285
  · rw [if_pos h, show plainI (k0, .by b) = .nm b from if_pos h]
    exact ⟨D, t, t2, _, rfl, .head _⟩
  · rw [if_neg h, show plainI (k0, .by b) = .tx b from if_neg h]
    exact ⟨D, t, t2, _, rfl, .head _⟩
theorem plainI_op {k : Int} (h : 256 < k) : plainI (k, .no) = .by (tokTx k) := if_pos h
theorem plainI_ch {k : Int} (h : ¬ 256 < k) : plainI (k, .no) = .by [k.toNat.toUInt8] := if_neg h
section
variable {P : Pt} {env : Env} {k : Nat} {l : Ld} {kk : Value → Ld → Prop} {k0 : Int} {v0 : Vl} {u : Value}
theorem plain_x (O : Ok P env (k + 4)) (hw : WfT (k0, v0)) (hv : v0.is u) (h : ∀ r pl, ItIn pl r (plainI (k0, v0)) → TupNew pl l → kk r (pl ++ l)) : ∀ v, I k0 v → CallX P l (.ref 497) [v, u] kk := by
  rintro _ ⟨t, rfl⟩
  refine' callx_def [(Str.ofString "kind", .int k0 t), (Str.ofString "value", u)] O ?k1 ?k2 ?k3 ?k4 ?_
  walk_at "sides"
  intro P' J O' Qf Ef fin
  refine W.ifs (et_or2 (et_eq (Ev.i (Ev.loc rfl)) (Ev.gi O' gi_TK_NAME)) fun _ => et_eq (Ev.i (Ev.loc rfl)) (Ev.gi O' gi_TK_STRING)) (fun hp => ?_) fun hn => ?_
  · obtain ⟨b, rfl⟩ := wf_word2 hw hp
    refine W.retE fin.r (Ew.em (Ew.impL (ew_tuple (kk := fun v l' => ∃ D t, v = .ref D ∧ l' = [(D, tupO [.str (wordS k0) t, u])]) (evs2 (R1 := fun v => ∃ t, v = .str (wordS k0) t) (ev_if (et_eq (Ev.i (Ev.loc rfl)) (Ev.gi O' gi_TK_NAME)) (fun e => Ev.mono ev_str fun v hv => ?a) fun e => Ev.mono ev_str fun v hv => ?b) (Ev.loc rfl) rfl) (fun vs ⟨v, w, e, _, _⟩ => by rw [e]; exact Nat.le_of_ble_eq_true rfl) fun vs D ⟨v, w, e, ⟨t, e2⟩, e3⟩ _ => ⟨D, t, rfl, by rw [e, e2, e3]⟩) fun v l' hp ⟨D, t, e, e2⟩ H => ?c))
    case a => rw [wordS, if_pos e]; exact hv
    case b => rw [wordS, if_neg e]; exact hv
    case c =>
      subst e e2
      exact h _ _ (it_word hv) fun q hq => ⟨by rw [List.mem_singleton.mp hq], J.off H q hq⟩
  · refine W.ifs (et_eq (Ev.i (Ev.loc rfl)) (Ev.gi O' gi_TK_NUMBER)) (fun hp => ?_) fun hn2 => ?_
    · subst hp
      obtain ⟨i, rfl⟩ := wf_num2 hw
      exact W.retV fin.r (Ev.loc rfl) (h u [] hv fun _ h => nomatch h)
    · obtain ⟨rfl, w1, w0⟩ := wf_no2 hw hn hn2
      by_cases h9 : 256 < k0
      · refine W.retY (b := tokTx k0) fin.r (ev_if (et_gt (Ev.i (Ev.loc rfl)) ev_int) (fun _ => ev_call1 fn_token_text O' (Ev.i (Ev.loc rfl)) (tokTxt_p O' (w1 h9))) fun e => absurd h9 e) fun t => h _ [] ?_ fun _ h => nomatch h
        rw [plainI_op h9]; exact ⟨t, rfl⟩
      · refine W.retY (b := [k0.toNat.toUInt8]) fin.r (ev_if (et_gt (Ev.i (Ev.loc rfl)) ev_int) (fun e => absurd e h9) fun _ => ev_byte1 O' (Ev.i (Ev.loc rfl)) (w0 h9)) fun t => h _ [] ?_ fun _ h => nomatch h
        rw [plainI_ch h9]; exact ⟨t, rfl⟩
end
end
section
set_option maxHeartbeats 2000000
section
variable {P : Pt} {env : Env} {x x2 name : Str} {sc scope : Scope} {C a : Addr} {oC : Obj} {v : Value} {cl : List (Str × Addr)} {m m2 : Mp} {l : Ld} {k : Nat} {e elt iter : Expr} {es : List Expr} {pos p1 : Pos} {Rs : List Value → Prop} {kk : Value → Ld → Prop}
theorem ev_own (hm : (C, oC) ∈ l) (hC : LCg.NsObj oC m2) (hx : m2 x = some v) (hk : (compEnvC sc cl C env).scope.kind = .function := by rfl) (hl : (compEnvC sc cl C env).kindOf x = some .local := by rfl) (hd : (x == ("__debug__" : Str)) = false := by decide) :
    Ev P (compEnvC sc cl C env) m l (.Name x pos) (V v) := fun hp tk H Q E hQ => LCgL.ld_own (s := P.S hp tk) H.N hm hC hx (hQ v hp tk rfl H) hk hl hd
theorem ev_globC (O : Ok P env k) (hm : nsIn (Mine.H.hd.heap_1_1 P.w.params) mainGlobals x = some (some v)) (hg : env.globals = mainGlobals := by rfl) (hk : (compEnvC sc cl C env).scope.kind = .function := by rfl) (hl : (compEnvC sc cl C env).kindOf x = some .globalImplicit := by rfl) (hd : (x == ("__debug__" : Str)) = false := by decide) :
    Ev P (compEnvC sc cl C env) m l (.Name x pos) (V v) := fun hp tk H Q E hQ => LCgL.ld_global (s := P.S hp tk) H.F O.X O.T hm (hQ v hp tk rfl H) hg hk hl hd
theorem ev_cellC {c : Addr} {o : Obj} (hc : cl.lookup x = some c) (hm : (c, o) ∈ l) (hd : o.data = .cell (some v)) (hk : (compEnvC sc cl C env).scope.kind = .function := by rfl) (hl : (compEnvC sc cl C env).kindOf x = some .cell := by rfl) (hb : (x == ("__debug__" : Str)) = false := by decide) :
    Ev P (compEnvC sc cl C env) m l (.Name x pos) (V v) := fun hp tk H Q E hQ => lcf_cell (s := P.S hp tk) H.N hc hm hd (hQ v hp tk rfl H) hk hl hb
theorem ew_callG (hkp : keepIn (Mine.H.hd.heap_1_1 P.w.params) (.ref a) = true) (X : (Mine.H.hd.heap_1_1 P.w.params).In P.g) (hf : Ev P env m l (.Name x p1) (V (.ref a))) (ha : Evs P env m l es Rs) (hc : ∀ vs, Rs vs → CallX P l (.ref a) vs kk) (hz : okEs es = true) :
    Ew P env m l (.Call (.Name x p1) es [] pos) kk := fun hp tk H Q E hQ => by
  refine Call_ (hf hp tk H _ _ fun v' h' tk' hv' H' => ?_) evalCall
  subst hv'
  exact wpB.to_any (bCallWith (b := false) (first := []) (backTo_any hz) hkp (ha h' tk' pos H' _ _ fun vs h2 t2 hv H2 => ⟨X.keeps H2.F.keep, wpB.of_any (hc vs hv m h2 t2 H2 Q E hQ)⟩))
theorem restP {vs : List Value} {S : Addr} {Fin : List Value → Ld → Prop} {h0 : Heap} {t0 : Nat} (J : Nat → List Value → Ld → Prop) (fin : ∀ ys news, J vs.length ys news → Fin ys news)
    (turn : ∀ i ys news v, J i ys news → vs[i]? = some v → ∃ t v1 v2 nt, v = .ref t ∧ (t, ({ cls := .type "tuple", data := .seq #[v1, v2] nt } : Obj)) ∈ news ∧ ∀ I oI C oC D m2, LCg.NsObj oC m2 → m2 x = some v1 → m2 x2 = some v2 → LCg.Off3 I C D news →
      Ew P (compEnvC scope cl C env) m ((I, oI) :: (C, oC) :: (D, LCg.lst ys) :: news) elt (fun w l' => ∃ news', (∀ p ∈ (I, oI) :: (C, oC) :: (D, LCg.lst ys) :: news', p ∈ l') ∧ LCg.Off3 I C D news' ∧ LCg.SrcAt P.g S vs.toArray news' ∧ J (i + 1) (ys ++ [w]) news')) :
    ∀ (k i : Nat) (ys : List Value) (news : Ld), i + k = vs.length → J i ys news → LCp.CompRestP P.prog P.w P.A P.g P.L m env elt x x2 scope cl (P.S h0 t0) (LCg.SrcAt P.g S vs.toArray) (fun i v => vs.toArray[i]? = some v) Fin k i ys news
  | 0, i, ys, news, hi, hI => fin ys news (by rw [← hi]; exact hI)
  | k + 1, i, ys, news, hi, hI => fun v hv => by
    obtain ⟨t, v1, v2, nt, e, hm, h2⟩ := turn i ys news v hI (by simpa using hv)
    refine ⟨t, _, v1, v2, nt, e, hm, rfl, rfl, fun I oI C oC D m2 h tk E' hC hx hx2 F N off ne => ?_⟩
    exact h2 I oI C oC D m2 hC hx hx2 off h tk ⟨F, N⟩ _ _ fun w l' h' tk' ⟨news', hs, off', S', J'⟩ H' => ⟨h', tk', news', rfl, H'.F, fun p hp => H'.N p (hs p hp), off', S', restP J fin turn k (i + 1) _ _ (by omega) J'⟩
theorem restR {n : Nat} {Fin : List Value → Ld → Prop} {h0 : Heap} {t0 : Nat} (J : Nat → List Value → Ld → Prop) (fin : ∀ ys news, J n ys news → Fin ys news)
    (turn : ∀ i ys news, i < n → J i ys news → ∀ I oI C oC D m2 t, LCg.NsObj oC m2 → m2 x = some (.int (0 + (i : Int)) t) → LCg.Off3 I C D news →
      Ew P (compEnvC scope cl C env) m ((I, oI) :: (C, oC) :: (D, LCg.lst ys) :: news) elt (fun w l' => ∃ news', (∀ p ∈ (I, oI) :: (C, oC) :: (D, LCg.lst ys) :: news', p ∈ l') ∧ LCg.Off3 I C D news' ∧ J (i + 1) (ys ++ [w]) news')) :
    ∀ (k i : Nat) (ys : List Value) (news : Ld), i + k = n → J i ys news → LCg.CompRest P.prog P.w P.A P.g P.L m env elt x scope cl (P.S h0 t0) (fun _ => True) (fun i v => ∃ t, v = .int (0 + (i : Int)) t) Fin k i ys news
  | 0, i, ys, news, hi, hI => fin ys news (by rw [← hi]; exact hI)
  | k + 1, i, ys, news, hi, hI => fun v I oI C oC D m2 h tk E' ⟨t, e⟩ hC hx F N off ne => by
    exact turn i ys news (by omega) hI I oI C oC D m2 t hC (e ▸ hx) off h tk ⟨F, N⟩ _ _ fun w l' h' tk' ⟨news', hs, off', J'⟩ H' => ⟨h', tk', news', rfl, H'.F, fun p hp => H'.N p (hs p hp), off', trivial, restR J fin turn k (i + 1) _ _ (by omega) J'⟩
end
end
section
set_option maxHeartbeats 2000000
theorem CallX.of0 {P : Pt} {l : Ld} {f : Value} {args : List Value} {kk : Value → Ld → Prop} (h : ∀ E, CallW { P with b := false } l f args kk E) : CallX P l f args kk := fun m hp tk H Q E hQ => (h E m hp tk ⟨H.F, H.N⟩ Q fun v l' h' tk' hv H' => hQ v l' h' tk' hv ⟨H'.F, H'.N⟩).to_any
theorem cm_Limits {w : World} : Cm w 53 36 := ⟨by k_is, by k_is, by k_is⟩
theorem cn_width {w : World} : Cn w 53 (Str.ofString "width") := ⟨by k_is, by k_is, by k_is, by k_is⟩
theorem cn_registers {w : World} : Cn w 53 (Str.ofString "registers") := ⟨cn_width.hs, cn_width.hp, by k_is, cn_width.hh⟩
theorem cn_upvalues {w : World} : Cn w 53 (Str.ofString "upvalues") := ⟨cn_width.hs, cn_width.hp, by k_is, cn_width.hh⟩
theorem cn_local_names {w : World} : Cn w 53 (Str.ofString "local_names") := ⟨cn_width.hs, cn_width.hp, by k_is, cn_width.hh⟩
theorem cn_ccalls {w : World} : Cn w 53 (Str.ofString "ccalls") := ⟨cn_width.hs, cn_width.hp, by k_is, cn_width.hh⟩
theorem cn_frames {w : World} : Cn w 53 (Str.ofString "frames") := ⟨cn_width.hs, cn_width.hp, by k_is, cn_width.hh⟩
theorem cn_stack {w : World} : Cn w 53 (Str.ofString "stack") := ⟨cn_width.hs, cn_width.hp, by k_is, cn_width.hh⟩
theorem cn_flush {w : World} : Cn w 53 (Str.ofString "flush") := ⟨cn_width.hs, cn_width.hp, by k_is, cn_width.hh⟩
theorem cn_steps {w : World} : Cn w 53 (Str.ofString "steps") := ⟨cn_width.hs, cn_width.hp, by k_is, cn_width.hh⟩
theorem cn_text {w : World} : Cn w 53 (Str.ofString "text") := ⟨cn_width.hs, cn_width.hp, by k_is, cn_width.hh⟩
theorem fn_Limits {w : World} : Fn w (Str.ofString "Limits") 53 := ⟨by k_is, by k_is⟩
theorem fn_law_heard {w : World} : Fn w (Str.ofString "_law_heard") 502 := ⟨by k_is, by k_is⟩
theorem fn_all_tokens {w : World} : Fn w (Str.ofString "all_tokens") 476 := ⟨by k_is, by k_is⟩
section
variable {P : Pt} {env : Env} {k : Nat} {E : Value → Shared → Prop} {l : Ld} {kk : Value → Ld → Prop}
theorem limits_w (O : Ok P env (k + 2)) (h : ∀ x d es n, getL (Str.ofString "text") es = some (some (.int 1000000 219)) → getL (Str.ofString "width") es = some (some (.int 64 210)) → kk (.ref x) ((x, instObj 53 d) :: (d, dictOf es n) :: l)) : CallW P l (.ref 53) [] kk E := by
  refine' new_def [(Str.ofString "width", .int 64 210), (Str.ofString "registers", .int 250 211), (Str.ofString "upvalues", .int 60 212), (Str.ofString "local_names", .int 200 213), (Str.ofString "ccalls", .int 40 214), (Str.ofString "frames", .int 200 215), (Str.ofString "stack", .int 2000 216), (Str.ofString "flush", .int 50 217), (Str.ofString "steps", .int 1000000000 218), (Str.ofString "text", .int 1000000 219)] (Str.ofString "self") O cm_Limits ?k1 ?k2 ?k3 ?k4 ?_
  (case k1 => k_is); (case k2 => k_is)
  case k3 =>
    intro x s X
    have h29 : s.heap.get? 29 = some { cls := .type "tuple", data := .seq #[.int 64 210, .int 250 211, .int 60 212, .int 200 213, .int 40 214, .int 200 215, .int 2000 216, .int 50 217, .int 1000000000 218, .int 1000000 219] } := X _ _ (by k_is)
    exact BindsTo.of_defaults rfl h29 rfl rfl rfl
  (case k4 => exact rfl)
  intro x dx l2 l1 P' J O' Qf Ef fin esc
  have hne : x ≠ dx := Ne.symm (Nat.ne_of_lt l2)
  have h0 : ∀ p ∈ ([] : Ld), p.1 ≠ dx := fun _ h => nomatch h
  refine W.setNewV O' rfl cn_width hne h0 (Ev.loc rfl) fun a0 k0 => ?_
  refine W.setNewV O' rfl cn_registers hne h0 (Ev.loc rfl) fun a1 k1 => ?_
  refine W.setNewV O' rfl cn_upvalues hne h0 (Ev.loc rfl) fun a2 k2 => ?_
  refine W.setNewV O' rfl cn_local_names hne h0 (Ev.loc rfl) fun a3 k3 => ?_
  refine W.setNewV O' rfl cn_ccalls hne h0 (Ev.loc rfl) fun a4 k4 => ?_
  refine W.setNewV O' rfl cn_frames hne h0 (Ev.loc rfl) fun a5 k5 => ?_
  refine W.setNewV O' rfl cn_stack hne h0 (Ev.loc rfl) fun a6 k6 => ?_
  refine W.setNewV O' rfl cn_flush hne h0 (Ev.loc rfl) fun a7 k7 => ?_
  refine W.setNewV O' rfl cn_steps hne h0 (Ev.loc rfl) fun a8 k8 => ?_
  refine W.setNewV O' rfl cn_text hne h0 (Ev.loc rfl) fun a9 k9 => ?_
  exact W.done fin ⟨rfl, h x dx _ _ rfl rfl⟩
theorem limits_x (O : Ok P env (k + 2)) (h : ∀ x d es n, getL (Str.ofString "text") es = some (some (.int 1000000 219)) → getL (Str.ofString "width") es = some (some (.int 64 210)) → kk (.ref x) ((x, instObj 53 d) :: (d, dictOf es n) :: l)) : CallX P l (.ref 53) [] kk := CallX.of0 fun E => limits_w (P := { P with b := false }) ⟨O.C, O.X, O.T⟩ h
end
end
section
set_option maxHeartbeats 2000000
open PyProof.Rows.LCg PyProof.Rows.LCp
section
variable {M : Model} {A : Around} {E : Value → Shared → Prop} {s : Shared} {env : Env}
theorem nTry {body orelse : List Stmt} {h₀ : ExceptHandler} {hs : List ExceptHandler} {pos : Pos} {Q : Flow → Shared → Prop}
    (h : wpN M A (execs body env) (fun f s₁ => match f with | .next => wpAny M A (execs orelse env) Q E s₁ | f => Q f s₁)
      (fun e s₁ => wpAny M A (noteFrame e env) (fun _ s₂ => wpAny M A (setFlight e none) (fun _ s₃ => wpAny M A (handleBy e env (h₀ :: hs)) Q E s₃) E s₂) E s₁) s) :
    wpN M A (exec (.Try body (h₀ :: hs) orelse [] pos) env) Q E s := by
  rw [arm_exec_Try]
  refine wpN_bind (wpN_standAt ?_)
  unfold tryStmt
  simp only [List.isEmpty_nil, if_true, List.isEmpty_cons, Bool.false_and, Bool.false_eq_true, if_false]
  refine wpN_bind (wpN_attempt (wpN_mono h (fun f s₁ h₁ => wpN_of_wpAny ?_) fun e s₁ h₁ => wpN_of_wpAny ?_))
  · cases f <;> first | exact h₁ | exact wpAny_pure h₁
  · exact wpAny_bind (wpAny_mono h₁ (fun _ _ h₂ => wpAny_bind h₂) fun _ _ x => x)
theorem unpure {α β : Type} {v : α} {f : α → Sem β} {Q : β → Shared → Prop} (h : wpAny M A (pure v >>= f) Q E s) : wpAny M A (f v) Q E s := fun Γ p hΓ => by
  have z := h Γ p hΓ
  rw [Sem.wp_bind', Sem.wp_pure'] at z
  exact z
theorem nListComp {elt : Expr} {g : Comprehension} {scope : Scope} {pos : Pos} {Q : Value → Shared → Prop} (hg : g.is_async = 0)
    (h : wpN M A (eval g.iter env) (fun v s₁ => wpAny M A (comprehension (.ListComp elt [g] scope pos) scope env (firstIterPos [g] pos) (newList []) false (pure v)) Q E s₁) E s) :
    wpN M A (eval (.ListComp elt [g] scope pos) env) Q E s := by
  rw [eval_ListComp]
  obtain ⟨tg, it, ifs, as⟩ := g
  obtain rfl : as = 0 := hg
  show wpN M A (comprehension (.ListComp elt [⟨tg, it, ifs, 0⟩] scope pos) scope env _ (newList []) false (eval it env)) Q E s
  unfold comprehension
  refine wpN_bind (wpN_mono h (fun v s₁ h₁ => wpN_of_wpAny ?_) fun _ _ x => x)
  unfold comprehension at h₁
  exact unpure h₁
end
section
variable {prog : Program} {w : World} {A : Around} {E : Value → Shared → Prop} {s : Shared} {h₀ : Heap} {L : Addr} {m : Str → Option Value} {env : Env}
theorem comp_list {elt iter : Expr} {x x₂ : Str} {px px₂ tp pp : Pos} {tk} {scope : Scope} {cl : List (Str × Addr)} {pos : Pos} {Q : Value → Shared → Prop} {v : Value}
    (hclos : closureFor scope env = pure cl) (hcell : ∀ y ∈ scope.names, y.2 ≠ .cell) (hkind : scope.kind = .function)
    (hnames : ∀ y ∈ scope.names, y.2 = .local → scope.names.lookup y.1 = some .local) (hx : scope.names.lookup x = some .local) (hx₂ : scope.names.lookup x₂ = some .local) (hxx : x ≠ x₂)
    (h : SrcLP prog w A h₀ L m env elt x x₂ scope cl (fun s₂ => FinE h₀ L m s₂ Q) v s)
    (hs : ∀ x, foldedSetIterable iter env x = pure x := by intro _; rfl) :
    wpAny (model prog w) A (comprehension (.ListComp elt [⟨.Tuple [.Name x px, .Name x₂ px₂] tk tp, iter, [], 0⟩] scope pos) scope env pp (newList []) false (pure v)) Q E s := by
  obtain ⟨ax, its, news, rfl, hh, F, N, S, hsz, R⟩ := h
  have hl := S.list F.keep N
  have hlt : ax < s.heap.objs.size := by obtain ⟨_, e, _⟩ := hl; exact Heap.lt_size e
  have up : ∀ b o, s.heap.get? b = some o → (s.heap.push { cls := .type "list_iterator", data := .fields #[.ref ax, .int 0 0] }).get? b = some o := fun b o e => Heap.get?_push_of_some _ e
  refine wpAny_comprehension_free (use := none) rfl hs hclos hkind hnames (wpAny_pure (wpAny_pyIter_list hl ?_))
  refine block_P (Walks.list hh s.heap.objs.size ax (Nat.ne_of_lt hlt) its) hsz (fun i h st => by obtain ⟨o, e, _⟩ := st.1; exact ⟨o, e⟩) list_st hcell hkind hx hx₂ hxx hh (fun i h st => ⟨_, _, st.1⟩) ⟨⟨_, Heap.get?_push_size _ rfl, rfl, rfl⟩, hl.push _⟩ ?_
    (F.keeps up) (N.grown up) (Nat.ne_of_lt F.ns.lt) (next_is_new F) (fun p hp => Nat.ne_of_lt (Heap.lt_size (N p hp).1)) S (R _ ⟨_, rfl⟩) ?_
  · intro b hb
    show b < (s.heap.push _).objs.size
    rw [Heap.size_push]
    rcases List.mem_cons.mp hb with rfl | hb
    · exact Nat.lt_succ_self _
    · rw [List.mem_singleton.mp hb]; exact Nat.lt_succ_of_lt hlt
  · intro D C h' tk' m' ys news' F' N' o1 hn hC₀ hD₀ hCL hDL hCD offC fin
    refine ⟨m', hn, fun h'' hs'' => fin D h'' tk' (F'.change hs'' hCL hC₀) (fun p hp => ?_) o1⟩
    refine ⟨hs''.extBut _ _ ?_ (N' p hp).1, (N' p hp).2⟩
    rcases List.mem_cons.mp hp with rfl | hp
    · exact Ne.symm hCD
    · exact offC p hp
end
section
variable {prog : Program} {w : World} {A : Around} {s : Shared} {g g' : Heap} {L L' e : Addr} {m : Str → Option Value} {env env' : Env} {k : Nat}
  {mean : ExcName → Option Value} {mg mb : Str → Option Value} {Q : Flow → Shared → Prop} {E : Value → Shared → Prop}
theorem caught_c {np p1 p2 p3 : Pos} (C' : Cx A env' [env] g g' L' k) (hL : env.frame = some L) (R : Flies g g' [env', env] e s.heap) (FG : Fr g L g' m) (X : (Mine.H.hd.heap_1_1 w.params).In g) (T : TopH mean mg mb g)
    (hgl : env'.globals = mainGlobals) (hk : env'.scope.kind = .function) (hx : env'.kindOf (Str.ofString "LuaSyntaxError") = some .globalImplicit)
    (h : ∀ h', Fr g L h' m → (∀ b o, g'.get? b = some o → b ≠ L → h'.get? b = some o) → Q (.ret .none) { s with heap := h' }) :
    wpAny (model prog w) A (noteFrame (.ref e) env') (fun _ s₂ => wpAny (model prog w) A (setFlight (.ref e) none) (fun _ s₃ =>
      wpAny (model prog w) A (handleBy (.ref e) env' [.ExceptHandler (some (.Name (Str.ofString "LuaSyntaxError") np)) none [.Return (some (.Constant .none 0 p1)) p2] p3]) Q E s₃) E s₂) E s := by
  obtain ⟨⟨B, a0, hB, hBG, hfl⟩, hsl⟩ := R
  have hL' : g'.get? L' = none := C'.new
  have inB : ∀ b o, g'.get? b = some o → b ≠ L → B.get? b = some o := fun b o q nb => hBG b o q fun hm => by
    simp only [List.filterMap_cons, C'.fr, hL, List.filterMap_nil, List.mem_cons, List.not_mem_nil, or_false] at hm
    rcases hm with z | z
    · rw [z, hL'] at q; cases q
    · exact nb z
  refine wpAny_looks_onW C'.frames C'.fr hfl fun h₄ hheld₄ hsm₄ => ?_
  refine wpAny_landsW hheld₄ fun h₅ hheld hsm₅' => ?_
  have hsm₅ := hsl.trans (hsm₄.trans hsm₅')
  have F₅ : Fr g L h₅ m := FG.of_stays (fun b o q => hheld.1 _ _ (hB _ _ q)) hsm₅
  obtain ⟨ob, hob, hobc⟩ := hheld.there
  have T₅ := T.keeps F₅.keep
  have hC : h₅.get? 87 = some cls87 := (X.keeps F₅.keep) _ _ at87
  refine wpAny_handleBy_cons (codeAny_handlers_test (Calls.Name_function_global hk hx (Calls.loadGlobal_global (env := env') (by rw [hgl]; exact T₅.g) (mg_of X T.g (show nsIn (Mine.H.hd.heap_1_1 w.params) mainGlobals (Str.ofString "LuaSyntaxError") = some (some (.ref 87)) by k_is)) ?_) (by decide))) (by intro q; cases q)
  refine wpAny_excMatches_sub_self hC hob hobc (by decide) (codeAny_handlers_suite ?_)
  refine lands_againW hheld fun h₆ hfl₆ hsm₆ => ?_
  have F₆ : Fr g L h₆ m := FG.of_stays (fun b o q => hfl₆.1 _ _ (hB _ _ q)) (hsm₅.trans hsm₆)
  have K₆ := h h₆ F₆ fun b o q nb => hfl₆.1 _ _ (inB b o q nb)
  exact wpAny_execs_cons (wpAny_Return_some (wpAny_Constant_none K₆))
end
section
variable {P : Pt} {cn x : Str} {cs : Scope} {f a : Addr} {cd v : Value} {cl : List (Str × Addr)} {m : Mp} {l : Ld} {k : Nat} {e1 e2 e3 : Expr} {p1 pos : Pos} {R1 R2 : Value → Prop} {kk : Value → Ld → Prop} {E : Value → Shared → Prop}
theorem em_call3w (Fx : Fn P.w x a) (O : Ok P (envX cn cs P.L f cd cl) k) (h1 : Ev P (envX cn cs P.L f cd cl) m l e1 R1) (h2 : Ev P (envX cn cs P.L f cd cl) m l e2 R2) (h3 : Ew P (envX cn cs P.L f cd cl) m l e3 (fun t l' => ∀ v u, R1 v → R2 u → CallW P l' (.ref a) [v, u, t] kk E)) (hx : isG cs x = true := by rfl) (hz : okEs [e1, e2, e3] = true := by rfl) :
    Em P (envX cn cs P.L f cd cl) m l (.Call (.Name x p1) [e1, e2, e3] [] pos) kk E := fun hp tk H Q hQ => by
  rw [evalCall]
  refine wpB.bindA (Ev.glob O Fx.at_ hx hp tk H _ _ fun v' h' tk' hv' H' => ?_)
  subst hv'
  exact bCallWith (first := []) (backTo_any hz) Fx.kp (args_cons (h1 h' tk' H' _ _ fun v ha ta hv Ha => args_cons (h2 ha ta Ha _ _ fun u hb tb hu Hb => args_cons (h3 hb tb Hb _ _ fun t l' hc tc hk Hc => args_nil ⟨O.X.keeps Hc.F.keep, hk v u hv hu m hc tc Hc Q hQ⟩) (star1 (okEs_tail (okEs_tail hz)))) (star1 (okEs_tail hz))) (star1 hz))
end
def CaughtF (P : Pt) (env : Env) (Qf : Flow → Shared → Prop) : Prop := ∀ np p1 p2 p3 h e tk (Q : Flow → Shared → Prop) (E : Value → Shared → Prop), Flies P.base P.g (env :: P.outer) e h → (∀ s, Qf (.ret .none) s → Q (.ret .none) s) →
  wpAny P.M P.A (noteFrame (.ref e) env) (fun _ s₂ => wpAny P.M P.A (setFlight (.ref e) none) (fun _ s₃ =>
      wpAny P.M P.A (handleBy (.ref e) env [.ExceptHandler (some (.Name (Str.ofString "LuaSyntaxError") np)) none [.Return (some (.Constant .none 0 p1)) p2] p3]) Q E s₃) E s₂) E (P.S h tk)
section
variable {P : Pt} {env : Env} {k : Nat} {E : Value → Shared → Prop} {l : Ld} {name qual : Str} {params : Arguments} {body : List Stmt} {scope : Scope} {dV kV doc pm cdv ct oc : Value} {an od : Option Addr} {osl : Array (Option Value)} {f : Addr} {args : List Value} {kk : Value → Ld → Prop}
theorem call_try (binds : List (Str × Value)) (hb : P.b = true) (hbase : P.base = P.g) (hout : P.outer = []) (O : Ok P env (k + 1))
    (ho : (Mine.H.hd.heap_1_1 P.w.params).lookup f = some ⟨oc, od, .func (fnOf name qual params body scope dV kV doc pm an cdv ct), osl⟩) (hcd : codeIn (Mine.H.hd.heap_1_1 P.w.params) cdv qual = true)
    (hbind : ∀ s, BindsTo s (fnOf name qual params body scope dV kV doc pm an cdv ct) ⟨args, []⟩ binds) (hs : okDef scope (binds.map (·.1)) = true)
    (hx : scope.names.lookup (Str.ofString "LuaSyntaxError") = some .globalImplicit)
    (walk : ∀ P' : Pt, P'.b = true → Into P P' l → Ok P' (envX qual scope P'.L f cdv []) k → ∀ Qf Ef, Fin P' kk l Qf → (kk .none l → CaughtF P' (envX qual scope P'.L f cdv []) Qf) → W P' (envX qual scope P'.L f cdv []) (fun y => binds.reverse.lookup y) [] body Qf Ef) : CallW P l (.ref f) args kk E := by
  obtain ⟨b, prog, w, A, base, outer, g, L, mean, mg, mb, s⟩ := P
  dsimp only at hb hbase hout
  subst hb hbase hout
  obtain ⟨hco, hgen, hk, hloc, hcell⟩ := okDef_parts hs
  intro m hp tk H Q hQ
  refine wpB.of_n (wpN_call (enterN (K := (Mine.H.hd.heap_1_1 w.params)) [] binds O.C H.F H.N (fun _ _ h => nomatch h) (Top.nolimit O.T) O.X ho hcd (hbind _) hloc (fun g' L' h₁ tk₁ F' N' st X' C' FG rs ret => ?_) hcell hco hgen hk))
  exact (walk ⟨true, prog, w, A.deeper (envX qual scope L' f cdv []), base, [env], g', L', mean, mg, mb, s⟩ rfl ⟨rfl, rfl, rfl, st, rs⟩ ⟨C', X', O.T.keeps st⟩ _ _
    (fun fl m' l' h' tk' H' hkk => have R := ret _ _ _ _ H'.F H'.N; hQ _ _ _ _ hkk ⟨R.1, R.2⟩)
    (fun hn np p1 p2 p3 h' e tk' Q2 E2 R hq2 => caught_c (s := ⟨h', _, _, _, _⟩) C' O.C.fr R FG O.X O.T rfl hk hx fun h2 F2 hkp => hq2 _ (hQ _ l h2 _ hn ⟨F2, fun q hq => ⟨hkp _ _ (rs q hq) (H.N q hq).2.1, (H.N q hq).2.1, (H.N q hq).2.2⟩⟩)) h₁ tk₁ ⟨F', N'⟩).to_n
end
theorem Em.at_ {P : Pt} {env : Env} {m : Mp} {l : Ld} {e : Expr} {kk : Value → Ld → Prop} {E : Value → Shared → Prop} {hp : Heap} {tk : Nat} {Q : Value → Shared → Prop} (h : Em P env m l e kk E) (H : Led P m l hp) (hQ : ∀ v l' h' tk', kk v l' → Led P m l' h' → Q v (P.S h' tk')) : wpB P.b P.M P.A (eval e env) Q E (P.S hp tk) := h hp tk H Q hQ
section
variable {P : Pt} {env : Env} {k : Nat} {E : Value → Shared → Prop} {l : Ld} {kk : Value → Ld → Prop} {tx : Bs}
theorem heard_w (hb : P.b = true) (hbase : P.base = P.g) (hout : P.outer = []) (O : Ok P env (k + 18)) (hz : tx.length ≤ 90) (h1 : ∀ a ys rl is, heard tx = some is → ItsIn rl ys is → (∀ q ∈ rl, q.2.cls = .type "tuple") → kk (.ref a) ((a, LCg.lst ys) :: (rl ++ l))) (h0 : heard tx = none → kk .none l) : ∀ v, Y tx v → CallW P l (.ref 502) [v] kk E := by
  rintro _ ⟨t, rfl⟩
  refine' call_try [(Str.ofString "text", .bytes tx.toArray t)] hb hbase hout O ?k1 ?k2 ?k3 ?k4 ?k5 ?_
  walk_at "sides"
  case k5 => rfl
  intro P' hb' J O' Qf Ef fin caught h₁ tk₁ H₁
  rw [hb']
  refine wpB.of_n (nCons (nTry (nCons (nReturn (nListComp rfl (wpB.to_n (Em.at_ (l := []) (kk := fun v l' => ∃ a vs ts pl other, v = .ref a ∧ toks tx = some ts ∧ PairsAt pl vs ts ∧ l' = (a, listOf vs.toArray vs.length) :: (pl ++ other)) ?em H₁ ?cont)))))))
  case em =>
    refine em_call3w (R1 := Y tx) (R2 := Y [61, 108, 97, 119]) fn_all_tokens O' (Ev.mono (Ev.loc rfl) fun v q => ⟨t, q⟩) ev_bytes (ew_call0 fn_Limits O' (limits_x O' fun x d es n e1 e2 v u hv hu => ?_))
    exact all_w hb' O' ⟨es, n, .head _, .tail _ (.head _), e1, e2⟩ hz (fun a vs ts pl hts hp => ⟨a, vs, ts, pl, _, rfl, hts, hp, rfl⟩) (fun hno h' e tk' R => by refine caught (h0 (by unfold heard; rw [hno]; rfl)) _ _ _ _ h' e tk' _ _ R ?_; exact fun _ x => x) v u _ hv hu rfl
  case cont =>
    rintro _ _ h' tk' ⟨a, vs, ts, pl, other, rfl, hts, hp, rfl⟩ H'
    have hlen := hp.len
    refine comp_list (cl := []) (closureFor_none (by decide)) (by decide) rfl (by decide) rfl rfl (by decide) (SrcLP.ledger O'.C.handled H'.F H'.N (.head _) (by rw [List.size_toArray, sizeLine_eq]; have := toks_short hz hts; omega) fun g₁ => ?_)
    rw [List.size_toArray]
    refine restP (P := P') (h0 := g₁) (t0 := tk') (fun i ys news => ∃ rl, ItsIn rl ys ((ts.take i).map plainI) ∧ (∀ q ∈ rl, q.2.cls = .type "tuple") ∧ news = rl ++ (a, listOf vs.toArray vs.length) :: (pl ++ other)) ?fin ?turn vs.length 0 [] _ (Nat.zero_add _) ⟨[], .nil, List.forall_mem_nil _, rfl⟩
    case fin =>
      rintro ys _ ⟨rl, hy, hr, rfl⟩ D h2 tk2 F2 N2 _
      rw [hlen, List.take_length] at hy
      exact fin _ _ ((D, lst ys) :: rl) h2 _ ⟨F2, fun q hq => N2 q (by
        rcases List.mem_cons.mp hq with rfl | hq
        · exact .head _
        · exact .tail _ (List.mem_append_left _ hq))⟩ (h1 _ _ _ _ (by unfold heard; rw [hts]; rfl) hy hr)
    case turn =>
      rintro i ys _ v ⟨rl, hy, hr, rfl⟩ hv
      obtain ⟨⟨k0, v0⟩, hti, p, t, u, nn, rfl, hm, hu⟩ := hp.get i hv
      refine ⟨p, _, u, nn, rfl, List.mem_append_right _ (.tail _ (List.mem_append_left _ hm)), fun I0 oI C oC D m2 hoC hx hx2 off => ?_⟩
      have hwf : WfT (k0, v0) := wf_toks _ (Nat.le_refl _) hts _ (List.mem_of_getElem? hti)
      refine ew_callG (a := 497) (by k_is) O'.X (ev_globC O' (by k_is)) (evs2 (R1 := I k0) (Ev.mono (ev_own (.tail _ (.head _)) hoC hx) fun v q => ⟨t, q⟩) (ev_own (.tail _ (.head _)) hoC hx2) rfl) (fun us hus => ?_) rfl
      obtain ⟨v, w, rfl, hv, rfl⟩ := hus
      refine plain_x O' hwf hu (fun r pn hri hcl => ⟨pn ++ (rl ++ (a, listOf vs.toArray vs.length) :: (pl ++ other)), fun q hq => ?_, Off3.of fun q hq => ?_, .inr ⟨_, List.mem_append_right _ (List.mem_append_right _ (.head _)), rfl, _, rfl⟩, pn ++ rl, ?_, ?_, (List.append_assoc _ _ _).symm⟩) v hv
      · rcases List.mem_cons.mp hq with rfl | hq
        · exact List.mem_append_right _ (.head _)
        rcases List.mem_cons.mp hq with rfl | hq
        · exact List.mem_append_right _ (.tail _ (.head _))
        rcases List.mem_cons.mp hq with rfl | hq
        · exact List.mem_append_right _ (.tail _ (.tail _ (.head _)))
        rcases List.mem_append.mp hq with hq | hq
        · exact List.mem_append_left _ hq
        · exact List.mem_append_right _ (.tail _ (.tail _ (.tail _ hq)))
      · rcases List.mem_append.mp hq with hq | hq
        · have z := (hcl q hq).2
          exact ⟨z _ (.head _), z _ (.tail _ (.head _)), z _ (.tail _ (.tail _ (.head _)))⟩
        · exact off.mem q hq
      · rw [List.take_add_one, hti, List.map_append]
        exact (hy.mono fun q hq => List.mem_append_right _ hq).snoc (hri.mono fun q hq => List.mem_append_left _ hq)
      · intro q hq
        rcases List.mem_append.mp hq with hq | hq
        · exact (hcl q hq).1
        · exact hr q hq
end
end
section
set_option maxHeartbeats 2000000
section
variable {P : Pt} {cn x z : Str} {cs : Scope} {f : Addr} {cd v : Value} {cl : List (Str × Addr)} {m : Mp} {l l2 : Ld} {k n : Nat} {e e1 e2 : Expr} {p1 p2 p3 pos : Pos} {E : Value → Shared → Prop} {Q : Flow → Shared → Prop} {rest : List Stmt} {env : Env} {d al : Addr} {o : Obj} {kvs : List (Str × Value)} {i j : Int} {xs : List Value} {ns : List Int} {R : Value → Prop}
theorem list_IsList {h : Heap} {L : Addr} {g : Heap} {c : Nat} (N : News g L h l) (hm : (al, listOf xs.toArray c) ∈ l) : h.IsList al xs.toArray := ⟨_, (N _ hm).1, rfl, c, rfl⟩
theorem ev_key (hm : (d, o) ∈ l) (ho : o.IsDictOf (strKind P.prog P.w) kvs) (h1 : Ev P env m l e (V (.ref d))) (hv : valueAt kvs x = some v)
    (hs : ∀ t, subscripted (.Constant (.str x) n p1) false (.ref d) (.str x t) = operate [.ref d, .str x t] (getItem (.ref d) (.str x t)) := by intro _; with_unfolding_all rfl) (hg : ∀ r, letTemporaryGo e (.ref d) r = pure () := by intro _; with_unfolding_all rfl) :
    Ev P env m l (.Subscript e (.Constant (.str x) n p1) pos) (V v) := fun hp tk H Q E hQ => Subscript_ (h1 hp tk H _ _ fun v1 ha ta q Ha => Constant_str (by
      subst q
      exact kda_item (s := P.S ha (ta + 1)) (key := .str x ta) Ha.N hm ho (strKind_is P.prog P.w x ta) hv (hQ _ ha _ rfl Ha) (hs ta) hg))
theorem W.setKeyS (ho : o.IsDictOf (strKind P.prog P.w) kvs) (ha : Ev P (envX cn cs P.L f cd cl) m ((d, o) :: l2) e (I i)) (h2 : ∀ p ∈ l2, p.1 ≠ d) (h1 : Ev P (envX cn cs P.L f cd cl) m ((d, o) :: l2) e1 (V (.ref d))) (hsz : kvs.length ≤ 100)
    (h : ∀ t o', o'.IsDictOf (strKind P.prog P.w) (stored kvs x (.int i t)) → W P (envX cn cs P.L f cd cl) m ((d, o') :: l2) rest Q E)
    (hs : swapsWith e (some (.Subscript e1 (.Constant (.str x) n p1) p2)) pos.line (envX cn cs P.L f cd cl) = pure false := by rfl) : W P (envX cn cs P.L f cd cl) m ((d, o) :: l2) (.Assign [.Subscript e1 (.Constant (.str x) n p1) p2] e pos :: rest) Q E :=
  W.consA fun hp tk H => wpAny_Assign_Subscript (ha hp tk H _ _ fun v ha ta ⟨t, q⟩ Ha => h1 ha ta Ha _ _ fun v2 hb tb q2 Hb => Constant_str (by
    subst q q2
    exact kda_set (s := P.S hb (tb + 1)) (key := .str x tb) Hb.F Hb.N (.head h2) ho (strKind_is P.prog P.w x tb) (Nat.le_trans hsz (by rw [sizeLine_eq]; decide)) fun h4 o4 F4 N4 hd4 => h t o4 hd4 h4 _ ⟨F4, N4⟩)) hs
theorem ev_lenL (O : Ok P (envX cn cs P.L f cd cl) k) (h1 : Ev P (envX cn cs P.L f cd cl) m l e1 (V (.ref al))) (hl : ∀ h, Led P m l h → h.IsList al xs.toArray) (hz : xs.length ≤ 100000) (hx : isG cs (Str.ofString "len") = true := by rfl) (ho : okEs [e1] = true := by rfl) :
    Ev P (envX cn cs P.L f cd cl) m l (.Call (.Name (Str.ofString "len") p1) [e1] [] pos) (I xs.length) := fun hp tk H Q E hQ => by
  refine Call_ (Ev.blt bn_len O hx hp tk H _ _ fun v' h' tk' hv' H' => ?_) evalCall
  subst hv'
  refine wpB.to_any (bCallWithP (b := false) (first := []) (backTo_any ho) (bn_len (w := P.w)).kp (evs1 h1 ho h' tk' pos H' _ _ fun vs h2 t2 ⟨v, e, hv⟩ H2 => wpB.of_any ?_))
  subst e hv
  exact call_len_list (s := P.S h2 t2) (hl _ H2) (by rw [List.size_toArray]; omega) (hQ _ h2 _ ⟨_, by rw [List.size_toArray]⟩ H2)
theorem ev_item (h1 : Ev P env m l e1 (V (.ref al))) (h2 : Ev P env m l e2 (I i)) (hl : ∀ h, Led P m l h → h.IsList al xs.toArray) (hz : xs.length ≤ 100000) (h0 : 0 ≤ i) (hi : i < (xs.length : Int)) (hv : xs[i.toNat]? = some v)
    (hs : ∀ u, subscripted e2 false (.ref al) (.int i u) = operate [.ref al, .int i u] (getItem (.ref al) (.int i u)) := by intro _; with_unfolding_all rfl) : Ev P env m l (.Subscript e1 e2 pos) (V v) := fun hp tk H Q E hQ =>
  Subscript_ (h1 hp tk H _ _ fun v1 ha ta q Ha => h2 ha ta Ha _ _ fun u hb tb ⟨t, q'⟩ Hb => by
    subst q q'
    exact tail_any (s := P.S hb tb) (hl _ Hb).typeIs slot_list_getitem.lookup (wpAny_getItem_list (hl _ Hb) h0 (by omega) (by simpa using hv) (hQ _ hb _ rfl Hb)) (hs t))
end
theorem mul_okS {a b : Int} (h : a.natAbs < 2 ^ 20) (h2 : b.natAbs < 2 ^ 20) : IntMulOk a b := IntMulOk.of_le (intBits_le_iff.mpr h) (intBits_le_iff.mpr h2) (by decide)
section
variable {P : Pt} {env : Env} {k : Nat} {rest : Ld} {kk : Value → Ld → Prop} {b al : Addr} {o : Obj} {xs : List Value} {ns : List Int} {n2 : Nat} {i M : Int} {t : Tok}
theorem told_x (O : Ok P env (k + 2)) (hc : ∀ q ∈ rest, q.1 ≠ b) (hal : (al, listOf xs.toArray n2) ∈ rest) (hb : o.IsDictOf (strKind P.prog P.w) [(Str.ofString "all", .ref al), (Str.ofString "at", .int i t)]) (hi : IntsAre xs ns) (hx : xs.length ≤ 6) (h0 : 0 ≤ i ∧ i ≤ 10) (hM : 2 ≤ M ∧ M ≤ 20)
    (h : ∀ v t' t'' o', 0 ≤ v → v < M → o'.IsDictOf (strKind P.prog P.w) [(Str.ofString "all", .ref al), (Str.ofString "at", .int (i + 1) t')] → kk (.int v t'') ((b, o') :: rest)) : ∀ u, I M u → CallX P ((b, o) :: rest) (.ref 483) [.ref b, u] kk := by
  rintro _ ⟨u, rfl⟩
  refine CallX.of0 fun E => ?_
  refine' call_def (P := { P with b := false }) [(b, o)] [(Str.ofString "bag", .ref b), (Str.ofString "many", .int M u)] ⟨O.C, O.X, O.T⟩ (fun _ _ _ q hq hm => hc q hq (List.mem_singleton.mp hm)) ?k1 ?k2 ?k3 ?k4 ?_
  walk_at "sides"
  intro P' J O' Qf Ef fin esc
  have hb' : o.IsDictOf (strKind P'.prog P'.w) [(Str.ofString "all", .ref al), (Str.ofString "at", .int i t)] := J.prog ▸ J.w ▸ hb
  have hl : ∀ {m l} h, Led P' m l h → h.IsList al xs.toArray := fun h H => ⟨_, H.F.keep _ _ (J.rs _ hal), rfl, n2, rfl⟩
  have end_ : ∀ {v : Int} {t' : Tok} {o' : Obj}, 0 ≤ v → v < M → o'.IsDictOf (strKind P'.prog P'.w) [(Str.ofString "all", .ref al), (Str.ofString "at", .int (i + 1) t')] → ∀ t'', kk (.int v t'') ([(b, o')] ++ rest) := fun h1 h2 h3 t'' => h _ _ t'' _ h1 h2 (by rw [J.prog, J.w] at h3; exact h3)
  refine W.setKeyS (i := i + 1) hb' (ev_add (Ev.i (ev_key (.head _) hb' (Ev.loc rfl) rfl)) ev_int) (fun _ h => nomatch h) (Ev.loc rfl) (Nat.le_of_ble_eq_true rfl) fun t1 o1 ho1 => ?_
  replace ho1 : o1.IsDictOf (strKind P'.prog P'.w) [(Str.ofString "all", .ref al), (Str.ofString "at", .int (i + 1) t1)] := ho1
  refine W.asgI (Ev.i (ev_key (.head _) ho1 (Ev.loc rfl) rfl)) fun t2 => ?_
  refine W.ifs (et_le (Ev.i (Ev.loc rfl)) (ev_lenL O' (ev_key (.head _) ho1 (Ev.loc rfl) rfl) hl (by omega))) (fun hp => ?_) fun hn => ?_
  · have hj : (i + 1 - 1).toNat < xs.length := by omega
    obtain ⟨y, ty, e, _⟩ := hi.at _ _ (List.getElem?_eq_getElem hj)
    refine W.retI fin.r (ev_bin (R1 := I y) (Ev.mono (ev_item (ev_key (.head _) ho1 (Ev.loc rfl) rfl) (ev_sub (Ev.i (Ev.loc rfl)) ev_int) hl (by omega) (by omega) (by omega) (List.getElem?_eq_getElem hj)) fun v q => ⟨ty, q.trans e⟩) (Ev.i (Ev.loc rfl)) (bin_mod (by omega))) (end_ (Int.fmod_nonneg_of_pos _ (by omega)) (Int.fmod_lt_of_pos _ (by omega)) ho1)
  · refine W.retI fin.r (ev_bin (ev_add (ev_bin ev_int (Ev.i (Ev.loc rfl)) (bin_mul (mul_okS (by decide) (by omega)))) (ev_bin (ev_bin (Ev.i (Ev.loc rfl)) (Ev.i (Ev.loc rfl)) (bin_mul (mul_okS (by omega) (by omega)))) ev_int (bin_fdiv (by decide) (PyProof.noPylong_small (by decide))))) (Ev.i (Ev.loc rfl)) (bin_mod (by omega))) (end_ (Int.fmod_nonneg_of_pos _ (by omega)) (Int.fmod_lt_of_pos _ (by omega)) ho1)
end
end
section
open Builtin
theorem slot_by_join : Slot "bytes" "join" "bytes.join" :=
  .of (owner := "bytes") (n := "join") (by rw [typeLookup_type, builtinLookup_eq_fast]; kernel_rfl) (by decide +kernel) (by decide +kernel) (by decide +kernel)
    (by first | exact .inl (by decide +kernel) | exact .inr (by decide +kernel)) (by rw [isSubtype_type]; kernel_rfl)
theorem entry_by_join : entryFor table "bytes.join" = some Builtin.«bytes.join» := entryFor_of_tree (by kernel_rfl)
theorem args_by_join (a b : Value) : argsOk "bytes.join" ⟨[a, b], []⟩ := by unfold argsOk; kernel_rfl
theorem type_by_join : typeOf (.builtin "bytes.join") = pure (.type "method_descriptor") := by show builtinType _ = _; rw [builtinType_eq_fast]; kernel_rfl
section
variable {prog : Program} {w : World} {A : Around} {E : Value → Shared → Prop} {s : Shared}
theorem meth_join {b : Array UInt8} {t : Tok} {pl : Sem Bool} {Q : Value × List Value → Shared → Prop} (h : Q (.builtin "bytes.join", [.bytes b t]) s) : wpAny (model prog w) A (getMethod (.bytes b t) "join" pl) Q E s :=
  getMethod_builtin (PySem.W.typeIs_bytes _ _ _) FB.plainAttrs_bytes slot_by_join type_by_join (fun _ e => nomatch e) h
inductive BytesAre : List Value → List (List UInt8) → Prop
  | nil : BytesAre [] []
  | cons {v vs b bs} : (∃ t, v = .bytes (List.toArray b) t) → BytesAre vs bs → BytesAre (v :: vs) (b :: bs)
theorem tbq {id : String} {b : Array UInt8} {t : Tok} : Bytes.takeBufferQuiet? id (.bytes b t) 0 = pure (some (b, none)) := by
  unfold Bytes.takeBufferQuiet? Bytes.takeBuffer?
  rw [KBy.special_eq KBy.look_buffer, KBy.own_buffer]
  simp only [show ((0 : Int) == Bytes.fullReadOnly) = false from rfl, KBy.buffer_eq]
  kernel_rfl
theorem m1 {motive : Array Value → Sort u} {items : Array Value} {h1 : (x : Value) → motive #[x]} {h2 : (x : Array Value) → motive x} (h : items.size ≠ 1) : Bytes.joinM.match_1 motive items h1 h2 = h2 items := by
  delta Bytes.joinM.match_1
  dsimp only
  rw [dif_neg h]
theorem BytesAre.len : ∀ {vs : List Value} {bs : List (List UInt8)}, BytesAre vs bs → vs.length = bs.length
  | _, _, .nil => rfl
  | _, _, .cons _ r => by rw [List.length_cons, List.length_cons, r.len]
theorem BytesAre.get : ∀ {vs : List Value} {bs : List (List UInt8)} (i : Nat), BytesAre vs bs → i < vs.length → ∃ b t, bs[i]? = some b ∧ vs[i]? = some (.bytes b.toArray t)
  | _, _, i, .nil, h => by simp at h
  | _, _, 0, .cons ⟨t, e⟩ r, _ => ⟨_, t, rfl, by rw [e]; rfl⟩
  | _, _, i + 1, .cons _ r, h => r.get i (by simpa using h)
theorem BytesAre.flat : ∀ {vs : List Value} {bs : List (List UInt8)}, BytesAre vs bs → ∀ v ∈ vs, v.onHeap = false
  | _, _, .nil => fun _ h => nomatch h
  | _, _, .cons ⟨t, e⟩ r => fun v h => by
    rcases List.mem_cons.mp h with rfl | h
    · rw [e]; rfl
    · exact r.flat v h
theorem fold_le : ∀ (l : List (Array UInt8)) (n : Nat), (∀ p ∈ l, p.size ≤ 100) → l.foldl (fun x p => x + p.size) n ≤ n + 100 * l.length
  | [], n, _ => Nat.le_refl _
  | p :: l, n, h => by
    have h1 := fold_le l (n + p.size) fun q hq => h q (.tail _ hq)
    have h2 := h p (.head _)
    rw [List.foldl_cons, List.length_cons]; omega
theorem joinGo_le (sep : Array UInt8) (hs : sep.size ≤ 100) : ∀ (l : List (Array UInt8)) (k : Nat) (out : Array UInt8), (∀ p ∈ l, p.size ≤ 100) →
    ((l.zipIdx k).foldl (fun out (q : Array UInt8 × Nat) => (if q.2 > 0 then out ++ sep else out) ++ q.1) out).size ≤ out.size + 200 * l.length
  | [], k, out, _ => Nat.le_refl _
  | p :: l, k, out, h => by
    have h2 := h p (.head _)
    have h1 := joinGo_le sep hs l (k + 1) ((if k > 0 then out ++ sep else out) ++ p) fun q hq => h q (.tail _ hq)
    rw [List.zipIdx_cons, List.foldl_cons, List.length_cons]
    refine Nat.le_trans h1 ?_
    split <;> simp only [Array.size_append] <;> omega
theorem joined_le (sep : Array UInt8) (l : List (Array UInt8)) (hs : sep.size ≤ 100) (h : ∀ p ∈ l, p.size ≤ 100) : (Bytes.joined sep l).size ≤ 200 * l.length := by
  have := joinGo_le sep hs l 0 #[] h
  simpa [Bytes.joined] using this
theorem letGo_flat {Q : Unit → Shared → Prop} (keep : List Value) : ∀ (vs : List Value) {s : Shared}, Q () s → wpAny (model prog w) A (Bytes.joinLetGo (vs.map fun v => (v, none)) keep) Q E s
  | [], s, h => by rw [List.map_nil, Bytes.joinLetGo]; exact wpAny_pure h
  | v :: vs, s, h => by
    rw [List.map_cons, Bytes.joinLetGo]
    case x_2 => exact fun _ e => nomatch e
    dsimp only
    refine wpAny_bind ?_
    show wpAny _ _ (letGo [v] _) _ _ _
    rw [letGo]
    refine wpAny_bind (wpAny_holding (wpAny_point ?_))
    rw [letGo]
    exact wpAny_pure (letGo_flat keep vs h)
theorem by_join {a : Addr} {vs : List Value} {bs : List (List UInt8)} {n : Nat} {sep : List UInt8} {t : Tok} {Q : Value → Shared → Prop} (hl : s.heap.get? a = some (listOf vs.toArray n)) (hb : BytesAre vs bs) (h2 : 2 ≤ vs.length) (hz : ∀ b ∈ bs, b.length ≤ 100) (hn : vs.length ≤ 100) (hs : sep.length ≤ 100)
    (h : ∀ t tk, Q (.bytes (Bytes.joined sep.toArray (bs.map List.toArray)) t) { s with toks := tk }) :
    wpAny (model prog w) A (call (.builtin "bytes.join") [.bytes sep.toArray t, .ref a]) Q E s := by
  have hT : s.TypeIs (.bytes sep.toArray t) "bytes" := PySem.W.typeIs_bytes _ _ _
  refine wpAny_call_entry slot_by_join hT entry_by_join ?_ (args_by_join _ _)
  unfold Builtin.«bytes.join» Bytes.joinM
  dsimp only
  refine wpAny_bind ?_
  refine wpAny_of_eq (a := (Value.bytes sep.toArray t, Value.ref a)) rfl ?_
  dsimp only
  obtain ⟨hp, g, d, tk, os⟩ := s
  have hl' : hp.get? a = some { cls := .type "list", data := .seq vs.toArray n } := hl
  wp_walk using AutoSeq1.wpAny_loadPart' hl'
  have hsz : vs.toArray.size = vs.length := List.size_toArray
  rw [m1 (by rw [hsz]; omega)]
  rw [Std.Legacy.Range.forIn_eq_forIn_range']
  have hlen := hb.len
  obtain ⟨Inv, inv_in, inv_out⟩ : ∃ Inv : List Nat → Prod (Array (Array UInt8)) (List (Value × Option Value)) → Shared → Prop, (∀ i, i ≤ vs.length → Inv (List.range' i (vs.length - i) 1) (((bs.take i).map List.toArray).toArray, (vs.take i).map (fun v => (v, (none : Option Value)))) ⟨hp, g, d, tk, os⟩) ∧
      ∀ rest st s', Inv rest st s' → ∃ i, rest = List.range' i (vs.length - i) 1 ∧ i ≤ vs.length ∧ st = (((bs.take i).map List.toArray).toArray, (vs.take i).map (fun v => (v, (none : Option Value)))) ∧ s' = ⟨hp, g, d, tk, os⟩ :=
    ⟨_, fun i hi => ⟨i, rfl, hi, rfl, rfl⟩, fun _ _ _ h => h⟩
  refine wpAny_bind (wpAny_forIn_list _ Inv _ ?turn ?fin _ _ ?h)
  case h =>
    refine Eq.mp (congrArg (fun r => Inv r _ _) ?_) (inv_in 0 (Nat.zero_le _))
    simp [Std.Legacy.Range.size]
  case turn =>
    intro x rest st s' hI
    obtain ⟨i, hr, hi, rfl, rfl⟩ := inv_out _ _ _ hI
    clear hI inv_out
    have hlt : i < vs.length := by
      rcases Nat.lt_or_ge i vs.length with h | h
      · exact h
      · rw [show vs.length - i = 0 by omega] at hr; cases hr
    rw [show vs.length - i = (vs.length - (i + 1)) + 1 by omega, List.range'_succ] at hr
    injection hr with hx hr
    subst hx hr
    obtain ⟨b, u, hbi, hvi⟩ := hb.get x hlt
    have hget : vs.toArray.getD x Value.none = .bytes b.toArray u := by
      rw [Array.getD_eq_getD_getElem?, List.getElem?_toArray, hvi]; rfl
    have hany : ((vs.take x).map fun v => (v, (none : Option Value))).any (fun q => q.1.onHeap) = false := by
      rw [List.any_eq_false]
      intro q hq
      obtain ⟨v, hv, rfl⟩ := List.mem_map.mp hq
      rw [hb.flat v (List.mem_of_mem_take hv)]
      exact Bool.false_ne_true
    refine wpAny_bind (wpAny_seqItems hl' rfl ?_)
    dsimp only
    rw [hany, if_neg (by decide), hget]
    refine wpAny_bind (wpAny_holding (wpAny_of_eq tbq ?_))
    dsimp only
    refine wpAny_bind (wpAny_seqItems hl' rfl ?_)
    dsimp only
    rw [if_neg (by simp)]
    have e1 : (List.map List.toArray (List.take x bs)).toArray.push b.toArray = ((bs.take (x + 1)).map List.toArray).toArray := by rw [List.take_add_one, hbi]; simp
    have e2 : List.map (fun v => (v, (none : Option Value))) (List.take x vs) ++ [(Value.bytes b.toArray u, none)] = (vs.take (x + 1)).map (fun v => (v, (none : Option Value))) := by rw [List.take_add_one, hvi]; simp
    have z := inv_in (x + 1) hlt
    rw [← e1, ← e2] at z
    exact wpAny_pure z
  case fin =>
    intro st s' hI
    obtain ⟨i, hr, hi, rfl, rfl⟩ := inv_out _ _ _ hI
    clear hI inv_in inv_out
    obtain rfl : i = vs.length := by
      rcases Nat.lt_or_ge i vs.length with h | h
      · rw [show vs.length - i = (vs.length - (i + 1)) + 1 by omega, List.range'_succ] at hr; cases hr
      · omega
    rw [show vs.length = bs.length from hlen, List.take_length, show vs.take bs.length = vs by rw [← hlen]; exact List.take_length]
    dsimp only
    have hp1 : ∀ p ∈ bs.map List.toArray, p.size ≤ 100 := fun p hp => by
      obtain ⟨q, hq, rfl⟩ := List.mem_map.mp hp
      rw [List.size_toArray]; exact hz q hq
    refine wpAny_bind (wpAny_of_eq (a := sep.toArray) rfl ?_)
    have h1 := fold_le (bs.map List.toArray) (sep.toArray.size * ((bs.map List.toArray).toArray.size - 1)) hp1
    have h3 := joined_le sep.toArray (bs.map List.toArray) (by rw [List.size_toArray]; exact hs) hp1
    have hbl : (bs.map List.toArray).length ≤ 100 := by rw [List.length_map, ← hlen]; exact hn
    have hmul : sep.toArray.size * ((bs.map List.toArray).toArray.size - 1) ≤ 100 * 100 := Nat.mul_le_mul (by rw [List.size_toArray]; exact hs) (by rw [List.size_toArray]; omega)
    rw [if_neg (by
      rw [KBy.tooLong_not]; decide
      rw [← Array.foldl_toList]
      show List.foldl _ _ (bs.map List.toArray) ≤ _
      omega)]
    refine wpAny_bind ?_
    show wpAny _ _ (mkBytes (Bytes.joined sep.toArray (bs.map List.toArray))) _ _ _
    refine wpAny_mkBytes (hb := by rw [sizeLine_eq]; omega) ?_
    refine wpAny_bind (wpAny_holding (wpAny_point ?_))
    refine wpAny_bind (letGo_flat _ _ ?_)
    exact wpAny_pure ⟨_, rfl, h _ _⟩
end
end
section
set_option maxHeartbeats 4000000
section
variable {M : Model} {A : Around} {s : Shared}
theorem codeN_loop' {c : Code} {R : Result → Shared → Prop} (hok : okCode c = true) (hq : c.quiet = true) (I : Nat → Shared → Prop)
    (turn : ∀ n s, I n s → wpN M (A.under c) (M.den c)
      (fun fin s' => match fin with
        | .done f => R (.ok f) s'
        | .again c' => (c' = c ∧ ∃ m, m < n ∧ I m s') ∨ (c'.quiet = true ∧ codeN M A c' R s')) (fun e s' => R (.error e) s') s)
    (n : Nat) (h : I n s) : codeN M A c R s := by
  induction n using Nat.strongRecOn generalizing s with
  | ind n ih =>
    refine codeN_of_tree hok (wpN_mono (turn n s h) (fun fin s' hf => ?_) fun _ _ h' => h')
    cases fin with
    | done f => exact hf
    | again c' =>
      rcases hf with ⟨rfl, m, hm, hI⟩ | hf
      · exact ⟨hq, ih m hm hI⟩
      · exact hf
end
section
variable {prog : Program} {w : World} {A : Around} {s : Shared} {R : Result → Shared → Prop} {env : Env} {E : Value → Shared → Prop}
theorem codeN_forLoop {target : Expr} {it : Value} {body orelse : List Stmt} (I : Nat → Shared → Prop)
    (turn : ∀ n s, I n s → wpAny (model prog w) A (pyNext it) (fun r s₁ => match r with
      | none => wpAny (model prog w) A (execs orelse env) (fun f s₃ => R (.ok f) s₃) (notedBy (model prog w) A env fun e s' => R (.error e) s') s₁
      | some v => wpAny (model prog w) A (letOwnedTupleGo target it v) (fun _ s₁' => wpAny (model prog w) A (assign target env v) (fun _ s₂ => wpN (model prog w) A (execs body env) (fun f s₃ => match f with
          | .next | .cont => ∃ m, m < n ∧ I m s₃
          | .brk => R (.ok .next) s₃
          | .ret v => R (.ok (.ret v)) s₃) (notedBy (model prog w) A env fun e s' => R (.error e) s') s₂) (notedBy (model prog w) A env fun e s' => R (.error e) s') s₁') (notedBy (model prog w) A env fun e s' => R (.error e) s') s₁) (notedBy (model prog w) A env fun e s' => R (.error e) s') s)
    (n : Nat) (h : I n s) : codeN (model prog w) A (.forLoop target it body orelse env) R s := by
  refine codeN_loop' rfl rfl I (fun n s hI => ?_) n h
  show wpN _ A ((forTurn target it body orelse env).onRaise (fun x => do noteFrame x env; theTreesLotGoes x)) _ _ s
  refine nNoted ?_
  simp only [forTurn]
  refine wpN_bind (wpN_standAt (wpN_bind (wpN_of_wpAny (wpAny_onRaise (wpAny_mono (turn n s hI) (fun r s₁ h₁ => ?_) fun _ _ h' => wpAny_standAt h')))))
  cases r with
  | none => exact wpN_pure (.inr ⟨rfl, codeN_of_codeAny (codeAny_block h₁)⟩)
  | some v =>
    refine wpN_bind (wpN_of_wpAny (wpAny_mono h₁ (fun _ s₁' h₁' => ?_) fun _ _ h' => h'))
    refine wpN_bind (wpN_of_wpAny (wpAny_mono h₁' (fun _ s₂ h₂ => wpN_bind (wpN_mono h₂ (fun f s₃ h₃ => ?_) fun _ _ h' => h')) fun _ _ h' => h'))
    cases f with
    | next => exact wpN_pure (.inl ⟨rfl, h₃⟩)
    | cont => exact wpN_pure (.inl ⟨rfl, h₃⟩)
    | brk => exact wpN_pure h₃
    | ret v => exact wpN_pure h₃
theorem nFor {target iter : Expr} {body orelse : List Stmt} {pos : Pos} {Q : Flow → Shared → Prop}
    (h : wpAny (model prog w) A (eval iter env) (fun x s₁ => wpAny (model prog w) A (pyIter x) (fun it s₂ =>
      codeN (model prog w) A (.forLoop target it body orelse env) (fun r s' => match r with | .ok f => Q f s' | .error e => cameBackBy (model prog w) A env E e s') s₂) E s₁) E s)
    (hs : ∀ x, foldedSetIterable iter env x = pure x := by intro _; rfl) :
    wpN (model prog w) A (exec (.For target iter body orelse pos) env) Q E s := by
  rw [exec_For]
  refine wpN_bind (wpN_standAt (wpN_bind (wpN_of_wpAny (wpAny_mono h (fun x s₁ h₁ => ?_) fun _ _ h' => h'))))
  refine wpN_bind (wpN_of_wpAny (wpAny_of_eq (hs x) ?_))
  refine wpN_bind (wpN_standAt (wpN_bind (wpN_of_wpAny (wpAny_holding (wpAny_mono h₁ (fun it s₂ h₂ => ?_) fun _ _ h' => h')))))
  exact nRunOwn h₂
end
noncomputable abbrev rgO (i n : Nat) : Obj := { cls := .type "range_iterator", data := .fields #[rawInt (i : Int), rawInt ((n : Int) - (i : Int)), rawInt 1] }
section
variable {prog : Program} {w : World} {A : Around} {s : Shared} {R : Result → Shared → Prop} {env : Env} {g : Heap} {L : Addr} {m : Str → Option Value} {led : List (Addr × Obj)}
theorem for_range {x : Str} {px : Pos} {body : List Stmt} {I : Addr} {n : Nat} (Inv : Nat → (Str → Option Value) → List (Addr × Obj) → Prop)
    (hL : env.locals = L) (hx : env.kindOf x = some .local) (hp : (env.scope.kind == .class || (env.scope.kind == .module && env.locals != env.globals)) = false) (hh : A.handled = none)
    (F : Fr g L s.heap m) (N : News g L s.heap ((I, rgO 0 n) :: led)) (h0 : Inv 0 m led) (hcls : ∀ i m led, Inv i m led → ∀ q ∈ led, q.2.cls ≠ .type "range_iterator")
    (turn : ∀ i m led h tk t, i < n → Inv i m led → Fr g L h (fun y => if y = x then some (.int i t) else m y) → News g L h ((I, rgO (i + 1) n) :: led) →
      wpN (model prog w) A (execs body env) (fun f s₃ => match f with
          | .next | .cont => Kept (Ex4 fun h' tk' m' led' => An4 (s₃ = { s with heap := h', toks := tk' }) (Fr g L h' m') (News g L h' ((I, rgO (i + 1) n) :: led')) (Inv (i + 1) m' led'))
          | .brk => R (.ok .next) s₃
          | .ret v => R (.ok (.ret v)) s₃) (notedBy (model prog w) A env fun e s' => R (.error e) s') { s with heap := h, toks := tk })
    (done : ∀ m led h tk, Inv n m led → Fr g L h m → News g L h led → R (.ok .next) { s with heap := h, toks := tk }) :
    codeN (model prog w) A (.forLoop (.Name x px) (.ref I) body [] env) R s := by
  subst hL
  refine codeN_forLoop (fun k s' => Ex5 fun h tk m led i => An6 (s' = { s with heap := h, toks := tk }) (i ≤ n) (k = n - i) (Fr g env.locals h m) (News g env.locals h ((I, rgO i n) :: led)) (Inv i m led)) ?_ n ⟨_, _, m, led, 0, rfl, Nat.zero_le _, rfl, F, N, h0⟩
  rintro k s' ⟨h, tk, m, led, i, rfl, hi, rfl, F1, N1, hI⟩
  have z := N1 (I, rgO i n) (.head _)
  have off : ∀ q ∈ led, q.1 ≠ I := fun q hq => led_ne N1 (.tail _ hq) (.head _) (hcls _ _ _ hI q hq)
  by_cases hlt : i < n
  · refine wpAny_pyNext_range_item (x := (i : Int)) (left := (n : Int) - i) (step := 1) z.1 (by omega) fun h' hit hs => ?_
    have hit' : h'.get? I = some (rgO (i + 1) n) := by
      have e : h'.get? I = some { cls := .type "range_iterator", data := .fields #[rawInt ((i : Int) + 1), rawInt ((n : Int) - i - 1), rawInt 1] } := hit
      rw [e]
      congr 3
      show #[rawInt ((i : Int) + 1), rawInt ((n : Int) - i - 1), rawInt 1] = #[rawInt ((i + 1 : Nat) : Int), rawInt ((n : Int) - (i + 1 : Nat)), rawInt 1]
      rw [show (n : Int) - i - 1 = (n : Int) - (i + 1 : Nat) by omega, show (i : Int) + 1 = ((i + 1 : Nat) : Int) by omega]
    have F2 : Fr g env.locals h' m := F1.change hs z.2.1 z.2.2
    have N2 : News g env.locals h' ((I, rgO (i + 1) n) :: led) := fun q hq => by
      rcases List.mem_cons.mp hq with rfl | hq
      · exact ⟨hit', z.2⟩
      · exact ⟨hs.extBut _ _ (off q hq) (N1 q (.tail _ hq)).1, (N1 q (.tail _ hq)).2⟩
    dsimp only
    refine wpAny_of_eq (a := ()) rfl ?_
    refine wpAny_assign_Name (wpAny_storeName_local hx F2.ns (fun h₂ hn hs2 => ?_) hp)
    refine wpN_mono (turn i m led h₂ _ _ hlt hI (F2.set hn hs2) (N2.set hs2)) (fun f s₃ h₃ => ?_) fun _ _ e => e
    cases f with
    | next =>
      obtain ⟨h', tk', m', led', rfl, F3, N3, hI3⟩ := h₃.it
      exact ⟨n - (i + 1), by omega, h', tk', m', led', i + 1, rfl, hlt, rfl, F3, N3, hI3⟩
    | cont =>
      obtain ⟨h', tk', m', led', rfl, F3, N3, hI3⟩ := h₃.it
      exact ⟨n - (i + 1), by omega, h', tk', m', led', i + 1, rfl, hlt, rfl, F3, N3, hI3⟩
    | brk => exact h₃
    | ret v => exact h₃
  · obtain rfl : i = n := by omega
    refine wpAny_pyNext_range_end (x := (i : Int)) (left := (i : Int) - i) (step := 1) hh z.1 (by omega) fun h' he => ?_
    have F2 : Fr g env.locals h' m := ⟨F1.ns.at' fun o e => he _ _ (Ne.symm z.2.1) e, fun b o e => he b o (fun q => by rw [q, z.2.2] at e; cases e) (F1.keep b o e), F1.above⟩
    have N2 : News g env.locals h' led := fun q hq => ⟨he _ _ (off q hq) (N1 q (.tail _ hq)).1, (N1 q (.tail _ hq)).2⟩
    dsimp only
    exact wpAny_execs_nil (done m led h' _ hI F2 N2)
end
end
section
set_option maxHeartbeats 4000000
open _root_.PySem.SeqAt
section
variable {A : Around} {s : Shared} {l1 l2 : List (Addr × Obj)} {v u : Value}
theorem all_tt (n : Nat) : (List.range n).all (fun _ => true) = true := by rw [List.all_eq_true]; exact fun _ _ => rfl
theorem eqAt_str (x : Str) (t t' : Tok) : EqAt A s (.str x t) (.str x t') true := fun prog w E Q h => eqBool_str (by rw [beq_self_eq_true]; exact h)
theorem eqAt_bytes (b : Array UInt8) (t t' : Tok) : EqAt A s (.bytes b t) (.bytes b t') true := fun prog w E Q h => eqBool_bytes (by rw [decide_eq_true rfl]; exact h)
theorem eqAt_int (i : Int) (t t' : Tok) : EqAt A s (.int i t) (.int i t') true := fun prog w E Q h => EqAt.int_int i t i t' prog w E Q (by rw [beq_self_eq_true]; exact h)
def InHeap (h : Heap) (l : List (Addr × Obj)) : Prop := ∀ q ∈ l, h.get? q.1 = some q.2
theorem eqAt_tup {p p' : Addr} {x : Str} {b : Array UInt8} {t t' u u' : Tok} {n n' : Nat} (h1 : s.heap.get? p = some { cls := .type "tuple", data := .seq #[.str x t, .bytes b u] n }) (h2 : s.heap.get? p' = some { cls := .type "tuple", data := .seq #[.str x t', .bytes b u'] n' }) (hu : A.units < cLine) :
    EqAt A s (.ref p) (.ref p') true := by
  by_cases hp : p = p'
  · subst hp; exact EqAt.same _
  · refine EqAt.of_refs hp ?_
    have := RcAt.tuples (A := A) (e := fun _ => true) (items := #[.str x t, .bytes b u]) (items2 := #[.str x t', .bytes b u']) ⟨_, h1, rfl, n, rfl⟩ ⟨_, h2, rfl, n', rfl⟩ hu (fun j g1 g2 => by
      match j, g1, g2 with
      | 0, _, _ => exact eqAt_str _ _ _
      | 1, _, _ => exact eqAt_bytes _ _ _)
    rw [all_tt] at this
    exact this
theorem eqAt_it {i : It} (k1 : InHeap s.heap l1) (k2 : InHeap s.heap l2) (h1 : ItIn l1 v i) (h2 : ItIn l2 u i) (hu : A.units < cLine) : EqAt A s v u true := by
  cases i with
  | nm b =>
    obtain ⟨p, t, t', n, rfl, hm⟩ := h1
    obtain ⟨p2, t2, t2', n2, rfl, hm2⟩ := h2
    exact eqAt_tup (k1 _ hm) (k2 _ hm2) hu
  | tx b =>
    obtain ⟨p, t, t', n, rfl, hm⟩ := h1
    obtain ⟨p2, t2, t2', n2, rfl, hm2⟩ := h2
    exact eqAt_tup (k1 _ hm) (k2 _ hm2) hu
  | nu i => obtain ⟨t, rfl⟩ := h1; obtain ⟨t', rfl⟩ := h2; exact eqAt_int _ _ _
  | «by» b => obtain ⟨t, rfl⟩ := h1; obtain ⟨t', rfl⟩ := h2; exact eqAt_bytes _ _ _
variable {prog : Program} {w : World} {E : Value → Shared → Prop} {a b : Addr} {xs ys : List Value} {is : List It} {Q : Value → Shared → Prop}
theorem its_eqAt (k1 : InHeap s.heap l1) (k2 : InHeap s.heap l2) (h1 : ItsIn l1 xs is) (h2 : ItsIn l2 ys is) (hu : A.units + 1 < cLine) : ∀ j (g1 : j < xs.toArray.size) (g2 : j < ys.toArray.size), EqAt A.in1 s xs.toArray[j] ys.toArray[j] true := fun j g1 g2 => by
  rw [List.size_toArray] at g1 g2
  obtain ⟨x, e1, i1⟩ := Items.get j h1 (List.getElem?_eq_getElem g1)
  obtain ⟨y, e2, i2⟩ := Items.get j h2 (List.getElem?_eq_getElem g2)
  rw [e1] at e2
  cases e2
  simp only [List.getElem_toArray]
  exact eqAt_it k1 k2 i1 i2 (by show A.units + 1 < cLine; omega)
theorem eq_same (k1 : InHeap s.heap l1) (k2 : InHeap s.heap l2) (ha : s.heap.IsList a xs.toArray) (hb : s.heap.IsList b ys.toArray) (h1 : ItsIn l1 xs is) (h2 : ItsIn l2 ys is) (hu : A.units + 1 < cLine) (h : Q (.bool true) s) :
    wpAny (model prog w) A (compareOp .Eq (.ref a) (.ref b)) Q E s :=
  RcAt.lists (e := fun _ => true) ha hb (by rw [List.size_toArray, List.size_toArray, h1.len, h2.len]) (by omega) (its_eqAt k1 k2 h1 h2 hu) prog w E Q (by rw [all_tt]; exact h)
theorem ne_same (k1 : InHeap s.heap l1) (k2 : InHeap s.heap l2) (ha : s.heap.IsList a xs.toArray) (hb : s.heap.IsList b ys.toArray) (h1 : ItsIn l1 xs is) (h2 : ItsIn l2 ys is) (hu : A.units + 1 < cLine) (h : Q (.bool false) s) :
    wpAny (model prog w) A (compareOp .NotEq (.ref a) (.ref b)) Q E s :=
  RcNeAt.lists (e := fun _ => true) ha hb (by rw [List.size_toArray, List.size_toArray, h1.len, h2.len]) (by omega) (its_eqAt k1 k2 h1 h2 hu) prog w E Q (by rw [all_tt]; exact h)
theorem Items.take {α : Type} {PI : Value → α → Prop} : ∀ {vs : List Value} {is : List α} (k : Nat), Items PI vs is → Items PI (vs.take k) (is.take k)
  | _, _, 0, _ => .nil
  | _, _, _ + 1, .nil => .nil
  | _, _, k + 1, .cons hv r => .cons hv (r.take k)
theorem Items.app {α : Type} {PI : Value → α → Prop} {vs' : List Value} {is' : List α} (h' : Items PI vs' is') : ∀ {vs : List Value} {is : List α}, Items PI vs is → Items PI (vs ++ vs') (is ++ is')
  | _, _, .nil => h'
  | _, _, .cons hv r => .cons hv (h'.app r)
end
end
section
set_option maxHeartbeats 4000000
open PyProof.Rows.LCg PyProof.Rows.LCp
section
variable {prog : Program} {w : World} {A : Around} {E : Value → Shared → Prop} {s : Shared} {g : Heap} {L : Addr} {m : Str → Option Value} {env : Env} {led : List (Addr × Obj)}
def PickTurn (prog : Program) (w : World) (A : Around) (g : Heap) (L : Addr) (m : Str → Option Value) (env : Env) (led : List (Addr × Obj)) (c elt : Expr) (x x₂ : Str) (scope : Scope) (cl : List (Str × Addr)) (s : Shared) (v : Value) (b : Bool) : Prop :=
  ∃ (t : Addr) (ot : Obj) (v₁ v₂ : Value) (nt : Nat), v = .ref t ∧ (t, ot) ∈ led ∧ ot.cls = .type "tuple" ∧ ot.data = .seq #[v₁, v₂] nt ∧
    ∀ I oI C oC D m₂ ys h tk (E' : Value → Shared → Prop), NsObj oC m₂ → m₂ x = some v₁ → m₂ x₂ = some v₂ → Fr g L h m → News g L h ((I, oI) :: (C, oC) :: (D, lst ys) :: led) → Off3 I C D led → ((@Ne Nat I C) ∧ (@Ne Nat I D) ∧ (@Ne Nat C D)) →
      wpAny (model prog w) A (isTrue c (compEnvC scope cl C env) (eval c (compEnvC scope cl C env))) (fun ok s₃ => ok = b ∧ (if b = true then wpAny (model prog w) A (eval elt (compEnvC scope cl C env)) (fun _ s₄ => ∃ tk', s₄ = { s with heap := h, toks := tk' }) E' s₃
        else ∃ tk', s₃ = { s with heap := h, toks := tk' })) E' { s with heap := h, toks := tk }
theorem comp_pick {c elt iter : Expr} {x x₂ : Str} {px px₂ tp : Pos} {tk} {scope : Scope} {cl : List (Str × Addr)} {pos : Pos} {Q : Value → Shared → Prop} {S : Addr} {vs : List Value} {nS : Nat} {bs : List Bool}
    (hclos : closureFor scope env = pure cl) (hcell : ∀ y ∈ scope.names, y.2 ≠ .cell) (hkind : scope.kind = .function)
    (hnames : ∀ y ∈ scope.names, y.2 = .local → scope.names.lookup y.1 = some .local) (hx : scope.names.lookup x = some .local) (hx₂ : scope.names.lookup x₂ = some .local) (hxx : x ≠ x₂) (hh : A.handled = none)
    (h : wpAny (model prog w) A (eval iter env) (fun xv s₁ => xv = .ref S ∧ Fr g L s₁.heap m ∧ News g L s₁.heap led ∧ (S, listOf vs.toArray nS) ∈ led ∧ bs.length = vs.length ∧ vs.length ≤ 1000 ∧
      (∀ s₂ : Shared, (∃ h, s₂ = { s₁ with heap := h }) → ∀ (i : Nat) (v : Value) (b : Bool), vs[i]? = some v → bs[i]? = some b → PickTurn prog w A g L m env led c elt x x₂ scope cl s₂ v b) ∧
      ∀ D h' tk' (ys : List Value), ys.length = (bs.filter id).length → Fr g L h' m → News g L h' ((D, lst ys) :: led) → Q (.ref D) { s₁ with heap := h', toks := tk' }) E s)
    (hs : ∀ x, foldedSetIterable iter env x = pure x := by intro _; rfl) :
    wpAny (model prog w) A (eval (.ListComp elt [⟨.Tuple [.Name x px, .Name x₂ px₂] tk tp, iter, [c], 0⟩] scope pos) env) Q E s := by
  rw [eval_ListComp]
  refine wpAny_comprehension_free (use := none) rfl hs hclos hkind hnames (wpAny_mono h (fun xv s₁ h₁ => ?_) fun _ _ e => e)
  obtain ⟨rfl, F, N, hS, hbl, hvl, R0, fin⟩ := h₁
  have hl : s₁.heap.IsList S vs.toArray := ⟨_, (N _ hS).1, rfl, nS, rfl⟩
  refine wpAny_pyIter_list hl ?_
  have R := R0 { s₁ with heap := s₁.heap.push { cls := .type "list_iterator", data := .fields #[.ref S, .int 0 0] } } ⟨_, rfl⟩
  clear R0
  have hIL : L ≠ s₁.heap.objs.size := Nat.ne_of_lt F.ns.lt
  have hI₀ := next_is_new F
  have hlt : S < s₁.heap.objs.size := Heap.lt_size (N _ hS).1
  have hSI : S ≠ s₁.heap.objs.size := Nat.ne_of_lt hlt
  have offI : ∀ p ∈ led, p.1 ≠ s₁.heap.objs.size := fun p hp => Nat.ne_of_lt (Heap.lt_size (N p hp).1)
  have hgI : (s₁.heap.push { cls := .type "list_iterator", data := .fields #[.ref S, .int 0 0] }).get? s₁.heap.objs.size = some { cls := .type "list_iterator", data := .fields #[.ref S, .int 0 0] } := Heap.get?_push_size _ rfl
  have F1 : Fr g L (s₁.heap.push { cls := .type "list_iterator", data := .fields #[.ref S, .int 0 0] }) m := F.keeps fun b o e => Heap.get?_push_of_some _ e
  have N1 : News g L (s₁.heap.push { cls := .type "list_iterator", data := .fields #[.ref S, .int 0 0] }) led := N.grown fun b o e => Heap.get?_push_of_some _ e
  revert hIL hI₀ offI hgI F1 N1 R hSI
  generalize s₁.heap.objs.size = I
  generalize s₁.heap.push { cls := .type "list_iterator", data := .fields #[.ref S, .int 0 0] } = H1
  intro R hIL hI₀ hSI offI hgI F1 N1
  refine wpAny_newObj_type (wpAny_newFunctionEnv hcell (by intro y hy; simp at hy) (fun h₁ hns₁ hsb₁ => ?_) hkind)
  dsimp only at hns₁ hsb₁ ⊢
  generalize hH2 : H1.push { cls := .type "list", dict := none, data := .seq ([] : List Value).toArray } = H2 at hns₁ hsb₁ ⊢
  have hC : H2.objs.size = H1.objs.size + 1 := by rw [← hH2, Heap.size_push]
  have hDC : H1.objs.size ≠ H2.objs.size := by rw [hC]; exact Nat.ne_of_lt (Nat.lt_succ_self _)
  have below : ∀ b, b < H1.objs.size → b ≠ H2.objs.size ∧ b ≠ H1.objs.size := fun b hb => ⟨by rw [hC]; exact Nat.ne_of_lt (Nat.lt_succ_of_lt hb), Nat.ne_of_lt hb⟩
  have old : ∀ b o, H1.get? b = some o → h₁.get? b = some o := fun b o e => hsb₁.extBut b o (below b (Heap.lt_size e)).1 (Heap.get?_push_of_some _ (hH2 ▸ Heap.get?_push_of_some _ e))
  have hacc : h₁.get? H1.objs.size = some (lst []) := hsb₁.extBut _ _ hDC (Heap.get?_push_of_some _ (hH2 ▸ Heap.get?_push_size _ rfl))
  have fresh₀ : ∀ a, H1.objs.size ≤ a → g.get? a = none := fun a ha => by
    cases e : g.get? a with
    | none => rfl
    | some o' => exact absurd (Heap.lt_size (F1.keep a o' e)) (Nat.not_lt.mpr ha)
  have hD₀ : g.get? H1.objs.size = none := fresh₀ _ (Nat.le_refl _)
  have hC₀ : g.get? H2.objs.size = none := fresh₀ _ (by rw [hC]; exact Nat.le_succ _)
  have hLlt : L < H1.objs.size := F1.ns.lt
  have hDL : H1.objs.size ≠ L := Ne.symm (below L hLlt).2
  have hCL : H2.objs.size ≠ L := Ne.symm (below L hLlt).1
  have hIlt : I < H1.objs.size := Heap.lt_size hgI
  have hCI : I ≠ H2.objs.size := (below I hIlt).1
  have hDI : I ≠ H1.objs.size := (below I hIlt).2
  have off₀ : Off3 I H2.objs.size H1.objs.size led := Off3.of fun p hp => ⟨offI p hp, (below _ (Heap.lt_size (N1 p hp).1)).1, (below _ (Heap.lt_size (N1 p hp).1)).2⟩
  have off3 := off₀.mem
  have F2 : Fr g L h₁ m := F1.keeps old
  have N2 : News g L h₁ ((H1.objs.size, lst []) :: led) := fun p hp => by
    rcases List.mem_cons.mp hp with rfl | hp
    · exact ⟨hacc, hDL, hD₀⟩
    · exact ⟨old _ _ (N1 p hp).1, (N1 p hp).2⟩
  have hit : h₁.IsListIter I S 0 := ⟨_, old _ _ hgI, rfl, rfl⟩
  clear hsb₁ old hacc fresh₀ below F1 N1 hgI F N hl hlt offI
  revert hDC hD₀ hC₀ hDL hCL hCI hDI off₀ off3 N2 hns₁
  generalize H2.objs.size = C
  generalize H1.objs.size = D
  intro hns₁ hDC hD₀ hC₀ hDL hCL hCI hDI off₀ off3 N2
  have loop : ∀ (RR : Result → Shared → Prop) (tk₀ : Nat), (∀ h' tk' (ys : List Value) m', ys.length = (bs.filter id).length → Fr g L h' m → News g L h' ((D, lst ys) :: led) → h'.Ns C m' → RR (.ok .next) { s₁ with heap := h', toks := tk' }) →
      codeAny (model prog w) A (.compLoop (.ListComp elt [⟨.Tuple [.Name x px, .Name x₂ px₂] tk tp, iter, [c], 0⟩] scope pos) 0 (.ref I) (.ref D) (compEnvC scope cl C env)) RR { s₁ with heap := h₁, toks := tk₀ } := by
    intro RR tk₀ fin'
    obtain ⟨Inv, inv_in, inv_out⟩ : ∃ Inv : Nat → Shared → Prop, (∀ h' tk i ys m', i ≤ vs.length → ys.length = ((bs.take i).filter id).length → h'.IsListIter I S i → Fr g L h' m → h'.Ns C m' → News g L h' ((D, lst ys) :: led) → Inv (vs.length - i) { s₁ with heap := h', toks := tk }) ∧
        ∀ k s', Inv k s' → Ex5 fun h' tk i ys m' => An8 (s' = { s₁ with heap := h', toks := tk }) (i ≤ vs.length) (k = vs.length - i) (ys.length = ((bs.take i).filter id).length) (h'.IsListIter I S i) (Fr g L h' m) (h'.Ns C m') (News g L h' ((D, lst ys) :: led)) :=
      ⟨_, fun h' tk i ys m' a b c d e f => ⟨h', tk, i, ys, m', rfl, a, rfl, b, c, d, e, f⟩, fun _ _ x => x⟩
    refine kct_loop Inv ?_ vs.length (inv_in h₁ _ 0 [] _ (Nat.zero_le _) (by simp) hit F2 hns₁ N2)
    intro k s' hInv
    obtain ⟨h', tk', i, ys, m', rfl, hi, rfl, hyl, hit', F', hn', N'⟩ := inv_out _ _ hInv
    clear inv_out hInv
    have hl : h'.IsList S vs.toArray := ⟨_, (N' _ (.tail _ hS)).1, rfl, nS, rfl⟩
    by_cases hlt : i < vs.length
    · have hv : vs[i]? = some vs[i] := List.getElem?_eq_getElem hlt
      have hb : bs[i]? = some (bs[i]'(by omega)) := List.getElem?_eq_getElem _
      revert hv hb
      generalize vs[i] = v
      generalize bs[i]'(by omega) = b
      intro hv hb
      refine wpAny_pyNext_list_item (items := vs.toArray) hit' hl (x := v) (by simpa using hv) fun h₂ hit₂ hs₂ => ?_
      dsimp only
      obtain ⟨t, ot, v₁, v₂, nt, rfl, hmt, hct, hdt, R'⟩ := R i v b hv hb
      refine wpAny_letOwnedTupleGo_listiter hit₂ ?_
      have N₂ : News g L h₂ ((D, lst ys) :: led) := fun p hp => by
        refine ⟨hs₂.extBut _ _ ?_ (N' p hp).1, (N' p hp).2⟩
        rcases List.mem_cons.mp hp with rfl | hp
        · exact Ne.symm hDI
        · exact (off3 p hp).1
      have ht : IsTup h₂ t #[v₁, v₂] := ⟨ot, (N₂ _ (.tail _ hmt)).1, hct, nt, hdt⟩
      refine assign_Tuple_tuple hh ht rfl rfl fun h₅ he => ?_
      have he' : ∀ b o, h₂.get? b = some o → h₅.get? b = some o := fun b o e => he b o (Nat.ne_of_lt (Heap.lt_size e)) e
      refine assignInOrder_cons (wpAny_assign_Name (wpAny_storeName_local (lookup_relabel_local hx) ((hn'.at' fun o e => hs₂.extBut _ o (Ne.symm hCI) e).at' fun o e => he' _ o e) (fun h₆ hn₆ hs₆ => ?_) (by simp [compEnvC, relabel, hkind])))
      refine assignInOrder_cons (wpAny_assign_Name (wpAny_storeName_local (lookup_relabel_local hx₂) hn₆ (fun h₃ hn₃ hs₃ => ?_) (by simp [compEnvC, relabel, hkind])))
      refine assignInOrder_nil ?_
      have old3 : ∀ b o, b ≠ C → h₂.get? b = some o → h₃.get? b = some o := fun b o hb e => hs₃.extBut b o hb (hs₆.extBut b o hb (he' b o e))
      have hit₃ : h₃.IsListIter I S (i + 1) := hit₂.at fun o e => old3 _ o hCI e
      obtain ⟨oI, heI, hoI⟩ := id hit₃
      obtain ⟨oC, heC, hoC⟩ := ns_obj hn₃
      have F₃ : Fr g L h₃ m := ⟨F'.ns.at' fun o e => old3 _ o (Ne.symm hCL) (hs₂.extBut _ o hIL e), fun b o e => old3 b o (fun q => by rw [q, hC₀] at e; cases e) (hs₂.extBut b o (fun q => by rw [q, hI₀] at e; cases e) (F'.keep b o e)), F'.above⟩
      have N₃ : News g L h₃ ((I, oI) :: (C, oC) :: (D, lst ys) :: led) := fun p hp => by
        rcases List.mem_cons.mp hp with rfl | hp
        · exact ⟨heI, Ne.symm hIL, hI₀⟩
        rcases List.mem_cons.mp hp with rfl | hp
        · exact ⟨heC, hCL, hC₀⟩
        have z := N₂ p hp
        refine ⟨old3 _ _ ?_ z.1, z.2⟩
        rcases List.mem_cons.mp hp with rfl | hp
        · exact hDC
        · exact (off3 p hp).2.1
      have htk : (bs.take (i + 1)).filter id = (bs.take i).filter id ++ [b].filter id := by
        rw [List.take_add_one, hb, List.filter_append]; rfl
      refine wpAny_mono (R' I oI C oC D _ ys h₃ _ _ hoC (by simp [hxx]) (by simp) F₃ N₃ off₀ ⟨hCI, hDI, Ne.symm hDC⟩) (fun ok s₅ h₅ => ?_) fun _ _ e => e
      obtain ⟨rfl, h₅⟩ := h₅
      cases ok with
      | false =>
        obtain ⟨tk₅, rfl⟩ := h₅
        exact ⟨vs.length - (i + 1), by omega, inv_in h₃ tk₅ (i + 1) ys _ hlt (by rw [htk]; simpa using hyl) hit₃ F₃ hn₃ fun p hp => N₃ p (.tail _ (.tail _ hp))⟩
      | true =>
        refine wpAny_mono h₅ (fun y s₆ h₆ => ?_) fun _ _ e => e
        obtain ⟨tk₅, rfl⟩ := h₆
        refine append_at (hsz := by show ys.toArray.size ≤ sizeLine; rw [List.size_toArray, hyl, sizeLine_eq]; have := List.length_filter_le id (bs.take i); have := List.length_take_le i bs; omega) (N₃ _ (.tail _ (.tail _ (.head _)))).1 fun h₇ hs₇ hD₇ => ?_
        refine ⟨vs.length - (i + 1), by omega, inv_in h₇ tk₅ (i + 1) (ys ++ [y]) _ hlt (by rw [htk]; simp [hyl]) (hit₃.at fun o e => hs₇.extBut _ o hDI e) (F₃.change hs₇ hDL hD₀) (hn₃.at' fun o e => hs₇.extBut _ o (Ne.symm hDC) e) fun p hp => ?_⟩
        rcases List.mem_cons.mp hp with rfl | hp
        · exact ⟨hD₇.trans (congrArg some (lst_snoc ys y)), hDL, hD₀⟩
        · exact ⟨hs₇.extBut _ _ (off3 p hp).2.2 (N₃ _ (.tail _ (.tail _ (.tail _ hp)))).1, (N₃ _ (.tail _ (.tail _ (.tail _ hp)))).2⟩
    · obtain rfl : i = vs.length := Nat.le_antisymm hi (Nat.not_lt.mp hlt)
      refine wpAny_pyNext_list_end (items := vs.toArray) hh hit' hl (by simp) fun h₂ he₂ => ?_
      dsimp only
      refine fin' h₂ _ ys m' (by rw [hyl, ← hbl, List.take_length]) ⟨F'.ns.at' fun o e => he₂ _ o hIL e, fun b o e => he₂ b o (fun q => by rw [q, hI₀] at e; cases e) (F'.keep b o e), F'.above⟩ (fun p hp => ?_) (hn'.at' fun o e => he₂ _ o (Ne.symm hCI) e)
      refine ⟨he₂ _ _ ?_ (N' p hp).1, (N' p hp).2⟩
      rcases List.mem_cons.mp hp with rfl | hp
      · exact Ne.symm hDI
      · exact (off3 p hp).1
  have fin2 : ∀ (h' : Heap) (ys : List Value), Fr g L h' m → News g L h' ((D, lst ys) :: led) → ∀ h'', Heap.SameBut C h' h'' → Fr g L h'' m ∧ News g L h'' ((D, lst ys) :: led) := by
    intro h' ys F' N' h'' hs''
    refine ⟨F'.change hs'' hCL hC₀, fun p hp => ⟨hs''.extBut _ _ ?_ (N' p hp).1, (N' p hp).2⟩⟩
    rcases List.mem_cons.mp hp with rfl | hp
    · exact hDC
    · exact (off3 p hp).2.1
  have fin3 : ∀ h' tk' (ys : List Value) m', ys.length = (bs.filter id).length → Fr g L h' m → News g L h' ((D, lst ys) :: led) → h'.Ns C m' → compPost (model prog w) A E none Q (Value.ref D) C (.ok .next) { s₁ with heap := h', toks := tk' } :=
    fun h' tk' ys m' hy F' N' hn => ⟨m', hn, fun h'' hs'' => fin D h'' tk' ys hy (fin2 h' ys F' N' h'' hs'').1 (fin2 h' ys F' N' h'' hs'').2⟩
  exact codeAny_compStart_list (loop _ _ fin3) (wpAny_pyIter_listiter hit (loop _ _ fin3))
end
end
section
set_option maxHeartbeats 4000000
section
variable {prog : Program} {w : World} {A : Around} {s : Shared} {R : Result → Shared → Prop} {env : Env} {g : Heap} {L : Addr} {m : Str → Option Value} {led : List (Addr × Obj)} {Q E : Value → Shared → Prop}
def ItAt (S : Addr) (i : Nat) (o : Obj) : Prop := o.cls = .type "list_iterator" ∧ o.data = .fields #[.ref S, .int i 0]
theorem iter_ls {S : Addr} {vs : List Value} {nS : Nat} (F : Fr g L s.heap m) (N : News g L s.heap led) (hS : (S, listOf vs.toArray nS) ∈ led)
    (h : ∀ I oI h', ItAt S 0 oI → Fr g L h' m → News g L h' ((I, oI) :: led) → Q (.ref I) { s with heap := h' }) : wpAny (model prog w) A (pyIter (.ref S)) Q E s := by
  refine wpAny_pyIter_list (items := vs.toArray) ⟨_, (N _ hS).1, rfl, nS, rfl⟩ (h _ { cls := .type "list_iterator", data := .fields #[.ref S, .int 0 0] } _ ⟨rfl, rfl⟩ (F.keeps fun b o e => Heap.get?_push_of_some _ e) fun q hq => ?_)
  rcases List.mem_cons.mp hq with rfl | hq
  · exact ⟨Heap.get?_push_size _ rfl, Ne.symm (Nat.ne_of_lt F.ns.lt), next_is_new F⟩
  · exact ⟨Heap.get?_push_of_some _ (N q hq).1, (N q hq).2⟩
theorem for_pairs {x x₂ : Str} {px px₂ tp : Pos} {tk : Nat} {body : List Stmt} {I S : Addr} {oI : Obj} {vs : List Value} {nS : Nat} (Inv : Nat → (Str → Option Value) → List (Addr × Obj) → Prop)
    (hL : env.locals = L) (hx : env.kindOf x = some .local) (hx₂ : env.kindOf x₂ = some .local) (hp : (env.scope.kind == .class || (env.scope.kind == .module && env.locals != env.globals)) = false) (hh : A.handled = none)
    (hI : ItAt S 0 oI) (F : Fr g L s.heap m) (N : News g L s.heap ((I, oI) :: led)) (h0 : Inv 0 m led) (hcls : ∀ i m led, Inv i m led → (S, listOf vs.toArray nS) ∈ led ∧ ∀ q ∈ led, q.2.cls ≠ .type "list_iterator")
    (turn : ∀ i m led v, vs[i]? = some v → Inv i m led → ∃ (t : Addr) (ot : Obj) (v₁ v₂ : Value) (nt : Nat), v = .ref t ∧ (t, ot) ∈ led ∧ ot.cls = .type "tuple" ∧ ot.data = .seq #[v₁, v₂] nt ∧
      ∀ oI h tk, ItAt S (i + 1) oI → Fr g L h (fun y => if y = x₂ then some v₂ else if y = x then some v₁ else m y) → News g L h ((I, oI) :: led) →
      wpN (model prog w) A (execs body env) (fun f s₃ => match f with
          | .next | .cont => Kept (Ex4 fun h' tk' m' led' => An4 (s₃ = { s with heap := h', toks := tk' }) (Fr g L h' m') (News g L h' ((I, oI) :: led')) (Inv (i + 1) m' led'))
          | .brk => R (.ok .next) s₃
          | .ret v => R (.ok (.ret v)) s₃) (notedBy (model prog w) A env fun e s' => R (.error e) s') { s with heap := h, toks := tk })
    (done : ∀ m led h tk, Inv vs.length m led → Fr g L h m → News g L h led → R (.ok .next) { s with heap := h, toks := tk }) :
    codeN (model prog w) A (.forLoop (.Tuple [.Name x px, .Name x₂ px₂] tk tp) (.ref I) body [] env) R s := by
  subst hL
  refine codeN_forLoop (fun k s' => Ex6 fun h tk m led i oI => An7 (s' = { s with heap := h, toks := tk }) (i ≤ vs.length) (k = vs.length - i) (ItAt S i oI) (Fr g env.locals h m) (News g env.locals h ((I, oI) :: led)) (Inv i m led)) ?_ vs.length ⟨_, _, m, led, 0, oI, rfl, Nat.zero_le _, rfl, hI, F, N, h0⟩
  rintro k s' ⟨h, tk', m, led, i, oI, rfl, hi, rfl, hI, F1, N1, hInv⟩
  have z := N1 (I, oI) (.head _)
  obtain ⟨hS, hcl⟩ := hcls _ _ _ hInv
  have off : ∀ q ∈ led, q.1 ≠ I := fun q hq => led_ne N1 (.tail _ hq) (.head _) (by rw [hI.1]; exact hcl q hq)
  have hl : h.IsList S vs.toArray := ⟨_, (N1 _ (.tail _ hS)).1, rfl, nS, rfl⟩
  have hit : h.IsListIter I S i := ⟨_, z.1, hI.1, hI.2⟩
  by_cases hlt : i < vs.length
  · have hv : vs[i]? = some vs[i] := List.getElem?_eq_getElem hlt
    revert hv
    generalize vs[i] = v
    intro hv
    refine wpAny_pyNext_list_item (items := vs.toArray) hit hl (x := v) (by simpa using hv) fun h₂ hit₂ hs₂ => ?_
    dsimp only
    obtain ⟨t, ot, v₁, v₂, nt, rfl, hmt, hct, hdt, T⟩ := turn i m led v hv hInv
    refine wpAny_letOwnedTupleGo_listiter hit₂ ?_
    have F2 : Fr g env.locals h₂ m := F1.change hs₂ z.2.1 z.2.2
    have N2 : News g env.locals h₂ led := fun p hp => ⟨hs₂.extBut _ _ (off p hp) (N1 p (.tail _ hp)).1, (N1 p (.tail _ hp)).2⟩
    refine assign_Tuple_tuple (items := #[v₁, v₂]) hh ⟨ot, (N2 _ hmt).1, hct, nt, hdt⟩ rfl rfl fun h₅ he => ?_
    have he' : ∀ b o, h₂.get? b = some o → h₅.get? b = some o := fun b o e => he b o (Nat.ne_of_lt (Heap.lt_size e)) e
    obtain ⟨o2, e2, c2, d2⟩ := hit₂
    have F3 : Fr g env.locals h₅ m := F2.keeps he'
    have N3 : News g env.locals h₅ ((I, o2) :: led) := fun p hp => by
      rcases List.mem_cons.mp hp with rfl | hp
      · exact ⟨he' _ _ e2, z.2⟩
      · exact ⟨he' _ _ (N2 p hp).1, (N2 p hp).2⟩
    refine assignInOrder_cons (wpAny_assign_Name (wpAny_storeName_local hx F3.ns (fun h₆ hn₆ hs₆ => ?_) hp))
    have F4 := F3.set hn₆ hs₆
    have N4 := N3.set hs₆
    refine assignInOrder_cons (wpAny_assign_Name (wpAny_storeName_local hx₂ F4.ns (fun h₇ hn₇ hs₇ => ?_) hp))
    refine assignInOrder_nil ?_
    refine wpN_mono (T o2 h₇ _ ⟨c2, d2⟩ (F4.set hn₇ hs₇) (N4.set hs₇)) (fun f s₃ h₃ => ?_) fun _ _ e => e
    cases f with
    | next =>
      obtain ⟨h', tk', m', led', rfl, F3, N3, hI3⟩ := h₃.it
      exact ⟨vs.length - (i + 1), by omega, h', tk', m', led', i + 1, o2, rfl, hlt, rfl, ⟨c2, d2⟩, F3, N3, hI3⟩
    | cont =>
      obtain ⟨h', tk', m', led', rfl, F3, N3, hI3⟩ := h₃.it
      exact ⟨vs.length - (i + 1), by omega, h', tk', m', led', i + 1, o2, rfl, hlt, rfl, ⟨c2, d2⟩, F3, N3, hI3⟩
    | brk => exact h₃
    | ret v => exact h₃
  · obtain rfl : i = vs.length := by omega
    refine wpAny_pyNext_list_end (items := vs.toArray) hh hit hl (by simp) fun h' he => ?_
    have F2 : Fr g env.locals h' m := ⟨F1.ns.at' fun o e => he _ _ (Ne.symm z.2.1) e, fun b o e => he b o (fun q => by rw [q, z.2.2] at e; cases e) (F1.keep b o e), F1.above⟩
    have N2 : News g env.locals h' led := fun q hq => ⟨he _ _ (off q hq) (N1 q (.tail _ hq)).1, (N1 q (.tail _ hq)).2⟩
    dsimp only
    exact wpAny_execs_nil (done m led h' _ hInv F2 N2)
end
end
section
set_option maxHeartbeats 2000000
open PyProof.Rows.LCg PyProof.Rows.LCp
section
variable {prog : Program} {w : World} {A : Around} {s : Shared} {base g : Heap} {outer : List Env} {L : Addr} {m : Str → Option Value} {env : Env} {k : Nat}
  {mean : ExcName → Option Value} {mg mb : Str → Option Value} {Q E : Value → Shared → Prop} {c : LC} {y : LD} {news rest : List (Addr × Obj)}
theorem iter_rg {r : Addr} {b : Int} {t u v : Tok} {led : List (Addr × Obj)} {Q : Value → Shared → Prop} {E : Value → Shared → Prop} {n : Nat} (F : Fr g L s.heap m) (N : News g L s.heap led) (hr : IsRange s.heap r 0 b 1 t u v) (hsmall : Builtin.Range.small 0 b 1 = true) (hb : b = n)
    (h : ∀ I h', Fr g L h' m → News g L h' ((I, rgO 0 n) :: led) → Q (.ref I) { s with heap := h' }) : wpAny (model prog w) A (pyIter (.ref r)) Q E s := by
  subst hb
  refine wpAny_pyIter_range hr hsmall (h _ _ (F.keeps fun b o e => Heap.get?_push_of_some _ e) fun q hq => ?_)
  rcases List.mem_cons.mp hq with rfl | hq
  · refine ⟨?_, Ne.symm (Nat.ne_of_lt F.ns.lt), next_is_new F⟩
    rw [rangeSize_nat, show ((n : Int) - 0).toNat = n by omega]
    have e : rgO 0 n = { cls := .type "range_iterator", data := .fields #[rawInt 0, rawInt n, rawInt 1] } := by
      unfold rgO
      rw [show ((n : Int) - ((0 : Nat) : Int)) = n by omega]
      rfl
    rw [e]
    exact Heap.get?_push_size _ rfl
  · exact ⟨Heap.get?_push_of_some _ (N q hq).1, (N q hq).2⟩
theorem cut_take {l : Bs} {i : Nat} (h : i ≤ l.length) : cutB l none (some (i : Int)) = l.take i := by
  unfold cutB
  have : clipAt l.length (i : Int) = i := by unfold clipAt; rw [if_neg (by omega)]; omega
  simp [this]
theorem heard_len {l : Bs} {is : List It} (h : heard l = some is) : is.length ≤ l.length := by
  unfold heard at h
  cases ht : toks l with
  | none => rw [ht] at h; cases h
  | some ts =>
    rw [ht] at h
    have := toks_short (Nat.le_refl _) ht
    cases h
    rw [List.length_map]
    exact this
theorem stL_none {t : Bs} {n : Nat} (h : heard (t.take n) = none) : stL t (n + 1) = ((stL t n).1, none, none) := by simp only [stL, h]; rfl
theorem stL_some {t : Bs} {n : Nat} {f : List It} (h : heard (t.take n) = some f) : stL t (n + 1) = (if f.length > (stL t n).1.length + 1 then f.take (f.length - 1) else (stL t n).1, some f.length, some f) := by simp only [stL, h]; rfl
theorem ne_led {a b : Addr} {xs ys : List Value} {led : List (Addr × Obj)} {n n' : Nat} {is : List It} {Q E : Value → Shared → Prop} (N : News g L s.heap led) (ha : (a, listOf xs.toArray n) ∈ led) (hb : (b, listOf ys.toArray n') ∈ led) (h1 : ItsIn led xs is) (h2 : ItsIn led ys is) (hu : A.units + 1 < cLine) (h : Q (.bool false) s) :
    wpAny (model prog w) A (compareOp .NotEq (.ref a) (.ref b)) Q E s :=
  ne_same (fun q hq => (N q hq).1) (fun q hq => (N q hq).1) ⟨_, (N _ ha).1, rfl, n, rfl⟩ ⟨_, (N _ hb).1, rfl, n', rfl⟩ h1 h2 hu h
theorem eq_led {a b : Addr} {xs ys : List Value} {led : List (Addr × Obj)} {n n' : Nat} {is : List It} {Q E : Value → Shared → Prop} (N : News g L s.heap led) (ha : (a, listOf xs.toArray n) ∈ led) (hb : (b, listOf ys.toArray n') ∈ led) (h1 : ItsIn led xs is) (h2 : ItsIn led ys is) (hu : A.units + 1 < cLine) (h : Q (.bool true) s) :
    wpAny (model prog w) A (compareOp .Eq (.ref a) (.ref b)) Q E s :=
  eq_same (fun q hq => (N q hq).1) (fun q hq => (N q hq).1) ⟨_, (N _ ha).1, rfl, n, rfl⟩ ⟨_, (N _ hb).1, rfl, n', rfl⟩ h1 h2 hu h
theorem cat_led {a b : Addr} {xs ys : List Value} {led : List (Addr × Obj)} {n n' : Nat} {Q E : Value → Shared → Prop} (F : Fr g L s.heap m) (N : News g L s.heap led) (ha : (a, listOf xs.toArray n) ∈ led) (hb : (b, listOf ys.toArray n') ∈ led) (hz : xs.length + ys.length ≤ 10000)
    (h : ∀ D h', Fr g L h' m → News g L h' ((D, listOf (xs ++ ys).toArray 0) :: led) → Q (.ref D) { s with heap := h' }) : wpAny (model prog w) A (binaryOp .Add (.ref a) (.ref b)) Q E s :=
  add_lists F N ⟨_, (N _ ha).1, rfl, n, rfl⟩ ⟨_, (N _ hb).1, rfl, n', rfl⟩ (fun h' F' N' => h _ h' F' N') (by rw [sizeLine_eq]; omega)
end
theorem BytesAre.snoc {v : Value} {b : Bs} (hv : ∃ t, v = .bytes b.toArray t) : ∀ {vs : List Value} {bs : List Bs}, BytesAre vs bs → BytesAre (vs ++ [v]) (bs ++ [b])
  | _, _, .nil => .cons hv .nil
  | _, _, .cons h r => .cons h (r.snoc hv)
theorem join_tail (sep : Bs) : ∀ (l : List Bs) (k : Nat) (out : Array UInt8), 0 < k → (((l.map List.toArray).zipIdx k).foldl (fun out (q : Array UInt8 × Nat) => (if q.2 > 0 then out ++ sep.toArray else out) ++ q.1) out) = out ++ (l.flatMap fun b => sep ++ b).toArray
  | [], k, out, _ => by simp
  | b :: l, k, out, hk => by
    rw [List.map_cons, List.zipIdx_cons, List.foldl_cons, join_tail sep l (k + 1) _ (Nat.succ_pos k)]
    dsimp only
    rw [if_pos hk]
    simp [Array.append_assoc]
theorem joinB_cons (g : Bs) : ∀ (l : List Bs) (a : Bs), joinB g (a :: l) = a ++ l.flatMap fun b => g ++ b
  | [], a => by simp [joinB]
  | b :: l, a => by rw [joinB, joinB_cons g l b]; simp
theorem joined_eq (sep : Bs) (l : List Bs) : Builtin.Bytes.joined sep.toArray (l.map List.toArray) = (joinB sep l).toArray := by
  cases l with
  | nil => rfl
  | cons a l =>
    unfold Builtin.Bytes.joined
    rw [List.map_cons, List.zipIdx_cons, List.foldl_cons, join_tail sep l (0 + 1) _ (Nat.succ_pos 0), joinB_cons]
    simp
theorem joinB_len (g : Bs) : ∀ (l : List Bs), (∀ b ∈ l, b.length ≤ 6) → g.length ≤ 1 → (joinB g l).length ≤ 7 * l.length
  | [], _, _ => Nat.le_refl _
  | [a], h, _ => by have := h a (.head _); simp only [joinB, List.length_singleton]; omega
  | a :: b :: l, h, hg => by
    have h1 := h a (.head _)
    have h2 := joinB_len g (b :: l) (fun x hx => h x (.tail _ hx)) hg
    simp only [joinB, List.length_append, List.length_cons] at h2 ⊢
    omega
def FoundIs (led : List (Addr × Obj)) (v : Value) (o : Option (List It)) : Prop := match o with
  | none => v = .none
  | some is => ∃ a ys n, v = .ref a ∧ (a, listOf ys.toArray n) ∈ led ∧ ItsIn led ys is ∧ ys.length ≤ 90
def LastIs (v : Value) (o : Option Nat) : Prop := match o with
  | none => v = .none
  | some n => ∃ t, v = .int n t
def LstIn (led : List (Addr × Obj)) (a : Addr) (is : List It) : Prop := ∃ xs n, (a, listOf xs.toArray n) ∈ led ∧ ItsIn led xs is
theorem FoundIs.mono {led led' : List (Addr × Obj)} (hs : ∀ q ∈ led, q ∈ led') {v : Value} {o : Option (List It)} (h : FoundIs led v o) : FoundIs led' v o := by
  cases o with
  | none => exact h
  | some is => obtain ⟨a, ys, n, e, hm, hi, hl⟩ := h; exact ⟨a, ys, n, e, hs _ hm, ItsIn.mono hs hi, hl⟩
noncomputable def rangeO (n : Int) (t u v : Tok) : Obj := { cls := .type "range", data := .fields #[.int 0 t, .int n u, .int 1 v] }
theorem bn_range {w : World} : Bn w (Str.ofString "range") (.type "range") := ⟨by k_is, by boot_fast, by decide, rfl⟩
def EtX (P : Pt) (env : Env) (m : Mp) (l : Ld) (e : Expr) (kt kf : Ld → Prop) : Prop :=
  ∀ h tk, Led P m l h → ∀ (Q : Bool → Shared → Prop) (E : Value → Shared → Prop), (∀ l' h' tk', kt l' → Led P m l' h' → Q true (P.S h' tk')) → (∀ l' h' tk', kf l' → Led P m l' h' → Q false (P.S h' tk')) → wpAny P.M P.A (isTrue e env (eval e env)) Q E (P.S h tk)
def CmpL (P : Pt) (m : Mp) (l : Ld) (op : CmpOp) (v u : Value) (p : Prop) : Prop := ∀ h tk, Led P m l h → ∀ (Q : Value → Shared → Prop) (E : Value → Shared → Prop), (∀ c tk', (c = true ↔ p) → Q (.bool c) (P.S h tk')) → wpAny P.M P.A (compareOp op v u) Q E (P.S h tk)
section
variable {P : Pt} {env : Env} {m : Mp} {l : Ld} {e e1 e2 : Expr} {r : List Expr} {kt kf : Ld → Prop} {p : Prop} {pos : Pos} {E : Value → Shared → Prop} {op : CmpOp} {kk : Value → Ld → Prop}
theorem EtX.em (h : EtX P env m l e kt kf) : EtM P env m l e kt kf E := fun hp tk H Q q1 q0 => wpB.of_any (h hp tk H Q E q1 q0)
theorem EtX.of (ht : ET P env m l e p) (h1 : p → kt l) (h0 : ¬ p → kf l) : EtX P env m l e kt kf := fun hp tk H Q E q1 q0 => ht hp tk H _ _ fun b h' tk' hb H' => by
  cases b with
  | true => exact q1 _ _ _ (h1 (hb.mp rfl)) H'
  | false => exact q0 _ _ _ (h0 fun x => Bool.false_ne_true (hb.mpr x)) H'
theorem EtX.or2 (h1 : EtX P env m l e1 kt (fun l' => EtX P env m l' e2 kt kf)) : EtX P env m l (.BoolOp .Or [e1, e2] pos) kt kf := fun hp tk H Q E q1 q0 =>
  isTrue_or (h1 hp tk H _ _ (fun l' h' tk' hk H' => q1 l' h' tk' hk H') fun l' h' tk' hk H' => by
    show wpAny P.M P.A (isTrue (.BoolOp .Or [e2] pos) env _) Q E _
    exact isTrue_or (hk h' tk' H' _ _ (fun l2 h2 t2 hk2 H2 => q1 l2 h2 t2 hk2 H2) fun l2 h2 t2 hk2 H2 => isTrue_or_nil (q0 l2 h2 t2 hk2 H2)))
theorem EtX.cmp (h : Ew P env m l e1 (fun v l' => Ew P env m l' e2 (fun u l2 => ∃ p, CmpL P m l2 op v u p ∧ (p → kt l2) ∧ (¬ p → kf l2)))) (hm : behindInMarks op e2 = false := by exact behind_off rfl) : EtX P env m l (.Compare e1 [op] [e2] pos) kt kf := fun hp tk H Q E q1 q0 =>
  wpAny_isTrue_Compare1 (h hp tk H _ _ fun v l1 h1 t1 hv H1 => hv h1 t1 H1 _ _ fun u l2 h2 t2 ⟨p, hc, w1, w0⟩ H2 => hc h2 t2 H2 _ _ fun c t3 hcc => wpAny_truthy_bool (by
    cases c with
    | true => exact q1 _ _ _ (w1 (hcc.mp rfl)) H2
    | false => exact q0 _ _ _ (w0 fun x => Bool.false_ne_true (hcc.mpr x)) H2)) hm
theorem ew_cmp (h : Ew P env m l e1 (fun v l' => Ew P env m l' e2 (fun u l2 => ∃ p, CmpL P m l2 op v u p ∧ ∀ c, (c = true ↔ p) → kk (.bool c) l2))) (hm : behindInMarks op e2 = false := by exact behind_off rfl) : Ew P env m l (.Compare e1 [op] [e2] pos) kk := fun hp tk H Q E hQ =>
  wpAny_Compare1 (h hp tk H _ _ fun v l1 h1 t1 hv H1 => hv h1 t1 H1 _ _ fun u l2 h2 t2 ⟨p, hc, w⟩ H2 => hc h2 t2 H2 _ _ fun c t3 hcc => hQ _ _ _ _ (w c hcc) H2) hm
theorem Ev.ew {R : Value → Prop} (h : Ev P env m l e R) (hk : ∀ v, R v → kk v l) : Ew P env m l e kk := fun hp tk H Q E hQ => h hp tk H Q E fun v h' tk' hv H' => hQ v l h' tk' (hk v hv) H'
end
section
variable {P : Pt} {cn x x2 y : Str} {cs scope : Scope} {f C S : Addr} {cd v : Value} {cl cl2 : List (Str × Addr)} {m : Mp} {l : Ld} {k n c : Nat} {e e1 e2 elt iter : Expr} {p1 p2 p3 px px2 tp pos spos : Pos} {E : Value → Shared → Prop} {Q : Flow → Shared → Prop} {rest body : List Stmt} {R1 : Value → Prop} {kk : Value → Ld → Prop} {vs : List Value} {i : Int} {tk0 : Nat}
theorem ew_bltX (Bx : Bn P.w x v) (O : Ok P (envX cn cs P.L f cd cl) k) (h1 : Ev P (envX cn cs P.L f cd cl) m l e1 R1) (hc : ∀ u, R1 u → CallX P l v [u] kk) (hx : isG cs x = true := by rfl) (hz : okEs [e1] = true := by rfl) : Ew P (envX cn cs P.L f cd cl) m l (.Call (.Name x p1) [e1] [] pos) kk := fun hp tk H Q E hQ => by
  refine Call_ (Ev.blt Bx O hx hp tk H _ _ fun v' h' tk' hv' H' => ?_) evalCall
  subst hv'
  exact wpB.to_any (bCallWithP (b := false) (first := []) (backTo_any hz) Bx.kp (evs1 h1 hz h' tk' pos H' _ _ fun vs h2 t2 ⟨v, e, hv⟩ H2 => wpB.of_any (e ▸ hc v hv m h2 t2 H2 Q E hQ)))
theorem ew_range (O : Ok P (envX cn cs P.L f cd cl) k) (h1 : Ev P (envX cn cs P.L f cd cl) m l e1 (I i)) (hk : ∀ r t u v, kk (.ref r) ((r, rangeO i t u v) :: l)) (hx : isG cs (Str.ofString "range") = true := by rfl) (hz : okEs [e1] = true := by rfl) :
    Ew P (envX cn cs P.L f cd cl) m l (.Call (.Name (Str.ofString "range") p1) [e1] [] pos) kk := ew_bltX bn_range O h1 (fun u ⟨t, e⟩ m' hp tk H Q E hQ => by
  subst e
  exact range1_rows (s := P.S hp tk) H.F H.N fun h' tk' t1 u1 v1 hr F' N' _ => hQ _ _ h' tk' (hk _ t1 u1 v1) ⟨F', fun q hq => by
    rcases List.mem_cons.mp hq with rfl | hq
    · exact ⟨hr, Ne.symm (Nat.ne_of_lt H.F.ns.lt), next_is_new H.F⟩
    · exact N' q hq⟩) hx hz
end
end
section
set_option maxHeartbeats 2000000
open PyProof.Rows.LCg PyProof.Rows.LCp
theorem CallX.sub {P : Pt} {l l' : Ld} {f : Value} {args : List Value} {kk : Value → Ld → Prop} (h : CallX P l' f args kk) (hs : ∀ q ∈ l', q ∈ l) : CallX P l f args kk := fun m hp tk H => h m hp tk (H.sub hs)
section
variable {P : Pt} {cn x x2 y z : Str} {cs scope : Scope} {f C S a b : Addr} {cd v : Value} {cl cl2 : List (Str × Addr)} {m : Mp} {l : Ld} {k n c c2 j : Nat} {e e1 e2 elt iter : Expr} {p1 p2 p3 p4 px px2 tp pos spos : Pos} {E : Value → Shared → Prop} {Q : Flow → Shared → Prop} {rest body : List Stmt} {R1 : Value → Prop} {kk : Value → Ld → Prop} {vs xs ys : List Value} {i : Int} {tk0 : Nat} {env : Env}
theorem ew_upto (hl : ∀ h, Led P m l h → h.IsList a xs.toArray) (h1 : Ev P env m l e1 (V (.ref a))) (h2 : Ev P env m l e2 (I (j : Nat))) (hz : xs.length ≤ 100000) (hk : ∀ D, (∀ p ∈ l, p.1 < D) → kk (.ref D) ((D, listOf (xs.take j).toArray 0) :: l))
    (hs : ∀ (s : Shared), subscripted (.Slice none (some e2) none p1) false (.ref a) (.ref s.heap.objs.size) = operate [.ref s.heap.objs.size, .ref a] (getItem (.ref a) (.ref s.heap.objs.size)) := by intro _; with_unfolding_all rfl) (ht : ∀ r, letTemporaryGo e1 (.ref a) r = pure () := by intro _; with_unfolding_all rfl) :
    Ew P env m l (.Subscript e1 (.Slice none (some e2) none p1) pos) kk := fun hp tk H Q E hQ =>
  Subscript_ (h1 hp tk H _ _ fun v1 ha ta q Ha => wpAny_Slice (part0 ha ta Ha _ _ fun v2 hb' tb hv Hb => part1 h2 hb' tb Hb _ _ fun v3 hc tc hu Hc => wpAny_pure (by
    subst q
    exact kmk_slice_lit (s := P.S hc tc) (zs := xs.take j) Hc.F Hc.N (hl _ Hc) hv hu (by rw [slicePick_upto']) (fun D h' F' N' lt => hQ _ _ h' tc (hk D lt) ⟨F', N'⟩) (hs _) ht (by rw [List.size_toArray, sizeLine_eq]; omega))))
theorem ew_cat (h1 : Ev P env m l e1 (V (.ref a))) (h2 : Ev P env m l e2 (V (.ref b))) (ha : (a, listOf xs.toArray c) ∈ l) (hb : (b, listOf ys.toArray c2) ∈ l) (hz : xs.length + ys.length ≤ 10000) (hk : ∀ D, kk (.ref D) ((D, listOf (xs ++ ys).toArray 0) :: l)) : Ew P env m l (.BinOp e1 .Add e2 pos) kk := fun hp tk H Q E hQ =>
  wpAny_BinOp (h1 hp tk H _ _ fun v h1 t1 q1 H1 => h2 h1 t1 H1 _ _ fun u h2 t2 q2 H2 => by
    subst q1 q2
    exact cat_led (s := P.S h2 t2) H2.F H2.N ha hb hz fun D h' F' N' => hQ _ _ h' t2 (hk D) ⟨F', N'⟩)
theorem cmp_neL {is : List It} (O : Ok P env (k + 1)) (ha : (a, listOf xs.toArray c) ∈ l) (hb : (b, listOf ys.toArray c2) ∈ l) (h1 : ItsIn l xs is) (h2 : ItsIn l ys is) : CmpL P m l .NotEq (.ref a) (.ref b) False := fun hp tk H Q E hQ =>
  ne_led (s := P.S hp tk) H.N ha hb h1 h2 (by have := O.C.units; omega) (hQ false _ (by simp))
theorem cmp_eqL {is : List It} (O : Ok P env (k + 1)) (ha : (a, listOf xs.toArray c) ∈ l) (hb : (b, listOf ys.toArray c2) ∈ l) (h1 : ItsIn l xs is) (h2 : ItsIn l ys is) : CmpL P m l .Eq (.ref a) (.ref b) True := fun hp tk H Q E hQ =>
  eq_led (s := P.S hp tk) H.N ha hb h1 h2 (by have := O.C.units; omega) (hQ true _ (by simp))
theorem cmp_neLen (O : Ok P env (k + 1)) (ha : (a, listOf xs.toArray c) ∈ l) (hb : (b, listOf ys.toArray c2) ∈ l) (h : xs.length ≠ ys.length) : CmpL P m l .NotEq (.ref a) (.ref b) True := fun hp tk H Q E hQ =>
  PySem.SeqAt.RcNeAt.lists_lengths (s := P.S hp tk) (items := xs.toArray) (items2 := ys.toArray) ⟨_, (H.N _ ha).1, rfl, _, rfl⟩ ⟨_, (H.N _ hb).1, rfl, _, rfl⟩ (by simpa using h) (by have := O.C.units; omega) _ _ _ _ (hQ true _ (by simp))
theorem ew_tup2 (h : Ew P env m l e1 (fun v1 l1 => Ew P env m l1 e2 (fun v2 l2 => ∀ D, kk (.ref D) ((D, tupO [v1, v2]) :: l2)))) (hz : okEs [e1, e2] = true := by rfl) : Ew P env m l (.Tuple [e1, e2] j pos) kk := fun hp tk H Q E hQ =>
  Tuple_ (args_cons (h hp tk H _ _ fun v1 l1 ha ta hv Ha => args_cons (hv ha ta Ha _ _ fun v2 l2 hb tb hw Hb => args_nil (kup_newTuple (s := P.S hb tb) Hb.F Hb.N (fun D h' F N lo => hQ _ _ h' tb (hw D) ⟨F, N⟩) (by rw [sizeLine_eq]; exact Nat.le_of_ble_eq_true rfl))) (star1 (okEs_tail hz))) (star1 hz))
theorem ew_addM (h1 : Ev P env m l e1 (I i)) (h2 : Ew P env m l e2 (fun v l' => ∃ j, I j v ∧ ∀ t, kk (.int (i + j) t) l')) : Ew P env m l (.BinOp e1 .Add e2 pos) kk := fun hp tk H Q E hQ =>
  wpAny_BinOp (h1 hp tk H _ _ fun v ha ta hv Ha => h2 ha ta Ha _ _ fun u l' hb tb ⟨j, hu, hk⟩ Hb => bin_add v u hv hu hb tb _ _ fun r t' ⟨t, e⟩ => e ▸ hQ _ l' hb t' (hk t) Hb)
theorem ew_item (h : Ew P env m l e1 (fun v l1 => Ew P env m l1 e2 (fun u l2 => Ex6 fun (a : Addr) (xs : List Value) (c : Nat) (i : Int) (t : Tok) (w : Value) => An8 (v = .ref a) (u = .int i t) ((a, listOf xs.toArray c) ∈ l2) (0 ≤ i) (i < (xs.length : Int)) (xs.length ≤ 1000) (xs[i.toNat]? = some w) (kk w l2))))
    (hs : ∀ a i u, subscripted e2 false (.ref a) (.int i u) = operate [.ref a, .int i u] (getItem (.ref a) (.int i u)) := by intro _ _ _; with_unfolding_all rfl) : Ew P env m l (.Subscript e1 e2 pos) kk := fun hp tk H Q E hQ =>
  Subscript_ (h hp tk H _ _ fun v l1 ha ta hv Ha => hv ha ta Ha _ _ fun u l2 hb tb ⟨a, xs, c, i, t, w, e1, e2, hm, h0, hi, hz, hw, hk⟩ Hb => by
    subst e1 e2
    have hl : hb.IsList a xs.toArray := ⟨_, (Hb.N _ hm).1, rfl, c, rfl⟩
    exact tail_any (s := P.S hb tb) hl.typeIs slot_list_getitem.lookup (wpAny_getItem_list hl h0 (by omega) (by simpa using hw) (hQ _ _ hb _ hk Hb)) (hs a i t))
theorem ew_list2 {R1 R2 : Value → Prop} (h1 : Ev P env m l e1 R1) (h2 : Ev P env m l e2 R2) (hk : ∀ v u q, R1 v → R2 u → (∀ p ∈ l, p.1 < q) → kk (.ref q) ((q, listOf [v, u].toArray 0) :: l)) (hz : okEs [e1, e2] = true := by rfl) : Ew P env m l (.List [e1, e2] pos) kk := fun hp tk H Q E hQ =>
  List_ (evs2 h1 h2 hz hp tk pos H _ _ fun vs ha ta ⟨v', u', e, q1, q2⟩ Ha => by
    subst e
    exact newList_K (s := P.S ha ta) Ha.F Ha.N (fun q h3 F3 N3 lt => hQ _ _ h3 ta (hk _ _ q q1 q2 lt) ⟨F3, N3⟩) (by rw [sizeLine_eq]; exact Nat.le_of_ble_eq_true rfl))
theorem ew_list0 (hk : ∀ q, (∀ p ∈ l, p.1 < q) → kk (.ref q) ((q, listOf [].toArray 0) :: l)) : Ew P env m l (.List [] pos) kk := fun hp tk H Q E hQ =>
  List_ (args_nil (newList_K (s := P.S hp tk) H.F H.N (fun q h3 F3 N3 lt => hQ _ _ h3 tk (hk q lt) ⟨F3, N3⟩) (by rw [sizeLine_eq]; exact Nat.le_of_ble_eq_true rfl)))
theorem ew_compP (O : Ok P (envX cn cs P.L f cd cl) k) (J : Nat → List Value → Ld → Prop) (h1 : Ev P (envX cn cs P.L f cd cl) m l iter (V (.ref S))) (hS : (S, listOf vs.toArray c) ∈ l) (hz : vs.length ≤ 1000) (h0 : J 0 [] l)
    (turn : ∀ i ys news v, J i ys news → vs[i]? = some v → ∃ t v1 v2 nt, v = .ref t ∧ (t, ({ cls := .type "tuple", data := .seq #[v1, v2] nt } : Obj)) ∈ news ∧ ∀ I oI C oC D m2, LCg.NsObj oC m2 → m2 x = some v1 → m2 x2 = some v2 → LCg.Off3 I C D news →
      Ew P (compEnvC scope cl2 C (envX cn cs P.L f cd cl)) m ((I, oI) :: (C, oC) :: (D, LCg.lst ys) :: news) elt (fun w l' => ∃ news', (∀ p ∈ (I, oI) :: (C, oC) :: (D, LCg.lst ys) :: news', p ∈ l') ∧ LCg.Off3 I C D news' ∧ LCg.SrcAt P.g S vs.toArray news' ∧ J (i + 1) (ys ++ [w]) news'))
    (fin : ∀ D ys news, J vs.length ys news → kk (.ref D) ((D, lst ys) :: news))
    (hclos : closureFor scope (envX cn cs P.L f cd cl) = pure cl2 := by rfl) (hcell : ∀ y ∈ scope.names, y.2 ≠ .cell := by decide) (hkind : scope.kind = .function := by rfl)
    (hnames : ∀ y ∈ scope.names, y.2 = .local → scope.names.lookup y.1 = some .local := by decide) (hx : scope.names.lookup x = some .local := by rfl) (hx2 : scope.names.lookup x2 = some .local := by rfl) (hxx : x ≠ x2 := by decide)
    (hs : ∀ y, foldedSetIterable iter (envX cn cs P.L f cd cl) y = pure y := by intro _; rfl) :
    Ew P (envX cn cs P.L f cd cl) m l (.ListComp elt [⟨.Tuple [.Name x px, .Name x2 px2] tk0 tp, iter, [], 0⟩] scope pos) kk := fun hp tk H Q E hQ =>
  ListComp_P (s := P.S hp tk) H.F hclos hcell hkind hnames hx hx2 hxx (h1 hp tk H _ _ fun v h1 t1 q H1 => by
    subst q
    exact SrcLP.ledger O.C.handled H1.F H1.N hS (by rw [List.size_toArray, sizeLine_eq]; omega) fun g₁ => by
      rw [List.size_toArray]
      exact restP (h0 := g₁) (t0 := t1) J (fun ys news hJ D h tk F N _ => hQ _ _ h tk (fin D ys news hJ) ⟨F, N⟩) turn vs.length 0 [] l (Nat.zero_add _) h0) hs
theorem W.asgR (O : Ok P (envX cn cs P.L f cd cl) k) (J : Nat → List Value → Ld → Prop) (h1 : Ew P (envX cn cs P.L f cd cl) m l iter (fun v l' => ∃ r t u w, v = .ref r ∧ l' = (r, rangeO (n : Nat) t u w) :: l)) (hz : n ≤ 1000) (h0 : J 0 [] l)
    (turn : ∀ i ys news, i < n → J i ys news → ∀ I oI C oC D m2 t, LCg.NsObj oC m2 → m2 x = some (.int (0 + (i : Int)) t) → LCg.Off3 I C D news →
      Ew P (compEnvC scope cl2 C (envX cn cs P.L f cd cl)) m ((I, oI) :: (C, oC) :: (D, LCg.lst ys) :: news) elt (fun w l' => ∃ news', (∀ p ∈ (I, oI) :: (C, oC) :: (D, LCg.lst ys) :: news', p ∈ l') ∧ LCg.Off3 I C D news' ∧ J (i + 1) (ys ++ [w]) news'))
    (fin : ∀ D ys news, J n ys news → W P (envX cn cs P.L f cd cl) (upd m y (.ref D)) ((D, lst ys) :: news) rest Q E)
    (hsw : swapsWith (.ListComp elt [⟨.Name x px, iter, [], 0⟩] scope pos) (some (.Name y p1)) spos.line (envX cn cs P.L f cd cl) = pure true := by with_unfolding_all rfl)
    (hclos : closureFor scope (envX cn cs P.L f cd cl) = pure cl2 := by rfl) (hcell : ∀ y ∈ scope.names, y.2 ≠ .cell := by decide) (hkind : scope.kind = .function := by rfl)
    (hnames : ∀ y ∈ scope.names, y.2 = .local → scope.names.lookup y.1 = some .local := by decide) (hx : scope.names.lookup x = some .local := by rfl) (hy : isL cs y = true := by rfl)
    (hs : ∀ y, foldedSetIterable iter (envX cn cs P.L f cd cl) y = pure y := by intro _; rfl) :
    W P (envX cn cs P.L f cd cl) m l (.Assign [.Name y p1] (.ListComp elt [⟨.Name x px, iter, [], 0⟩] scope pos) spos :: rest) Q E := W.consA fun hp tk H =>
  have ky := isL_parts (cn := cn) (L := P.L) (f := f) (cd := cd) (cl := cl) hy
  Assign_ListComp_U (s := P.S hp tk) H.F rfl hsw hclos hcell hkind hnames hx ky.2.1 (by show (cs.kind == .class || (cs.kind == .module && _)) = false; rw [ky.1]; rfl) (h1 hp tk H _ _ fun v l1 h1 t1 ⟨r, t, u, w, e, e2⟩ H1 => by
    subst e e2
    refine CompSrc.range (n := n) O.C.handled H1.F (H1.sub fun q hq => .tail _ hq).N (H1.N _ (.head _)).1 (small_one (by decide) (by decide) (by omega) (by omega)) (by rw [rangeSize_nat]; omega) (by rw [sizeLine_eq]; omega) fun g₁ => ?_
    exact restR (h0 := g₁) (t0 := t1) J (fun ys news hJ D h tk F N _ => fin D ys news hJ h tk ⟨F, N⟩) turn n 0 [] l (Nat.zero_add _) h0) hs
end
end
section
set_option maxHeartbeats 2000000
open PyProof.Rows.LCg PyProof.Rows.LCp
section
variable {P : Pt} {cn x x2 x3 : Str} {cs scope : Scope} {f S : Addr} {cd v : Value} {cl cl2 : List (Str × Addr)} {m : Mp} {l : Ld} {k n c j : Nat} {e e1 iter : Expr} {p1 p2 p3 p4 p5 px px2 tp pos : Pos} {E : Value → Shared → Prop} {Q : Flow → Shared → Prop} {rest body : List Stmt} {kk : Value → Ld → Prop} {vs : List Value} {tk0 : Nat} {env : Env}
theorem W.forR (hb : P.b = true) (O : Ok P (envX cn cs P.L f cd cl) k) (J : Nat → Mp → Ld → Prop) (h1 : Ew P (envX cn cs P.L f cd cl) m l iter (fun v l' => ∃ r t u w, v = .ref r ∧ l' = (r, rangeO (n : Nat) t u w) :: l)) (hz : n ≤ 1000) (h0 : J 0 m l) (hcls : ∀ i m l, J i m l → ∀ q ∈ l, q.2.cls ≠ .type "range_iterator")
    (turn : ∀ i m1 l1 t I Qb Eb, i < n → J i m1 l1 → (∀ m2 l2, J (i + 1) m2 l2 → W P (envX cn cs P.L f cd cl) m2 ((I, rgO (i + 1) n) :: l2) [] Qb Eb) → W P (envX cn cs P.L f cd cl) (upd m1 x (.int i t)) ((I, rgO (i + 1) n) :: l1) body Qb Eb)
    (done : ∀ m' l', J n m' l' → W P (envX cn cs P.L f cd cl) m' l' rest Q E) (hx : isL cs x = true := by rfl) (hs : ∀ y, foldedSetIterable iter (envX cn cs P.L f cd cl) y = pure y := by intro _; rfl) :
    W P (envX cn cs P.L f cd cl) m l (.For (.Name x px) iter body [] pos :: rest) Q E := W.cons fun hp tk H => by
  have kx := isL_parts (cn := cn) (L := P.L) (f := f) (cd := cd) (cl := cl) hx
  rw [hb]
  refine wpB.of_n (nFor (s := P.S hp tk) (h1 hp tk H _ _ fun v l1 h1 t1 ⟨r, t, u, w, e, e2⟩ H1 => ?_) hs)
  subst e e2
  refine iter_rg (s := P.S h1 t1) (n := n) H1.F (H1.sub fun q hq => .tail _ hq).N (H1.N _ (.head _)).1 (small_one (by decide) (by decide) (by omega) (by omega)) rfl fun I h6 F6 N6 => ?_
  refine for_range (s := P.S h6 t1) J rfl kx.2.1 (by show (cs.kind == .class || (cs.kind == .module && _)) = false; rw [kx.1]; rfl) O.C.handled F6 N6 h0 hcls (fun i m1 l1 h tk t hi hJ F1 N1 => ?_) fun m1 l1 h tk hJ F1 N1 => ?_
  · exact (turn i m1 l1 t I _ _ hi hJ (fun m2 l2 hJ2 => W.nil fun h2 t2 H2 => .mk ⟨h2, t2, m2, l2, rfl, H2.F, H2.N, hJ2⟩) h tk ⟨F1, N1⟩).to_n
  · have := done m1 l1 hJ h tk ⟨F1, N1⟩
    rw [hb] at this
    exact this
theorem W.forP (hb : P.b = true) (O : Ok P (envX cn cs P.L f cd cl) k) (J : Nat → Mp → Ld → Prop) (h1 : Ev P (envX cn cs P.L f cd cl) m l iter (V (.ref S))) (h0 : J 0 m l) (hcls : ∀ i m l, J i m l → (S, listOf vs.toArray c) ∈ l ∧ ∀ q ∈ l, q.2.cls ≠ .type "list_iterator")
    (turn : ∀ i m1 l1 v, vs[i]? = some v → J i m1 l1 → ∃ (t : Addr) (ot : Obj) (v₁ v₂ : Value) (nt : Nat), v = .ref t ∧ (t, ot) ∈ l1 ∧ ot.cls = .type "tuple" ∧ ot.data = .seq #[v₁, v₂] nt ∧
      ∀ I oI Qb Eb, (∀ m2 l2, J (i + 1) m2 l2 → W P (envX cn cs P.L f cd cl) m2 ((I, oI) :: l2) [] Qb Eb) → W P (envX cn cs P.L f cd cl) (upd (upd m1 x v₁) x2 v₂) ((I, oI) :: l1) body Qb Eb)
    (done : ∀ m' l', J vs.length m' l' → W P (envX cn cs P.L f cd cl) m' l' rest Q E) (hx : isL cs x = true := by rfl) (hx2 : isL cs x2 = true := by rfl) (hs : ∀ y, foldedSetIterable iter (envX cn cs P.L f cd cl) y = pure y := by intro _; rfl) :
    W P (envX cn cs P.L f cd cl) m l (.For (.Tuple [.Name x px, .Name x2 px2] tk0 tp) iter body [] pos :: rest) Q E := W.cons fun hp tk H => by
  have kx := isL_parts (cn := cn) (L := P.L) (f := f) (cd := cd) (cl := cl) hx
  have kx2 := isL_parts (cn := cn) (L := P.L) (f := f) (cd := cd) (cl := cl) hx2
  rw [hb]
  refine wpB.of_n (nFor (s := P.S hp tk) (h1 hp tk H _ _ fun v h1 t1 q H1 => ?_) hs)
  subst q
  refine iter_ls (s := P.S h1 t1) H1.F H1.N (hcls _ _ _ h0).1 fun I oI h6 hI F6 N6 => ?_
  refine for_pairs (s := P.S h6 t1) J rfl kx.2.1 kx2.2.1 (by show (cs.kind == .class || (cs.kind == .module && _)) = false; rw [kx.1]; rfl) O.C.handled hI F6 N6 h0 hcls (fun i m1 l1 v hv hJ => ?_) fun m1 l1 h tk hJ F1 N1 => ?_
  · obtain ⟨t, ot, v1, v2, nt, e, hm, hc, hd, T⟩ := turn i m1 l1 v hv hJ
    exact ⟨t, ot, v1, v2, nt, e, hm, hc, hd, fun oI2 h tk hI2 F1 N1 => (T I oI2 _ _ (fun m2 l2 hJ2 => W.nil fun h2 t2 H2 => .mk ⟨h2, t2, m2, l2, rfl, H2.F, H2.N, hJ2⟩) h tk ⟨F1, N1⟩).to_n⟩
  · have := done m1 l1 hJ h tk ⟨F1, N1⟩
    rw [hb] at this
    exact this
theorem ew_join {sep : Bs} {t : Tok} (hm : Ev P env m l (.Name x p1) (V (.bytes sep.toArray t))) (h1 : Ew P env m l e1 (fun v l' => Ex4 fun a vs bs c => An7 (v = .ref a) ((a, listOf vs.toArray c) ∈ l') (BytesAre vs bs) (2 ≤ vs.length) (vs.length ≤ 100) (∀ b ∈ bs, b.length ≤ 100) (∀ t, kk (.bytes (joinB sep bs).toArray t) l'))) (hs : sep.length ≤ 100)
    (hz : okEs [e1] = true := by rfl) (hl : (p2.endLine == p3.line) = true := by rfl) : Ew P env m l (.Call (.Attribute (.Name x p1) (Str.ofString "join") p2) [e1] [] p3) kk := fun hp tk H Q E hQ =>
  wpB.to_any (bCallMeth (b := false) (hm hp tk H _ _ fun v' h' tk' hv' H' => by
    subst hv'
    refine meth_join (s := P.S h' tk') (bCallWithP (first := [.bytes sep.toArray t]) (backTo_any hz) rfl (args_cons (h1 h' tk' H' _ _ fun v l' ha ta ⟨a, vs, bs, c, e, hm, hb, h2, hn, hbz, hk⟩ Ha => args_nil (wpB.of_any ?_)) (star1 hz)))
    subst e
    exact by_join (s := P.S ha ta) (Ha.N _ hm).1 hb h2 hbz hn hs fun t tk => by rw [joined_eq]; exact hQ _ l' ha tk (hk t) Ha) hl (meth_form hz) evalMeth baseName)
theorem W.asg3s (O : Ok P (envX cn cs P.L f cd cl) k) (h : Ew P (envX cn cs P.L f cd cl) m l e (fun v l' => ∃ D v1 v2 v3, v = .ref D ∧ (D, tupO [v1, v2, v3]) ∈ l' ∧ W P (envX cn cs P.L f cd cl) (upd (upd (upd m x3 v3) x2 v2) x v1) l' rest Q E))
    (hx : isL cs x = true := by rfl) (hx2 : isL cs x2 = true := by rfl) (hx3 : isL cs x3 = true := by rfl) (hs : swapsWithSole [.Tuple [.Name x p1, .Name x2 p2, .Name x3 p3] j p4] e pos.line (envX cn cs P.L f cd cl) = pure false := by rfl)
    (hw : swappedStores [.Tuple [.Name x p1, .Name x2 p2, .Name x3 p3] j p4] e (envX cn cs P.L f cd cl) = pure (some [x, x2, x3]) := by rfl) : W P (envX cn cs P.L f cd cl) m l (.Assign [.Tuple [.Name x p1, .Name x2 p2, .Name x3 p3] j p4] e pos :: rest) Q E :=
  W.consA fun hp tk H => Assign_Tuple_swapped (names := [x, x2, x3]) (h hp tk H _ _ fun v l' h1 t1 ⟨D, v1, v2, v3, q, hD, w⟩ H1 => by
    subst q
    refine unpackItemsN_ (s := P.S h1 t1) H1.F H1.N (News.isTup H1.N hD) O.C.handled rfl fun h2 F2 N2 => ?_
    refine assignInOrder_cons (bindName_ (store_upd (tk := t1) ⟨F2, N2⟩ hx3 fun h3 t3 H3 => ?_))
    refine assignInOrder_cons (bindName_ (store_upd H3 hx2 fun h4 t4 H4 => ?_))
    refine assignInOrder_cons (bindName_ (store_upd H4 hx fun h5 t5 H5 => ?_))
    exact assignInOrder_nil (w h5 t5 H5)) hs hw
theorem ew_pick (O : Ok P (envX cn cs P.L f cd cl) k) (h1 : Ev P (envX cn cs P.L f cd cl) m l iter (V (.ref S))) (hS : (S, listOf vs.toArray c) ∈ l) (hz : vs.length ≤ 1000) (bs : List Bool) (hbl : bs.length = vs.length)
    (turn : ∀ (i : Nat) (v : Value) (b : Bool), vs[i]? = some v → bs[i]? = some b → ∃ t v1 v2 nt, v = .ref t ∧ (t, ({ cls := .type "tuple", data := .seq #[v1, v2] nt } : Obj)) ∈ l ∧ (b = true ↔ v2 = .none))
    (fin : ∀ D (ys : List Value), ys.length = (bs.filter id).length → kk (.ref D) ((D, lst ys) :: l))
    (hclos : closureFor scope (envX cn cs P.L f cd cl) = pure cl2 := by rfl) (hcell : ∀ y ∈ scope.names, y.2 ≠ .cell := by decide) (hkind : scope.kind = .function := by rfl)
    (hnames : ∀ y ∈ scope.names, y.2 = .local → scope.names.lookup y.1 = some .local := by decide) (hx : scope.names.lookup x = some .local := by rfl) (hx2 : scope.names.lookup x2 = some .local := by rfl) (hxx : x ≠ x2 := by decide)
    (hf : (compEnvC scope cl2 0 (envX cn cs P.L f cd cl)).scope.kind = .function := by rfl) (hg : (compEnvC scope cl2 0 (envX cn cs P.L f cd cl)).kindOf x2 = some .local := by rfl) (hd : (x2 == ("__debug__" : Str)) = false := by decide)
    (hs : ∀ y, foldedSetIterable iter (envX cn cs P.L f cd cl) y = pure y := by intro _; rfl) :
    Ew P (envX cn cs P.L f cd cl) m l (.ListComp (.Name x2 p1) [⟨.Tuple [.Name x px, .Name x2 px2] tk0 tp, iter, [.Compare (.Name x2 p2) [.Is] [.Constant .none j p3] p4], 0⟩] scope pos) kk := fun hp tk H Q E hQ =>
  comp_pick (s := P.S hp tk) (g := P.g) (L := P.L) (m := m) (led := l) (S := S) (nS := c) (bs := bs) hclos hcell hkind hnames hx hx2 hxx O.C.handled (h1 hp tk H _ _ fun v h1 t1 q H1 => ⟨q, H1.F, H1.N, hS, hbl, hz, fun s₂ ⟨h7, e7⟩ i v b hv hb => by
    subst e7
    obtain ⟨t, v1, v2, nt, e, hm, hbv⟩ := turn i v b hv hb
    refine ⟨t, _, v1, v2, nt, e, hm, rfl, rfl, fun I oI C oC D m₂ ys h tk E' hoC hx1 hx2' F4 N4 off ne => ?_⟩
    refine wpAny_isTrue_Compare1 (LCgL.ld_own N4 (.tail _ (.head _)) hoC hx2' (wpAny_Constant_none (is_none (wpAny_truthy_bool ⟨?_, ?_⟩))) hf hg hd) (behind_off rfl)
    · cases b with
      | true => rw [hbv.mp rfl]; rfl
      | false => exact beq_eq_false_iff_ne.mpr fun q => Bool.false_ne_true (hbv.mpr q)
    · split
      · exact LCgL.ld_own N4 (.tail _ (.head _)) hoC hx2' ⟨_, rfl⟩ hf hg hd
      · exact ⟨_, rfl⟩, fun D h' tk' ys hy F' N' => hQ _ _ h' tk' (fin D ys hy) ⟨F', N'⟩⟩) hs
end
end
section
set_option maxHeartbeats 2000000
open PyProof.Rows.LCg PyProof.Rows.LCp
section
variable {P : Pt} {cn x : Str} {cs : Scope} {f cc : Addr} {cd v : Value} {cl : List (Str × Addr)} {m : Mp} {l : Ld} {k n1 n2 : Nat} {e e1 e2 : Expr} {p1 p2 pos : Pos} {E : Value → Shared → Prop} {Q : Flow → Shared → Prop} {rest : List Stmt} {kk : Value → Ld → Prop} {env : Env} {i : Int} {o : Obj}
theorem ew_bag {R : Obj → Prop} (O : Ok P env k) (h1 : ∀ d o, Ew P env m ((d, o) :: l) e1 (fun v l' => ∃ D x, v = .ref D ∧ l' = (D, x) :: (d, o) :: l ∧ d < D ∧ R x)) (h2 : ∀ l, Ev P env m l e2 (I i))
    (hk : ∀ D d x o t, R x → d < D → (∀ p ∈ l, p.1 < d) → o.IsDictOf (strKind P.prog P.w) [(Str.ofString "all", .ref D), (Str.ofString "at", .int i t)] → kk (.ref d) ((D, x) :: (d, o) :: l)) :
    Ew P env m l (.Dict [some (.Constant (.str (Str.ofString "all")) n1 p1), some (.Constant (.str (Str.ofString "at")) n2 p2)] [e1, e2] pos) kk := fun hp tk H Q E hQ =>
  kdn_str (s := P.S hp tk) (prog := P.prog) (w := P.w) rfl H.F H.N (Top.nolimit O.T) rfl rfl (List.cons_ne_nil _ _) (Nat.le_of_ble_eq_true rfl) fun d h' o F' N' lt lo hd => pairTrees_cons_walk (Constant_str (h1 d o h' _ ⟨F', N'⟩ _ _ fun v l1 ha ta ⟨D, x, e, e2, hlt, hR⟩ Ha =>
    pairTrees_cons_walk (Constant_str (h2 l1 ha _ Ha _ _ fun u hb tb ⟨t3, q⟩ Hb => pairTrees_nil_walk (by
      subst e e2 q
      exact kdn_made_str (s := P.S hb tb) Hb.F Hb.N (.tail (Ne.symm (Nat.ne_of_lt hlt)) (.head fun p hp => Nat.ne_of_lt (lt p hp))) hd rfl (of_decide_eq_true rfl) fun h9 o9 F9 N9 hd9 => hQ _ _ h9 _ (hk D d x o9 t3 hR hlt lt hd9) ⟨F9, N9⟩)))))
theorem W.asgC (h : Ew P (envX cn cs P.L f cd cl) m l e (fun v l' => ∃ oc g v0, UpdF cc oc l' g ∧ oc.data = .cell v0 ∧ ∀ oc', oc'.data = .cell (some v) → W P (envX cn cs P.L f cd cl) m (g oc') rest Q E)) (hc : cl.lookup x = some cc := by rfl) (hk : cs.kind = .function := by rfl) (hx : (envX cn cs P.L f cd cl).kindOf x = some .cell := by rfl)
    (hs : swapsWith e (some (.Name x p1)) pos.line (envX cn cs P.L f cd cl) = pure false := by rfl) : W P (envX cn cs P.L f cd cl) m l (.Assign [.Name x p1] e pos :: rest) Q E :=
  W.consA fun hp tk H => wpAny_Assign_Name (h hp tk H _ _ fun v l' ha ta ⟨oc, g, v0, U, hd, w⟩ Ha => storeX_C (s := P.S ha ta) Ha.F Ha.N hc U hd (fun h' o' F' N' hd' => w o' hd' h' _ ⟨F', N'⟩) hk hx) hs
theorem ev_cell (hc : cl.lookup x = some cc) (hm : (cc, o) ∈ l) (hd : o.data = .cell (some v)) (hk : cs.kind = .function := by rfl) (hx : (envX cn cs P.L f cd cl).kindOf x = some .cell := by rfl) (hb : (x == ("__debug__" : Str)) = false := by decide) :
    Ev P (envX cn cs P.L f cd cl) m l (.Name x pos) (V v) := fun hp tk H Q E hQ => nameX_C (s := P.S hp tk) H.N hc hm hd (hQ _ hp _ rfl H) hk hx hb
end
end
section
set_option maxHeartbeats 2000000
open PyProof.Rows.LCg PyProof.Rows.LCp
section
variable {prog : Program} {w : World} {A : Around} {s : Shared} {R : Result → Shared → Prop} {name qual : Str} {params : Arguments} {body : List Stmt} {scope : Scope} {dV kV doc pm cdv ct : Value} {an : Option Addr} {fo : Obj} {f : Addr} {args : Args} {binds : List (Str × Value)}
theorem codeN_cells (hlim : s.heap.NoLimit) (hroom : A.depth < recursionLimit)
    (ho : s.heap.get? f = some fo) (hd : fo.data = .func (fnX name qual params body scope [] dV kV doc pm an cdv ct)) (hcd : s.heap.CodeRec cdv qual)
    (hbind : BindsTo s (fnX name qual params body scope [] dV kV doc pm an cdv ct) args binds)
    (hkind : ∀ n, ∀ x ∈ binds, scope.names.lookup x.1 = some .local ∨ (scope.names.lookup x.1 = some .cell ∧ ((cellsFrom n scope.names []).lookup x.1).isSome = true))
    (hnd : ((cellsFrom 0 scope.names []).map (·.1)).Nodup)
    (h : ∀ h₁ tk cells, Fr s.heap s.heap.objs.size h₁ (bindL (envOfC qual scope s.heap.objs.size f cdv).kindOf binds fun _ => none) → News s.heap s.heap.objs.size h₁ cells →
      CellsAre (bindC (envOfC qual scope s.heap.objs.size f cdv).kindOf binds fun _ => none) (cellsFrom (s.heap.objs.size + 1) scope.names []) cells →
      wpN (model prog w) (A.deeper (envOfC qual scope s.heap.objs.size f cdv)) (execs body (envOfC qual scope s.heap.objs.size f cdv))
        (fun fl s' => R (.ok (.ret (match fl with | .ret v => v | _ => .none))) s')
        (fun e s' => wpAny (model prog w) (A.deeper (envOfC qual scope s.heap.objs.size f cdv)) (leaving (envOfC qual scope s.heap.objs.size f cdv) e) (fun _ s'' => R (.error e) s'') (fun e' s'' => R (.error e') s'') s')
        { s with heap := h₁, toks := tk })
    (hco : scope.isCoroutine = false := by rfl) (hgen : scope.isGenerator = false := by rfl) (hk : scope.kind = .function := by rfl) : codeN (model prog w) A (.call (.ref f) args) R s := by
  refine codeN_call_function hroom ho hd hco hgen rfl hcd (hbind _ _ _ _ ?_)
  refine wpAny_newFunctionEnv_cells hk (hkind _) fun env' he s' x => ?_
  subst he
  refine ⟨hlim.keeps x.toInCall.keep, codeN_func ?_⟩
  obtain ⟨h₁, tk, rfl, _⟩ := x.done
  have hk₁ := x.toInCall.keep
  obtain ⟨cells, NC, Y⟩ := Cl.news (h₀ := s.heap) (Nat.le_refl _) fun n c hm => ⟨x.cell n c (lookup_of_mem_nodup (cellsFrom_names scope.names 0 (s.heap.objs.size + 1) [] [] rfl ▸ hnd) hm), x.above n c hm⟩
  exact h h₁ tk cells ⟨x.toInCall.ns, hk₁, Nat.le_refl _⟩ NC Y
end
theorem Cx.law {g : Heap} {env : Env} {L : Addr} (hf : env.frame = some L) (hk : env.scope.kind = .function) (hn : g.get? L = none) : Cx (callerA.deeper env) env [] g g L 24 := by
  refine ⟨rfl, hf, hk, ?_, ?_, rfl, ⟨callerA, below_caller g⟩, hn⟩
  · show callerA.depth + 1 + 2 * 24 < recursionLimit
    decide +kernel
  · show callerA.units + 3 + 20 * 24 < cLine
    decide +kernel
section
variable {prog : Program} {w : World} {s : Shared} {E : Value → Shared → Prop} {PP : Value → Shared → Prop} {name qual cx : Str} {params : Arguments} {body : List Stmt} {scope : Scope} {dV kV doc pm cdv ct oc0 : Value} {an od : Option Addr} {osl : Array (Option Value)} {f : Addr} {args : List Value} {mean : ExcName → Option Value} {mg mb : Str → Option Value}
theorem call_law (binds : List (Str × Value)) (m0 : Mp) (X : (Mine.H.hd.heap_1_1 w.params).In s.heap) (T : TopH mean mg mb s.heap)
    (ho : (Mine.H.hd.heap_1_1 w.params).lookup f = some ⟨oc0, od, .func (fnX name qual params body scope [] dV kV doc pm an cdv ct), osl⟩) (hcd : codeIn (Mine.H.hd.heap_1_1 w.params) cdv qual = true)
    (hbind : BindsTo s (fnX name qual params body scope [] dV kV doc pm an cdv ct) ⟨args, []⟩ binds) (hkind : ∀ n, ∀ x ∈ binds, scope.names.lookup x.1 = some .local ∨ (scope.names.lookup x.1 = some .cell ∧ ((cellsFrom n scope.names []).lookup x.1).isSome = true))
    (hcl : ∀ n, cellsFrom n scope.names [] = [(cx, n)]) (hm0 : bindL (envX qual scope 0 f cdv []).kindOf binds (fun _ => none) = m0) (hc0 : bindC (envX qual scope 0 f cdv []).kindOf binds (fun _ => none) cx = none) (hs : (!scope.isCoroutine && (!scope.isGenerator && scope.kind == .function)) = true)
    (h : ∀ h' tk', (∀ b o, s.heap.get? b = some o → h'.get? b = some o) → PP (.bool true) { s with heap := h', toks := tk' })
    (walk : ∀ P' : Pt, P'.b = true → P'.base = P'.g → P'.outer = [] → P'.g = s.heap → Ok P' (envX qual scope P'.L f cdv [(cx, P'.L + 1)]) 24 → ∀ oc, oc.data = .cell none → ∀ Qf Ef, (∀ m l hp tk, Led P' m l hp → Qf (.ret (.bool true)) (P'.S hp tk)) → W P' (envX qual scope P'.L f cdv [(cx, P'.L + 1)]) m0 [(P'.L + 1, oc)] body Qf Ef) :
    wpN (model prog w) callerA (call (.ref f) args) PP E s := by
  simp only [Bool.and_eq_true, Bool.not_eq_true', beq_iff_eq] at hs
  refine wpN_call (codeN_cells (prog := prog) (binds := binds) (Top.nolimit T) (by decide +kernel) (X _ _ ho) rfl (codeRec_of X hcd) hbind hkind (by rw [hcl]; simp) (fun h₁ tk cells F N Y => ?_) hs.1 hs.2.1 hs.2.2)
  rw [hcl] at Y
  obtain ⟨oc, rfl, hoc⟩ := CellsAre.one Y
  have e : envOfC qual scope s.heap.objs.size f cdv = envX qual scope s.heap.objs.size f cdv [(cx, s.heap.objs.size + 1)] := by
    show envX qual scope s.heap.objs.size f cdv (cellsFrom (s.heap.objs.size + 1) scope.names []) = _
    rw [hcl]
  have hoc' : oc.data = .cell none := hoc.trans (congrArg Data.cell hc0)
  have F' : Fr s.heap s.heap.objs.size h₁ m0 := hm0 ▸ F
  rw [e]
  exact (walk ⟨true, prog, w, callerA.deeper (envX qual scope s.heap.objs.size f cdv [(cx, s.heap.objs.size + 1)]), s.heap, [], s.heap, s.heap.objs.size, mean, mg, mb, s⟩ rfl rfl rfl rfl
    ⟨Cx.law rfl hs.2.2 (Heap.get?_none_of_le (Nat.le_refl _)), X, T⟩ oc hoc' _ _ (fun m l hp tk H => h hp tk H.F.keep) h₁ tk ⟨F', N⟩).to_n
end
end
section
set_option maxHeartbeats 2000000
open PyProof.Rows.LCg PyProof.Rows.LCp
theorem pcs_len : ∀ q ∈ pcs, q.1.length ≤ 6 := by decide
theorem pcs_its : ∀ q ∈ pcs, (q.2.getD []).length ≤ 10 := by decide
theorem fn_law_told {w : World} : Fn w (Str.ofString "_law_told") 483 := ⟨by k_is, by k_is⟩
theorem fn_law_pieces {w : World} : Fn w (Str.ofString "_law_pieces") 490 := ⟨by k_is, by k_is⟩
noncomputable def MM (B : Mp) (sz : Option Value) (la lv fv : Value) : Mp := fun y => if y = Str.ofString "size" then sz else if y = Str.ofString "lasting" then some la else if y = Str.ofString "last" then some lv else if y = Str.ofString "found" then some fv else B y
theorem mm_new {B : Mp} {la lv fv : Value} (h : B (Str.ofString "size") = none) : upd (upd (upd B (Str.ofString "found") fv) (Str.ofString "last") lv) (Str.ofString "lasting") la = MM B none la lv fv := funext fun y => by
  unfold MM upd
  by_cases e : y = Str.ofString "size"
  · subst e; exact h
  · simp only [if_neg e]
theorem mm_size {B : Mp} {sz : Option Value} {la lv fv v : Value} : upd (MM B sz la lv fv) (Str.ofString "size") v = MM B (some v) la lv fv := funext fun y => by
  unfold MM upd
  by_cases e : y = Str.ofString "size"
  · simp only [if_pos e]
  · simp only [if_neg e]
theorem mm_lasting {B : Mp} {sz : Option Value} {la lv fv v : Value} : upd (MM B sz la lv fv) (Str.ofString "lasting") v = MM B sz v lv fv := funext fun y => by
  unfold MM upd
  by_cases e : y = Str.ofString "lasting"
  · subst e; rfl
  · simp only [if_neg e]
theorem mm_last {B : Mp} {sz : Option Value} {la lv fv v : Value} : upd (MM B sz la lv fv) (Str.ofString "last") v = MM B sz la v fv := funext fun y => by
  unfold MM upd
  by_cases e : y = Str.ofString "last"
  · subst e; rfl
  · simp only [if_neg e]
theorem mm_found {B : Mp} {sz : Option Value} {la lv fv v : Value} : upd (MM B sz la lv fv) (Str.ofString "found") v = MM B sz la lv v := funext fun y => by
  unfold MM upd
  by_cases e : y = Str.ofString "found"
  · subst e; rfl
  · simp only [if_neg e]
section
variable {P : Pt} {cn x : Str} {cs : Scope} {f : Addr} {cd v u v3 : Value} {cl : List (Str × Addr)} {m : Mp} {l rest : Ld} {k j : Nat} {e e1 e2 e3 : Expr} {p1 p2 pos : Pos} {kk : Value → Ld → Prop} {env env' : Env} {i M : Int} {o : Obj} {b al : Addr} {xs : List Value} {ns : List Int} {n2 : Nat} {t : Tok}
theorem ev_absI (O : Ok P (envX cn cs P.L f cd cl) k) (h1 : Ev P (envX cn cs P.L f cd cl) m l e1 (I i)) (hx : isG cs (Str.ofString "abs") = true := by rfl) (hz : okEs [e1] = true := by rfl) :
    Ev P (envX cn cs P.L f cd cl) m l (.Call (.Name (Str.ofString "abs") p1) [e1] [] pos) (I (if i < 0 then -i else i)) := ev_blt1 bn_abs O h1 (fun u ⟨t, e⟩ m' hp tk H Q E hQ => by
  subst e
  exact call_abs_int (s := P.S hp tk) fun t' tk' => hQ _ hp tk' ⟨t', rfl⟩ H) hx hz
theorem ew_tup3 (h : Ew P env m l e1 (fun v1 l1 => ∀ D, kk (.ref D) ((D, tupO [v1, u, v3]) :: l1))) (h2 : ∀ l, Ev P env m l e2 (V u)) (h3 : ∀ l, Ev P env m l e3 (V v3)) (hz : okEs [e1, e2, e3] = true := by rfl) : Ew P env m l (.Tuple [e1, e2, e3] j pos) kk := fun hp tk H Q E hQ =>
  Tuple_ (args_cons (h hp tk H _ _ fun v1 l1 ha ta hv Ha => evs2 (h2 l1) (h3 l1) (okEs_tail hz) ha ta pos Ha _ _ fun vs hb tb ⟨v', w', e, q1, q2⟩ Hb => by
    subst e q1 q2
    exact kup_newTuple (s := P.S hb tb) Hb.F Hb.N (fun D h' F N lo => hQ _ _ h' tb (hv D) ⟨F, N⟩) (by rw [sizeLine_eq]; exact Nat.le_of_ble_eq_true rfl)) (star1 hz))
theorem ew_told (O : Ok P env (k + 2)) (hf : Ev P env' m l (.Name x p1) (V (.ref 483))) (hg : Ev P env' m l e1 (V (.ref b))) (hsub : ∀ q ∈ (b, o) :: rest, q ∈ l) (hc : ∀ q ∈ rest, q.1 ≠ b) (hal : (al, listOf xs.toArray n2) ∈ rest) (hb : o.IsDictOf (strKind P.prog P.w) [(Str.ofString "all", .ref al), (Str.ofString "at", .int i t)])
    (hi : IntsAre xs ns) (hx : xs.length ≤ 6) (h0 : 0 ≤ i ∧ i ≤ 10) (hM : 2 ≤ M ∧ M ≤ 20)
    (h : ∀ v t' t'' o', 0 ≤ v → v < M → o'.IsDictOf (strKind P.prog P.w) [(Str.ofString "all", .ref al), (Str.ofString "at", .int (i + 1) t')] → kk (.int v t'') ((b, o') :: rest)) (hz : okEs [e1, .Constant (.int M) j p2] = true := by rfl) :
    Ew P env' m l (.Call (.Name x p1) [e1, .Constant (.int M) j p2] [] pos) kk :=
  ew_callG fn_law_told.kp O.X hf (evs2 hg ev_int hz) (fun us hus => by
    obtain ⟨v, w, rfl, rfl, hw⟩ := hus
    exact CallX.sub (told_x O hc hal hb hi hx h0 hM h w hw) hsub) hz
end
section
variable {P : Pt} {env : Env} {m : Mp} {l : Ld} {e test : Expr} {body orelse rest : List Stmt} {p q : Prop} {pos : Pos} {Q : Flow → Shared → Prop} {E : Value → Shared → Prop}
theorem W.ifJ (J : Mp → Ld → Prop) (ht : ET P env m l test p) (h1 : p → ∀ Qb, (∀ m' l', J m' l' → W P env m' l' [] Qb E) → W P env m l body Qb E) (h0 : ¬ p → ∀ Qb, (∀ m' l', J m' l' → W P env m' l' [] Qb E) → W P env m l orelse Qb E)
    (hJ : ∀ m' l', J m' l' → W P env m' l' rest Q E) : W P env m l (.If test body orelse pos :: rest) Q E := fun hp tk H Γ q hΓ hc => by
  rw [execs_cons, Sem.wp_bind']
  simp only [exec_If, Sem.wp_bind', Sem.wp_cmd_standAt]
  refine Sem.wp_mono P.M Γ _ (fun b p₂ s₂ h₂ => ?_) (fun _ _ _ h' => h') _ _
    (ht hp tk H (fun b s₂ => wpB P.b P.M P.A (execs (if b then body else orelse) env) (fun f s' => match f with | .next => wpB P.b P.M P.A (execs rest env) Q E s' | f => Q f s') E s₂) E (fun b h' tk' hb H' => ?_) Γ _ hΓ)
  · cases b <;> exact Sem.wp_mono P.M Γ _ (fun f p' s' h' => by cases f <;> first | exact h' Γ p' hΓ hc | exact h') (fun _ _ _ h' => h') _ _ (h₂ Γ p₂ hΓ hc)
  · cases b with
    | true => exact h1 (hb.mp rfl) _ (fun m' l' hj => W.nil fun hp tk H => hJ m' l' hj hp tk H) _ _ H'
    | false => exact h0 (fun x => Bool.false_ne_true (hb.mpr x)) _ (fun m' l' hj => W.nil fun hp tk H => hJ m' l' hj hp tk H) _ _ H'
end
section
variable {w : World} {prog : Program} {s : Shared} {mean : ExcName → Option Value} {mg mb : Str → Option Value} {E : Value → Shared → Prop}
set_option maxHeartbeats 8000000 in
theorem law_c {a : Addr} {vs : List Value} {ns : List Int} {PP : Value → Shared → Prop} (X : (Mine.H.hd.heap_1_1 w.params).In s.heap) (T : TopH mean mg mb s.heap) (hs : s.heap.IsList a vs.toArray) (hi : IntsAre vs ns) (hz : vs.length ≤ 63)
    (h : ∀ h' tk', (∀ b o, s.heap.get? b = some o → h'.get? b = some o) → PP (.bool true) { s with heap := h', toks := tk' }) :
    wpN (model prog w) callerA (call (.ref 507) [.ref a]) PP E s := by
  refine' call_law (cx := Str.ofString "bag") [(Str.ofString "script", .ref a)] (fun y => if y = Str.ofString "script" then some (.ref a) else none) X T ?k1 ?k2 ?k3 ?k4 ?k5 ?k6 ?k7 ?k8 h ?_
  (case k1 => k_is); (case k2 => k_is); (case k3 => exact BindsTo.of_eq rfl); (case k4 => exact fun n x hx => by obtain rfl := List.mem_singleton.mp hx; exact .inl rfl); (case k5 => exact fun _ => rfl); (case k6 => rfl); (case k7 => rfl); (case k8 => rfl)
  intro P hb hbase hout hg O oc hoc Qf Ef hend
  rw [← hg] at hs
  have hl0 : ∀ {m l} h, Led P m l h → h.IsList a vs.toArray := fun h H => let ⟨o, e, r⟩ := hs; ⟨o, H.F.keep _ _ e, r⟩
  clear hs hg h X T
  -- the bag
  refine W.asgC (cc := P.L + 1) (ew_bag (R := fun x => x = listOf (vs.take 6).toArray 0) O (fun d o => ew_upto (j := 6) hl0 (Ev.loc rfl) ev_int (by (first | lia | omega)) fun D hlt => ⟨D, _, rfl, rfl, hlt _ (.head _), rfl⟩) (fun l => ev_int) fun al b x o t hx hlt h1 ho => ?_)
  subst hx
  have h2 := h1 _ (.head _)
  refine ⟨oc, _, none, .tail (Ne.symm (Nat.ne_of_lt (Nat.lt_trans h2 hlt))) (.tail (Ne.symm (Nat.ne_of_lt h2)) (.head fun _ h => nomatch h)), hoc, fun oc' hoc' => ?_⟩
  have hxi := hi.take 6
  have hxl : (vs.take 6).length ≤ 6 := by rw [List.length_take]; (first | lia | omega)
  revert hxi hxl
  generalize vs.take 6 = xs
  generalize ns.take 6 = ms
  intro hxi hxl
  have hrest : ∀ q ∈ [(al, listOf xs.toArray 0), (P.L + 1, oc')], q.1 ≠ b := List.forall_mem_cons.mpr ⟨Ne.symm (Nat.ne_of_lt hlt), List.forall_mem_cons.mpr ⟨Nat.ne_of_lt h2, fun _ h => nomatch h⟩⟩
  clear hoc h1 h2 hlt hl0 hi hz
  -- many, gap
  refine W.asg2s O (ew_tup2 (ew_addM ev_int (ew_told (rest := [(al, listOf xs.toArray 0), (P.L + 1, oc')]) O (Ev.glob O fn_law_told.at_) (ev_cell rfl (.tail _ (.tail _ (.head _))) hoc') (fun q hq => by
    rcases List.mem_cons.mp hq with rfl | hq
    · exact .tail _ (.head _)
    rcases List.mem_cons.mp hq with rfl | hq
    · exact .head _
    · exact .tail _ (.tail _ hq)) hrest (.head _) ho hxi hxl (by (first | lia | omega)) (by (first | lia | omega)) fun mv t1 t2 o1 hm0 hm3 ho1 => ⟨mv, ⟨_, rfl⟩, fun tm => ?_⟩)))
  refine ew_item (ew_list2 ev_bytes ev_bytes fun v u q ⟨ta, hv⟩ ⟨tb, hu⟩ hq => ew_told (rest := (q, listOf [v, u].toArray 0) :: [(al, listOf xs.toArray 0), (P.L + 1, oc')]) O (Ev.glob O fn_law_told.at_) (ev_cell rfl (.tail _ (.tail _ (.tail _ (.head _)))) hoc') (fun p hp => by
    rcases List.mem_cons.mp hp with rfl | hp
    · exact .tail _ (.head _)
    rcases List.mem_cons.mp hp with rfl | hp
    · exact .head _
    · exact .tail _ (.tail _ hp)) (List.forall_mem_cons.mpr ⟨Ne.symm (Nat.ne_of_lt (hq _ (.head _))), hrest⟩) (.tail _ (.head _)) ho1 hxi hxl (by (first | lia | omega)) (by (first | lia | omega)) fun gv t3 t4 o2 hg0 hg2 ho2 => ?_)
  obtain ⟨gp, tg, hgp, hget⟩ : ∃ (gp : Bs) (tg : Tok), (gp = [32] ∨ gp = []) ∧ [v, u][gv.toNat]? = some (.bytes gp.toArray tg) := by
    have : gv = 0 ∨ gv = 1 := by (first | lia | omega)
    rcases this with rfl | rfl
    · exact ⟨[32], ta, .inl rfl, congrArg some hv⟩
    · exact ⟨[], tb, .inr rfl, congrArg some hu⟩
  refine ⟨q, [v, u], 0, gv, t4, _, rfl, rfl, .tail _ (.head _), hg0, hg2, Nat.le_of_ble_eq_true rfl, hget, fun D => ⟨D, _, _, rfl, .head _, ?_⟩⟩
  refine W.perm ((b, o2) :: (al, listOf xs.toArray 0) :: (P.L + 1, oc') :: []) (fun p hp => by
    rcases List.mem_cons.mp hp with rfl | hp
    · exact .tail _ (.head _)
    · exact .tail _ (.tail _ (.tail _ hp))) ?_
  obtain ⟨mn, hmn⟩ : ∃ mn : Nat, 2 + mv = (mn : Int) := ⟨(2 + mv).toNat, by (first | lia | omega)⟩
  rw [hmn]
  obtain ⟨m2, e0, e1, e2, e3⟩ : ∃ m2, upd (upd (fun y => if y = Str.ofString "script" then some (.ref a) else none) (Str.ofString "gap") (.bytes gp.toArray tg)) (Str.ofString "many") (.int mn tm) = m2 ∧ m2 (Str.ofString "many") = some (.int mn tm) ∧ m2 (Str.ofString "gap") = some (.bytes gp.toArray tg) ∧ m2 (Str.ofString "size") = none := ⟨_, rfl, rfl, rfl, rfl⟩
  rw [e0]
  clear e0 hv hu hq hget hg0 hg2 ho1 ho
  have hmn2 : 2 ≤ mn ∧ mn ≤ 4 := by (first | lia | omega)
  clear hmn hm0 hm3
  replace ho2 : o2.IsDictOf (strKind P.prog P.w) [(Str.ofString "all", .ref al), (Str.ofString "at", .int (2 + ((0 : Nat) : Int)) t3)] := ho2
  -- some
  refine W.asgR (n := mn) O (fun i ys news => Ex4 fun o t pl qs => An7 (news = (b, o) :: (al, listOf xs.toArray 0) :: (P.L + 1, oc') :: pl) (o.IsDictOf (strKind P.prog P.w) [(Str.ofString "all", .ref al), (Str.ofString "at", .int (2 + (i : Int)) t)]) (PcsIn pl ys qs) (qs.length = i) (∀ q ∈ qs, q ∈ pcs) (TupLst pl) (∀ q ∈ pl, q.1 ≠ b))
    (ew_range O (Ev.i (Ev.loc e1)) fun r t u w => ⟨r, t, u, w, rfl, rfl⟩) (by (first | lia | omega)) ⟨o2, t3, [], [], rfl, ho2, .nil, rfl, (fun _ h => nomatch h), (fun _ h => nomatch h), (fun _ h => nomatch h)⟩ ?turn ?fin
  case turn =>
    rintro i ys _ hi ⟨o, t, pl, qs, rfl, hd1, hp, hln, hqs, hc, hne⟩ I0 oI C oC D m3 t5 hoC hx off
    refine ew_item (ew_callG (a := 490) fn_law_pieces.kp O.X (ev_globC O fn_law_pieces.at_) evs_nil (fun us hus => by
      subst hus
      refine pieces_x O fun a2 pvs pl2 ha hP hT hne2 => ?_
      refine ew_told (rest := pl2 ++ (I0, oI) :: (C, oC) :: (D, lst ys) :: (al, listOf xs.toArray 0) :: (P.L + 1, oc') :: pl) O (ev_globC O fn_law_told.at_) (ev_cellC rfl (List.mem_append_right _ (.tail _ (.tail _ (.tail _ (.tail _ (.tail _ (.head _))))))) hoc') (fun q hq => ?sub) (fun q hq => ?hc) (List.mem_append_right _ (.tail _ (.tail _ (.tail _ (.head _))))) hd1 hxi hxl (by (first | lia | omega)) (by (first | lia | omega)) fun pv t3 t4 o3 hp0 hp20 ho3 => ?_
      case sub =>
        rcases List.mem_cons.mp hq with rfl | hq
        · exact List.mem_append_right _ (.tail _ (.tail _ (.tail _ (.head _))))
        rcases List.mem_append.mp hq with hq | hq
        · exact List.mem_append_left _ hq
        rcases List.mem_cons.mp hq with rfl | hq
        · exact List.mem_append_right _ (.head _)
        rcases List.mem_cons.mp hq with rfl | hq
        · exact List.mem_append_right _ (.tail _ (.head _))
        rcases List.mem_cons.mp hq with rfl | hq
        · exact List.mem_append_right _ (.tail _ (.tail _ (.head _)))
        · exact List.mem_append_right _ (.tail _ (.tail _ (.tail _ (.tail _ hq))))
      case hc =>
        have hoff := off.mem (b, o) (.head _)
        rcases List.mem_append.mp hq with hq | hq
        · exact hne2 q hq _ (.tail _ (.tail _ (.tail _ (.head _))))
        rcases List.mem_cons.mp hq with rfl | hq
        · exact Ne.symm hoff.1
        rcases List.mem_cons.mp hq with rfl | hq
        · exact Ne.symm hoff.2.1
        rcases List.mem_cons.mp hq with rfl | hq
        · exact Ne.symm hoff.2.2
        rcases List.mem_cons.mp hq with rfl | hq
        · exact hrest _ (.head _)
        rcases List.mem_cons.mp hq with rfl | hq
        · exact hrest _ (.tail _ (.head _))
        · exact hne q hq
      have hpl : pvs.length = 20 := hP.len
      have hget : pvs[pv.toNat]? = some (pvs[pv.toNat]'(by (first | lia | omega))) := List.getElem?_eq_getElem (by (first | lia | omega))
      obtain ⟨q, hq, hpc⟩ := hP.get pv.toNat hget
      refine ⟨a2, pvs, 0, pv, t4, _, rfl, rfl, .tail _ (List.mem_append_left _ ha), hp0, by (first | lia | omega), by (first | lia | omega), hget, (b, o3) :: (al, listOf xs.toArray 0) :: (P.L + 1, oc') :: (pl ++ pl2), fun p hp => ?m, Off3.of fun p hp => ?o, o3, t3, pl ++ pl2, qs ++ [q], rfl, ?bag, (PcsIn.mono (fun q hq => List.mem_append_left _ hq) hp).snoc (hpc.mono fun q hq => List.mem_append_right _ hq), by rw [List.length_append, List.length_singleton, hln], fun q' hq' => ?qs, fun q' hq' => (List.mem_append.mp hq').elim (hc q') (hT q'), fun q' hq' => (List.mem_append.mp hq').elim (hne q') fun h9 => hne2 q' h9 _ (.tail _ (.tail _ (.tail _ (.head _))))⟩
      case m =>
        rcases List.mem_cons.mp hp with rfl | hp
        · exact .tail _ (List.mem_append_right _ (.head _))
        rcases List.mem_cons.mp hp with rfl | hp
        · exact .tail _ (List.mem_append_right _ (.tail _ (.head _)))
        rcases List.mem_cons.mp hp with rfl | hp
        · exact .tail _ (List.mem_append_right _ (.tail _ (.tail _ (.head _))))
        rcases List.mem_cons.mp hp with rfl | hp
        · exact .head _
        rcases List.mem_cons.mp hp with rfl | hp
        · exact .tail _ (List.mem_append_right _ (.tail _ (.tail _ (.tail _ (.head _)))))
        rcases List.mem_cons.mp hp with rfl | hp
        · exact .tail _ (List.mem_append_right _ (.tail _ (.tail _ (.tail _ (.tail _ (.head _))))))
        rcases List.mem_append.mp hp with hp | hp
        · exact .tail _ (List.mem_append_right _ (.tail _ (.tail _ (.tail _ (.tail _ (.tail _ hp))))))
        · exact .tail _ (List.mem_append_left _ hp)
      case o =>
        rcases List.mem_cons.mp hp with rfl | hp
        · exact off.mem (b, o) (.head _)
        rcases List.mem_cons.mp hp with rfl | hp
        · exact off.mem _ (.tail _ (.head _))
        rcases List.mem_cons.mp hp with rfl | hp
        · exact off.mem _ (.tail _ (.tail _ (.head _)))
        rcases List.mem_append.mp hp with hp | hp
        · exact off.mem _ (.tail _ (.tail _ (.tail _ hp)))
        · exact ⟨hne2 p hp _ (.head _), hne2 p hp _ (.tail _ (.head _)), hne2 p hp _ (.tail _ (.tail _ (.head _)))⟩
      case bag =>
        rw [show (2 : Int) + ((i + 1 : Nat) : Int) = 2 + (i : Int) + 1 by (first | lia | omega)]
        exact ho3
      case qs =>
        rcases List.mem_append.mp hq' with h9 | h9
        · exact hqs q' h9
        · rw [List.mem_singleton.mp h9]; exact List.mem_of_getElem? hq) rfl)
  case fin =>
    rintro S ys _ ⟨o, t, pl, qs, rfl, -, hp, hln, hqs, hc, -⟩
    have hq24 : 2 ≤ qs.length ∧ qs.length ≤ 4 := by (first | lia | omega)
    have hpl := hp.len
    refine W.perm ((S, lst ys) :: pl) (fun q hq => by
      rcases List.mem_cons.mp hq with rfl | hq
      · exact .head _
      · exact .tail _ (.tail _ (.tail _ (.tail _ hq)))) ?_
    obtain ⟨m3, e0, e4, e5, e6⟩ : ∃ m3, upd m2 (Str.ofString "some") (.ref S) = m3 ∧ m3 (Str.ofString "some") = some (.ref S) ∧ m3 (Str.ofString "gap") = some (.bytes gp.toArray tg) ∧ m3 (Str.ofString "size") = none := ⟨_, rfl, if_pos rfl, (if_neg (by decide)).trans e2, (if_neg (by decide)).trans e3⟩
    rw [e0]
    clear e0 e1 e2 e3 hln hmn2 ho2 hrest hxi hxl hoc'
    -- text
    refine W.asgM (Ew.em (ew_join (Ev.loc e5) (ew_compP (S := S) (vs := ys) O (fun i zs news => news = (S, lst ys) :: pl ∧ BytesAre zs ((qs.take i).map (·.1))) (Ev.loc e4) (.head _) (by (first | lia | omega)) ⟨rfl, .nil⟩ ?turn4 ?fin4) (by rcases hgp with e | e <;> rw [e] <;> decide)))
    case turn4 =>
      rintro i zs _ v ⟨rfl, hy⟩ hv
      obtain ⟨q, hqi, p, t, u, nn, rfl, hm, hq⟩ := hp.get i hv
      refine ⟨p, _, u, nn, rfl, .tail _ hm, fun I0 oI C oC D m4 hoC hx1 hx2 off => Ev.ew (ev_own (.tail _ (.head _)) hoC hx1) fun w hw => ⟨_, fun p hp => hp, off, .inr ⟨_, .head _, rfl, _, rfl⟩, rfl, ?_⟩⟩
      rw [List.take_add_one, hqi, List.map_append]
      exact hy.snoc ⟨t, hw⟩
    case fin4 =>
      rintro D zs _ ⟨rfl, hy⟩
      rw [hpl, List.take_length] at hy
      have hyl := hy.len
      rw [List.length_map] at hyl
      refine ⟨D, zs, qs.map (·.1), _, rfl, .head _, hy, by (first | lia | omega), by (first | lia | omega), fun b hb => by obtain ⟨q, hq, rfl⟩ := List.mem_map.mp hb; exact Nat.le_trans (pcs_len q (hqs q hq)) (by decide), fun tt => ?_⟩
      refine W.perm ((S, lst ys) :: pl) (fun q hq => .tail _ hq) ?_
      have hT : (joinB gp (qs.map (·.1))).length ≤ 80 := by
        have h1 := joinB_len gp (qs.map (·.1)) (fun b hb => by obtain ⟨q, hq, rfl⟩ := List.mem_map.mp hb; exact pcs_len q (hqs q hq)) (by rcases hgp with e | e <;> rw [e] <;> decide)
        rw [List.length_map] at h1
        (first | lia | omega)
      clear hy hyl D zs
      have hte : gp = [32] → (∀ q ∈ qs, q.2 ≠ none) → heard (joinB gp (qs.map (·.1))) = some (qs.map fun q => q.2.getD []).flatten := fun e hn => e ▸ law_C hqs hn
      revert hT hte
      generalize joinB gp (qs.map (·.1)) = te
      intro hT hte
      obtain ⟨B, e0, e7, e8, e9, e10⟩ : ∃ B, upd m3 (Str.ofString "text") (.bytes te.toArray tt) = B ∧ B (Str.ofString "text") = some (.bytes te.toArray tt) ∧ B (Str.ofString "some") = some (.ref S) ∧ B (Str.ofString "gap") = some (.bytes gp.toArray tg) ∧ B (Str.ofString "size") = none := ⟨_, rfl, if_pos rfl, (if_neg (by decide)).trans e4, (if_neg (by decide)).trans e5, (if_neg (by decide)).trans e6⟩
      show W P _ (upd m3 (Str.ofString "text") (.bytes te.toArray tt)) _ _ Qf Ef
      rw [e0]
      clear e0 e4 e5 e6
      -- lasting, last, found
      refine W.asg3s O (ew_tup3 (ew_list0 fun la hla D => ⟨D, _, _, _, rfl, .head _, ?_⟩) (fun l => ev_none) fun l => ev_none)
      refine W.map (mm_new e10) ?_
      refine W.perm ((la, listOf ([] : List Value).toArray 0) :: (S, lst ys) :: pl) (fun q hq => .tail _ hq) ?_
      refine W.forR (n := te.length + 1) hb O (fun i m l => Ex4 fun sz la lv fv => An7 (m = MM B sz (.ref la) lv fv) (LstIn l la (stL te i).1) (LastIs lv (stL te i).2.1) (FoundIs l fv (stL te i).2.2) ((S, lst ys) ∈ l) (PcsIn l ys qs) (TupLst l))
        (ew_range O (ev_add (ev_len O (Ev.y (Ev.loc e7)) (by (first | lia | omega))) ev_int) fun r t u w => ⟨r, t, u, w, rfl, rfl⟩) (by (first | lia | omega)) ⟨none, la, .none, .none, rfl, ⟨[], 0, .head _, .nil⟩, rfl, rfl, .tail _ (.head _), PcsIn.mono (fun q hq => .tail _ (.tail _ hq)) hp, tl_cons (.inr rfl) (tl_cons (.inr rfl) hc)⟩ ?cls ?turn6 ?done6
      case cls =>
        rintro i m l ⟨sz, la, lv, fv, rfl, _, _, _, _, _, hTL⟩ q hq
        rcases hTL q hq with e | e <;> rw [e] <;> decide
      case turn6 =>
        clear e9 e10 hp hc hte hgp hq24 tg hqs hpl
        rintro i _ l1 t I0 Qb Eb hi ⟨sz, la, lv, fv, rfl, hla, hlv, -, hS, hp1, hTL⟩ nx
        refine W.map mm_size ?_
        refine W.asgM (em_call1 fn_law_heard O (ev_slice (Ev.y (Ev.loc e7)) part0 (part1 (Ev.i (Ev.loc rfl))) (by (first | lia | omega))) fun v hv => ?_)
        rw [cut_take (by (first | lia | omega))] at hv
        refine heard_w (k := 6) hb hbase hout O (by rw [List.length_take]; (first | lia | omega)) (fun a7 zs rl is he hy hr => ?_) (fun he => ?_) v hv
        · obtain ⟨hk1, hk2⟩ := law_step (by (first | lia | omega)) he
          obtain ⟨xs, ln, hlm, hli⟩ := hla
          have hst := stL_some he
          have hzl : zs.length ≤ 90 := by
            have := heard_len he
            rw [List.length_take] at this
            rw [hy.len]
            (first | lia | omega)
          have hfl := hy.len
          have hxl2 := hli.len
          have hxl : xs.length ≤ zs.length := by
            have h3 := congrArg List.length hk1
            rw [List.length_take] at h3
            (first | lia | omega)
          have hlm' : (la, listOf xs.toArray ln) ∈ (a7, lst zs) :: (rl ++ (I0, rgO (i + 1) (te.length + 1)) :: l1) := .tail _ (List.mem_append_right _ (.tail _ hlm))
          have hTL2 : TupLst ((a7, lst zs) :: (rl ++ l1)) := tl_cons (.inr rfl) fun q hq => (List.mem_append.mp hq).elim (fun h => .inl (hr q h)) (hTL q)
          have hfound : FoundIs ((a7, lst zs) :: (rl ++ l1)) (.ref a7) (some is) := ⟨a7, zs, _, rfl, .head _, ItsIn.mono (fun q hq => .tail _ (List.mem_append_left _ hq)) hy, hzl⟩
          have hsub1 : ∀ q ∈ l1, q ∈ (a7, lst zs) :: (rl ++ l1) := fun q hq => .tail _ (List.mem_append_right _ hq)
          have h9 : ItsIn rl (zs.take xs.length) (stL te i).1 := by
            have h := Items.take xs.length hy
            rw [hxl2, hk1] at h
            rw [hxl2]
            exact h
          have hlen1 : ∀ {m l}, (a7, lst zs) ∈ l → ∀ h, Led P m l h → h.IsList a7 zs.toArray := fun hm h H => list_IsList (c := zs.length) H.N hm
          have hlen2 : ∀ {m l}, (la, listOf xs.toArray ln) ∈ l → ∀ h, Led P m l h → h.IsList la xs.toArray := fun hm h H => list_IsList H.N hm
          refine W.map mm_found ?_
          refine W.ifs (et_isnot (Ev.loc rfl) ev_none) (fun _ => ?_) fun h => absurd (fun q => nomatch q) h
          refine W.ifT (EtX.em (EtX.or2 (EtX.cmp (ew_upto (j := xs.length) (hlen1 (.head _)) (Ev.loc rfl) (ev_lenL O (Ev.loc rfl) (hlen2 hlm') (by (first | lia | omega))) (by (first | lia | omega)) fun D hlt => Ev.ew (Ev.loc rfl) fun u hu => ?_))))
          obtain rfl : u = .ref la := hu
          refine ⟨False, cmp_neL O (.head _) (.tail _ hlm') (ItsIn.mono (fun q hq => .tail _ (.tail _ (List.mem_append_left _ hq))) h9) (ItsIn.mono (fun q hq => .tail _ (.tail _ (List.mem_append_right _ (.tail _ hq)))) hli), False.elim, fun _ => EtX.of (p := False) ?late False.elim fun _ => ?_⟩
          case late =>
            cases hlo : (stL te i).2.1 with
            | none =>
              rw [hlo] at hlv
              obtain rfl : lv = .none := hlv
              exact ET.iff (et_and2 (q := False) (et_isnot (Ev.loc rfl) ev_none) fun h => absurd rfl h) ⟨fun h => h.2, False.elim⟩
            | some ol =>
              rw [hlo] at hlv
              obtain ⟨tl, rfl⟩ := hlv
              obtain ⟨hb1, hb2⟩ := hk2 ol hlo
              refine ET.iff (et_and2 (et_isnot (Ev.loc rfl) ev_none) fun _ => et_gt (ev_absI O (ev_sub (ev_lenL O (Ev.loc rfl) (hlen1 (.tail _ (.head _))) (by (first | lia | omega))) (Ev.i (Ev.loc rfl)))) ev_int) ⟨fun h => ?_, False.elim⟩
              have := h.2
              split at this <;> (first | lia | omega)
          refine W.ifJ (fun m2 l2 => Ex2 fun la2 l3 => An5 (m2 = MM B (some (.int i t)) (.ref la2) lv (.ref a7)) (LstIn l3 la2 (stL te (i + 1)).1) (∀ q ∈ (a7, lst zs) :: (rl ++ l1), q ∈ l3) (TupLst l3) (∀ q ∈ (I0, rgO (i + 1) (te.length + 1)) :: l3, q ∈ l2)) (et_gt (ev_lenL O (Ev.loc rfl) (hlen1 (.tail _ (.head _))) (by (first | lia | omega))) (ev_add (ev_lenL O (Ev.loc rfl) (hlen2 (.tail _ hlm')) (by (first | lia | omega))) ev_int)) (fun hgt Qb2 nx2 => ?_) (fun hgt Qb2 nx2 => ?_) ?_
          · refine W.asgM (Ew.em (ew_upto (j := zs.length - 1) (hlen1 (.tail _ (.head _))) (Ev.loc rfl) (Ev.ieq (ev_sub (ev_lenL O (Ev.loc rfl) (hlen1 (.tail _ (.head _))) (by (first | lia | omega))) ev_int) (by (first | lia | omega))) (by (first | lia | omega)) fun D2 hlt2 => W.map mm_lasting (nx2 _ _ ⟨D2, (D2, listOf (zs.take (zs.length - 1)).toArray 0) :: (a7, lst zs) :: (rl ++ l1), rfl, ⟨_, _, .head _, ?_⟩, fun q hq => .tail _ hq, tl_cons (.inr rfl) hTL2, fun q hq => ?_⟩)))
            · rw [hst, if_pos (by (first | lia | omega)), ← hfl]
              exact ItsIn.mono (fun q hq => .tail _ (.tail _ (List.mem_append_left _ hq))) (Items.take _ hy)
            · rcases List.mem_cons.mp hq with rfl | hq
              · exact .tail _ (.tail _ (.tail _ (List.mem_append_right _ (.head _))))
              rcases List.mem_cons.mp hq with rfl | hq
              · exact .head _
              rcases List.mem_cons.mp hq with rfl | hq
              · exact .tail _ (.tail _ (.head _))
              rcases List.mem_append.mp hq with hq | hq
              · exact .tail _ (.tail _ (.tail _ (List.mem_append_left _ hq)))
              · exact .tail _ (.tail _ (.tail _ (List.mem_append_right _ (.tail _ hq))))
          · refine nx2 _ _ ⟨la, (a7, lst zs) :: (rl ++ l1), rfl, ?_, fun q hq => hq, hTL2, fun q hq => ?_⟩
            · rw [hst, if_neg (by (first | lia | omega))]
              exact ⟨xs, ln, hsub1 _ hlm, hli.mono hsub1⟩
            · rcases List.mem_cons.mp hq with rfl | hq
              · exact .tail _ (.tail _ (List.mem_append_right _ (.head _)))
              rcases List.mem_cons.mp hq with rfl | hq
              · exact .tail _ (.head _)
              rcases List.mem_append.mp hq with hq | hq
              · exact .tail _ (.tail _ (List.mem_append_left _ hq))
              · exact .tail _ (.tail _ (List.mem_append_right _ (.tail _ hq)))
          · rintro _ l2 ⟨la2, l3, rfl, hla2, hs3, hT3, hs2⟩
            refine W.perm _ hs2 ?_
            refine W.asgI (i := zs.length) (ev_if (et_isnone (Ev.loc rfl) ev_none) (fun h => nomatch h) fun _ => ev_lenL O (Ev.loc rfl) (hlen1 (.tail _ (hs3 _ (.head _)))) (by (first | lia | omega))) fun t9 => W.map mm_last (nx _ _ ⟨_, la2, _, _, rfl, hla2, ?_, ?_, hs3 _ (hsub1 _ hS), hp1.mono fun q hq => hs3 _ (hsub1 _ hq), hT3⟩)
            · rw [hst]; exact ⟨t9, by rw [hfl]⟩
            · rw [hst]; exact hfound.mono hs3
        · refine W.map mm_found ?_
          refine W.ifs (et_isnot (Ev.loc rfl) ev_none) (fun h => absurd rfl h) fun _ => ?_
          refine W.asg (R := V .none) (ev_if (et_isnone (Ev.loc rfl) ev_none) (fun _ => ev_none) fun h => absurd rfl h) fun v hv => ?_
          subst hv
          have hst := stL_none he
          exact W.map mm_last (nx _ _ ⟨_, la, .none, .none, rfl, by rw [hst]; exact hla, by rw [hst]; exact rfl, by rw [hst]; exact rfl, hS, hp1, hTL⟩)
      case done6 =>
        rintro _ l1 ⟨sz, la, lv, fv, rfl, -, -, hfv, hS, hp1, hTL⟩
        have h5 : (stL te (te.length + 1)).2.2 = heard te := by show heard (te.take te.length) = _; rw [List.take_length]
        rw [h5] at hfv
        have ret : ∀ {env m l p1 p2 n rest}, W P env m l (.Return (some (.Constant (.bool true) n p1)) p2 :: rest) Qf Ef := W.ret ev_bool fun v hp tk hv H => by
          obtain rfl : v = .bool true := hv
          exact hend _ _ hp tk H
        refine W.ifT (EtX.em (EtX.or2 (EtX.of (et_eqY (Ev.y (Ev.loc e9)) ev_bytes) (fun _ => ret) fun hgn => EtX.cmp (ew_pick (S := S) (vs := ys) O (Ev.loc e8) hS (by (first | lia | omega)) (qs.map (·.2.isNone)) (by rw [List.length_map, hpl]) ?pick fun D zs hz => ew_list0 fun D2 hlt2 => ?_))))
        case pick =>
          intro i v b hv hb9
          obtain ⟨q, hqi, p, t, u, nn, rfl, hm, hq⟩ := hp1.get i hv
          have hbq : b = q.2.isNone := by rw [List.getElem?_map, hqi] at hb9; exact (Option.some.inj hb9).symm
          refine ⟨p, _, u, nn, rfl, hm, ?_⟩
          rw [hbq]
          cases hq2 : q.2 with
          | none => rw [hq2] at hq; exact ⟨fun _ => hq, fun _ => rfl⟩
          | some is =>
            rw [hq2] at hq
            obtain ⟨ca, cvs, cn, rfl, _⟩ := hq
            exact ⟨fun h => (nomatch h), fun h => (nomatch h)⟩
        by_cases hz0 : zs.length = 0
        · obtain rfl : zs = [] := List.length_eq_zero_iff.mp hz0
          refine ⟨False, cmp_neL O (.tail _ (.head _)) (.head _) .nil .nil, False.elim, fun _ => ?_⟩
          refine W.perm l1 (fun q hq => .tail _ (.tail _ hq)) ?_
          have hn : ∀ q ∈ qs, q.2 ≠ none := fun q hq hqn => by
            have h8 : (qs.map (·.2.isNone)).filter id = [] := List.length_eq_zero_iff.mp hz.symm
            rw [List.filter_eq_nil_iff] at h8
            exact h8 true (List.mem_map.mpr ⟨q, hq, by rw [hqn]; rfl⟩) rfl
          rw [hte (hgp.resolve_right hgn) hn] at hfv
          obtain ⟨fa, fys, fn, rfl, hfm, hfi, hfl⟩ := hfv
          clear hz hz0 h5 ret hlt2 hgp hgn hte D D2
          -- due
          refine W.asgM (Ew.em (ew_list0 fun d hd => ?_))
          refine W.forP (S := S) (vs := ys) (c := ys.length) hb O (fun i m l => Ex3 fun d dvs nd => An10 (m (Str.ofString "due") = some (.ref d)) (m (Str.ofString "found") = some (.ref fa)) ((d, listOf dvs.toArray nd) ∈ l) (ItsIn l dvs ((qs.take i).map fun q => q.2.getD []).flatten) (dvs.length ≤ 10 * i) ((S, lst ys) ∈ l) (PcsIn l ys qs) ((fa, listOf fys.toArray fn) ∈ l) (ItsIn l fys (qs.map fun q => q.2.getD []).flatten) (TupLst l))
            (Ev.loc ((if_neg (by decide)).trans e8)) ⟨d, [], 0, if_pos rfl, rfl, .head _, .nil, Nat.le_refl _, .tail _ hS, hp1.mono fun q hq => .tail _ hq, .tail _ hfm, ItsIn.mono (fun q hq => .tail _ hq) hfi, tl_cons (.inr rfl) hTL⟩ ?cls9 ?turn9 ?done9
          case cls9 =>
            rintro i m l ⟨d, dvs, nd, _, _, _, _, _, hS2, _, _, _, hT⟩
            refine ⟨hS2, fun q hq => ?_⟩
            rcases hT q hq with e | e <;> rw [e] <;> decide
          case turn9 =>
            rintro i m1 l2 v hv ⟨d, dvs, nd, e11, e12, hd, hdi, hdl, hS2, hp2, hfa, hfi2, hT⟩
            obtain ⟨q, hqi, p, t, u, nn, rfl, hm, hq⟩ := hp2.get i hv
            have hqm := List.mem_of_getElem? hqi
            obtain ⟨is, hqe⟩ := Option.ne_none_iff_exists'.mp (hn q hqm)
            rw [hqe] at hq
            obtain ⟨ca, cvs, cn, rfl, hca, hci⟩ := hq
            have hcl2 : cvs.length ≤ 10 := by
              have h2 := pcs_its q (hqs q hqm)
              rw [hqe] at h2
              rw [hci.len]
              exact h2
            have hi4 : i < qs.length := (List.getElem?_eq_some_iff.mp hqi).1
            refine ⟨p, _, _, _, nn, rfl, hm, rfl, rfl, fun I0 oI Qb Eb nx => ?_⟩
            refine W.asgM (Ew.em (ew_cat (Ev.loc ((if_neg (by decide)).trans ((if_neg (by decide)).trans e11))) (Ev.loc (if_pos rfl)) (.tail _ hd) (.tail _ hca) (by (first | lia | omega)) fun D => ?_))
            refine W.perm ((I0, oI) :: (D, listOf (dvs ++ cvs).toArray 0) :: l2) (fun q hq => ?_) (nx _ _ ⟨D, dvs ++ cvs, 0, if_pos rfl, (if_neg (by decide)).trans ((if_neg (by decide)).trans ((if_neg (by decide)).trans e12)), .head _, ?_, ?_, .tail _ hS2, hp2.mono fun q hq => .tail _ hq, .tail _ hfa, ItsIn.mono (fun q hq => .tail _ hq) hfi2, tl_cons (.inr rfl) hT⟩)
            · rcases List.mem_cons.mp hq with rfl | hq
              · exact .tail _ (.head _)
              rcases List.mem_cons.mp hq with rfl | hq
              · exact .head _
              · exact .tail _ (.tail _ hq)
            · rw [List.take_add_one, hqi, List.map_append, List.flatten_append]
              refine Items.app ?_ (ItsIn.mono (fun q hq => .tail _ hq) hdi)
              simp only [Option.toList_some, List.map_cons, List.map_nil, List.flatten_cons, List.flatten_nil, List.append_nil, hqe, Option.getD_some]
              exact ItsIn.mono (fun q hq => .tail _ hq) hci
            · rw [List.length_append]; (first | lia | omega)
          case done9 =>
            rintro m1 l2 ⟨d, dvs, nd, e11, e12, hd, hdi, _, _, _, hfa, hfi2, _⟩
            rw [hpl, List.take_length] at hdi
            refine W.retM (Ew.em (ew_cmp (Ev.ew (Ev.loc e12) fun v hv => Ev.ew (Ev.loc e11) fun u hu => ?_)))
            obtain rfl : v = .ref fa := hv
            obtain rfl : u = .ref d := hu
            refine ⟨True, cmp_eqL O hfa hd hfi2 hdi, fun c hc9 hp tk H => ?_⟩
            obtain rfl : c = true := hc9.mpr trivial
            exact hend _ _ hp tk H
        · exact ⟨True, cmp_neLen O (.tail _ (.head _)) (.head _) hz0, fun _ => ret, fun h => absurd trivial h⟩
end
end
end Mine
section
open PySem PySem.W PyProof.Rows PySem.Spec PySem.Calls
namespace Mine
theorem top.tw17542608870123051758 : True := ⟨⟩
theorem top.tw14466935161476858967 : True := ⟨⟩
theorem top.tw16878204669230926818 : True := ⟨⟩
theorem top.tw11760055953109336660 : True := ⟨⟩
theorem top.tw4213018616267185653 : True := ⟨⟩
theorem top.tw16666122058527598403 : True := ⟨⟩
theorem top.tw4547018644641229820 : True := ⟨⟩
theorem top.tw1971433849790844608 : True := ⟨⟩
theorem top.tw13305523845174962083 : True := ⟨⟩
theorem top.tw16885616592811714743 : True := ⟨⟩
theorem top.tw4047667213573674445 : True := ⟨⟩
theorem top.tw11520865232209809239 : True := ⟨⟩
theorem top.tw2880671085445912983 : True := ⟨⟩
theorem top.tw2464713573024523455 : True := ⟨⟩
theorem top.tw13994475860397038760 : True := ⟨⟩
theorem top.tw9227057690007400460 : True := ⟨⟩
theorem top.tw14632489290957082403 : True := ⟨⟩
theorem top.tw5667650583090716360 : True := ⟨⟩
theorem top.tw7008692893051332821 : True := ⟨⟩
theorem top.tw1040915598704419856 : True := ⟨⟩
theorem top.tw18177719399980262173 : True := ⟨⟩
theorem top.tw18034075008235765660 : True := ⟨⟩
theorem top.tw775762912060472103 : True := ⟨⟩
theorem top.tw283044589724301 : True := ⟨⟩
theorem top.tw9366391650621772374 : True := ⟨⟩
theorem top.tw1617357707322924660 : True := ⟨⟩
theorem top.tw427269002284569659 : True := ⟨⟩
theorem top.tw4796303294375832693 : True := ⟨⟩
theorem top.tw12638030207367898728 : True := ⟨⟩
theorem top.tw8598144960395782539 : True := ⟨⟩
theorem top.tw6127594578889010139 : True := ⟨⟩
theorem top.tw13802547742096326172 : True := ⟨⟩
theorem top.tw11133666699803404755 : True := ⟨⟩
theorem top.tw2665807947273092163 : True := ⟨⟩
theorem top.tw5244899138074338376 : True := ⟨⟩
theorem top.tw7127249843939869334 : True := ⟨⟩
theorem top.tw1869187583165140508 : True := ⟨⟩
theorem top.tw3730354652608582461 : True := ⟨⟩
theorem top.tw8679839319945467846 : True := ⟨⟩
theorem top.tw908825868028484722 : True := ⟨⟩
theorem top.tw11012874149002130535 : True := ⟨⟩
theorem top.tw104434173382791472 : True := ⟨⟩
theorem top.tw1814787853859245837 : True := ⟨⟩
theorem top.tw7527032243904285869 : True := ⟨⟩
theorem top.tw11922380849998532372 : True := ⟨⟩
theorem top.tw17576949682797635024 : True := ⟨⟩
theorem top.tw6211089042160764376 : True := ⟨⟩
theorem top.tw1754339480302792767 : True := ⟨⟩
theorem top.tw5507162329139097715 : True := ⟨⟩
theorem top.tw453181688931711583 : True := ⟨⟩
theorem top.tw13261893007816960818 : True := ⟨⟩
theorem top.tw17594962761535629368 : True := ⟨⟩
theorem top.tw13044034144603486326 : True := ⟨⟩
theorem top.tw13500427573557490136 : True := ⟨⟩
theorem top.tw13369591340354186047 : True := ⟨⟩
theorem top.tw16439428074185983240 : True := ⟨⟩
theorem top.tw6333448901615975916 : True := ⟨⟩
theorem top.tw8321918168302905379 : True := ⟨⟩
theorem top.tw7198060816514059695 : True := ⟨⟩
theorem top.tw17176029603704830031 : True := ⟨⟩
theorem top.tw11858546649754279707 : True := ⟨⟩
theorem top.tw47109162367338493 : True := ⟨⟩
theorem top.tw9233335307524088747 : True := ⟨⟩
theorem top.tw12415523145999629524 : True := ⟨⟩
theorem top.tw1195175773429642966 : True := ⟨⟩
theorem top.tw16058212318047004132 : True := ⟨⟩
theorem top.tw8054331753737935190 : True := ⟨⟩
theorem top.tw390997316461189296 : True := ⟨⟩
theorem top.tw1124271682379634556 : True := ⟨⟩
theorem top.tw4597200072644226624 : True := ⟨⟩
theorem top.tw8735323631387419056 : True := ⟨⟩
theorem top.tw3874152929960365753 : True := ⟨⟩
theorem top.tw1284575025550258836 : True := ⟨⟩
theorem top.tw8689318265317240412 : True := ⟨⟩
theorem top.tw6694047246710070196 : True := ⟨⟩
theorem top.tw5225916559131626549 : True := ⟨⟩
theorem top.tw7313339093194340965 : True := ⟨⟩
theorem top.tw8729362747519067210 : True := ⟨⟩
theorem top.tw7681529838311687354 : True := ⟨⟩
theorem top.tw5609151216138764652 : True := ⟨⟩
theorem top.tw13272337422414781067 : True := ⟨⟩
theorem top.tw10801874191123338550 : True := ⟨⟩
theorem top.tw18367679650794681301 : True := ⟨⟩
theorem top.tw84136930442132756 : True := ⟨⟩
theorem top.tw8212240652046128837 : True := ⟨⟩
theorem top.tw6659320528611288953 : True := ⟨⟩
theorem top.tw5787654588494941081 : True := ⟨⟩
theorem top.tw602653604445443664 : True := ⟨⟩
theorem top.tw14399976873020721970 : True := ⟨⟩
theorem top.tw7250933059871147345 : True := ⟨⟩
theorem top.tw2985252069258134486 : True := ⟨⟩
theorem top.tw681777741448182936 : True := ⟨⟩
theorem top.tw12904532413392791838 : True := ⟨⟩
theorem top.tw16004416686337608138 : True := ⟨⟩
theorem top.tw8204474986945543665 : True := ⟨⟩
theorem top.tw13370750898655102155 : True := ⟨⟩
theorem top.tw8435561252592420358 : True := ⟨⟩
theorem top.tw8139039716903228087 : True := ⟨⟩
theorem top.tw12425085872883035938 : True := ⟨⟩
theorem top.tw5088376156974544275 : True := ⟨⟩
theorem top.tw1149218181149386328 : True := ⟨⟩
theorem top.tw5915399644114372684 : True := ⟨⟩
theorem top.tw9851269098105209369 : True := ⟨⟩
theorem top.tw7325726471975496349 : True := ⟨⟩
theorem top.tw3820434133910038737 : True := ⟨⟩
theorem top.tw7847650389618582240 : True := ⟨⟩
theorem top.tw14453841093610474573 : True := ⟨⟩
theorem top.tw14901070454687303710 : True := ⟨⟩
theorem top.tw4392038535549328194 : True := ⟨⟩
theorem top.tw16580785732701462914 : True := ⟨⟩
theorem top.tw2377541652452675900 : True := ⟨⟩
theorem top.tw4835499133494076262 : True := ⟨⟩
theorem top.tw10006222313960134694 : True := ⟨⟩
theorem top.tw7160873610591055699 : True := ⟨⟩
theorem top.tw3479634599624807885 : True := ⟨⟩
theorem top.tw1275901062530889299 : True := ⟨⟩
theorem top.tw8999917154711486175 : True := ⟨⟩
theorem top.tw12342655685612074800 : True := ⟨⟩
theorem top.tw14826035006057030972 : True := ⟨⟩
theorem top.tw10936122117785486979 : True := ⟨⟩
theorem top.tw15245507539482535896 : True := ⟨⟩
theorem top.tw5839659824258004927 : True := ⟨⟩
theorem top.tw1294077662247117797 : True := ⟨⟩
theorem top.tw1843344800811705456 : True := ⟨⟩
theorem top.tw4058662728301269685 : True := ⟨⟩
theorem top.tw3422688185749166683 : True := ⟨⟩
theorem top.tw9961057766049560675 : True := ⟨⟩
theorem top.tw16759092144687519636 : True := ⟨⟩
theorem top.tw13710211086531791108 : True := ⟨⟩
theorem top.tw7444641836354208208 : True := ⟨⟩
theorem top.tw15092371282622821202 : True := ⟨⟩
theorem top.tw1676862907878916244 : True := ⟨⟩
theorem top.tw10577272966987657301 : True := ⟨⟩
theorem top.tw661290744650703789 : True := ⟨⟩
theorem top.tw12483720753089274532 : True := ⟨⟩
theorem top.tw1027308269347308574 : True := ⟨⟩
theorem top.tw4551080515912023512 : True := ⟨⟩
theorem top.tw2126296398998916975 : True := ⟨⟩
theorem top.tw4736427724481360342 : True := ⟨⟩
theorem top.tw17342085116792181814 : True := ⟨⟩
theorem top.tw6919701780365589675 : True := ⟨⟩
theorem top.tw3739144386018749749 : True := ⟨⟩
theorem top.tw15976228082101565994 : True := ⟨⟩
theorem top.tw11582926029173025856 : True := ⟨⟩
theorem top.tw18085771088847121727 : True := ⟨⟩
theorem top.tw12819366960792805191 : True := ⟨⟩
theorem top.tw18063644159110109576 : True := ⟨⟩
theorem top.tw14724332232928298890 : True := ⟨⟩
theorem top.tw13385244156195431271 : True := ⟨⟩
theorem top.tw216529984938456764 : True := ⟨⟩
theorem top.tw10414433010598505635 : True := ⟨⟩
theorem top.tw17810072253543177317 : True := ⟨⟩
theorem top.tw5476889619067714990 : True := ⟨⟩
theorem top.tw6906291655842520137 : True := ⟨⟩
theorem top.tw4555866861457887817 : True := ⟨⟩
theorem top.tw17620759639134147866 : True := ⟨⟩
theorem top.tw13090165191389475591 : True := ⟨⟩
theorem top.tw15349318334595610263 : True := ⟨⟩
theorem top.tw10562855833978642645 : True := ⟨⟩
theorem top.tw1486479319815781832 : True := ⟨⟩
theorem top.tw8622502720953521162 : True := ⟨⟩
theorem top.tw13290321428070320777 : True := ⟨⟩
theorem top.tw17323899518341599180 : True := ⟨⟩
theorem top.tw5058314954733539658 : True := ⟨⟩
theorem top.tw8369368087495890639 : True := ⟨⟩
theorem top.tw17093978387232202294 : True := ⟨⟩
theorem top.tw4526881389914513428 : True := ⟨⟩
theorem top.tw501154541418245514 : True := ⟨⟩
theorem top.tw11240886729373846589 : True := ⟨⟩
theorem top.tw13420762306968818387 : True := ⟨⟩
theorem top.tw8148004212497801138 : True := ⟨⟩
theorem top.tw4713442408853163898 : True := ⟨⟩
theorem top.tw11116745826364501430 : True := ⟨⟩
theorem top.tw13307591127769906961 : True := ⟨⟩
theorem top.tw16736118626332596326 : True := ⟨⟩
theorem top.tw12531252770123912367 : True := ⟨⟩
theorem top.tw8265191368974092141 : True := ⟨⟩
theorem top.tw13134186033006778460 : True := ⟨⟩
theorem top.tw2822501910515967889 : True := ⟨⟩
theorem top.tw1585457916280141200 : True := ⟨⟩
theorem top.tw3207569582813703071 : True := ⟨⟩
theorem top.tw708234853630380328 : True := ⟨⟩
theorem top.tw7671549972530922468 : True := ⟨⟩
theorem top.tw6908635100366463001 : True := ⟨⟩
theorem top.tw13968125046926948103 : True := ⟨⟩
theorem top.tw14168018189251442112 : True := ⟨⟩
theorem top.tw15503665604740900718 : True := ⟨⟩
theorem top.tw3767615275625035234 : True := ⟨⟩
theorem top.tw6487610083215253720 : True := ⟨⟩
theorem top.tw8311017846404947139 : True := ⟨⟩
theorem top.tw1297684725254868899 : True := ⟨⟩
theorem top.tw6662652255960138227 : True := ⟨⟩
theorem top.tw5581607755468803823 : True := ⟨⟩
theorem top.tw18194552166560175392 : True := ⟨⟩
theorem top.tw2835187731363253809 : True := ⟨⟩
theorem top.tw11459358961799972967 : True := ⟨⟩
theorem top.tw6624316729101989866 : True := ⟨⟩
theorem top.tw9382581127745807760 : True := ⟨⟩
theorem top.tw17022078359063049780 : True := ⟨⟩
theorem top.tw8184561461823581802 : True := ⟨⟩
theorem top.tw9149571693438533347 : True := ⟨⟩
theorem top.tw11423202765487971197 : True := ⟨⟩
theorem top.tw2462062305354472974 : True := ⟨⟩
theorem top.tw9743097575036673082 : True := ⟨⟩
theorem top.tw16352630495959832749 : True := ⟨⟩
theorem top.tw5398424786039705171 : True := ⟨⟩
theorem top.tw11960245374511038805 : True := ⟨⟩
theorem top.tw14349089067433371257 : True := ⟨⟩
theorem top.tw9059672392935016618 : True := ⟨⟩
theorem top.tw13987285891283452908 : True := ⟨⟩
theorem top.tw4655869559712951663 : True := ⟨⟩
theorem top.tw7429413206186439793 : True := ⟨⟩
theorem top.tw16155163154822807229 : True := ⟨⟩
theorem top.tw6930518751129746686 : True := ⟨⟩
theorem top.tw16782997733028217545 : True := ⟨⟩
theorem top.tw10399464001100048223 : True := ⟨⟩
theorem top.tw16262243036561855896 : True := ⟨⟩
theorem top.tw7033079012710635876 : True := ⟨⟩
theorem top.tw13177472732611162249 : True := ⟨⟩
theorem top.tw728428047077509346 : True := ⟨⟩
theorem top.tw10579768621468169598 : True := ⟨⟩
theorem top.tw7990429038631628895 : True := ⟨⟩
theorem top.tw72247145696351765 : True := ⟨⟩
theorem top.tw2145171640123136144 : True := ⟨⟩
theorem top.tw1321871150748368714 : True := ⟨⟩
theorem top.tw6786057226368545225 : True := ⟨⟩
theorem top.tw5118827330378232414 : True := ⟨⟩
theorem top.tw17103177528636943170 : True := ⟨⟩
theorem top.tw2267912224990424062 : True := ⟨⟩
theorem top.tw15877122091014420850 : True := ⟨⟩
theorem top.tw12427389293880184781 : True := ⟨⟩
theorem top.tw6520327441239513222 : True := ⟨⟩
theorem top.tw17828378304095215089 : True := ⟨⟩
theorem top.tw14450715343900746980 : True := ⟨⟩
theorem top.tw17565814175750979855 : True := ⟨⟩
theorem top.tw18237780215024852062 : True := ⟨⟩
theorem top.tw14671331368771545958 : True := ⟨⟩
theorem top.tw8694864300669457046 : True := ⟨⟩
theorem top.tw17795014544551873601 : True := ⟨⟩
theorem top.tw2581206410525282061 : True := ⟨⟩
theorem top.tw1886144042066472794 : True := ⟨⟩
theorem top.tw2847958352784047137 : True := ⟨⟩
theorem top.tw620129878449983639 : True := ⟨⟩
theorem top.tw7557910624720293991 : True := ⟨⟩
theorem top.tw9614876229902214918 : True := ⟨⟩
theorem top.tw14459580976405569124 : True := ⟨⟩
theorem top.tw3195522803047326042 : True := ⟨⟩
theorem top.tw6381231289166406305 : True := ⟨⟩
theorem top.tw7657828476027519975 : True := ⟨⟩
theorem top.tw381845443943030031 : True := ⟨⟩
theorem top.tw5766051744304087583 : True := ⟨⟩
theorem top.tw3186775038225222150 : True := ⟨⟩
theorem top.tw3254097082911018636 : True := ⟨⟩
theorem top.tw10404823597219466188 : True := ⟨⟩
theorem top.tw7743179893348639699 : True := ⟨⟩
theorem top.tw1108800333578037850 : True := ⟨⟩
theorem top.tw9227541089923242437 : True := ⟨⟩
theorem top.tw53344730913325255 : True := ⟨⟩
theorem top.tw6815640781856848509 : True := ⟨⟩
theorem top.tw15451780782824253742 : True := ⟨⟩
theorem top.tw12392516345856041104 : True := ⟨⟩
theorem top.tw5105846836358774362 : True := ⟨⟩
theorem top.tw9800703332001039478 : True := ⟨⟩
theorem top.tw14608685727046917156 : True := ⟨⟩
theorem top.tw2312856594315299383 : True := ⟨⟩
theorem top.tw14917401599646851644 : True := ⟨⟩
theorem top.tw3871027444623705763 : True := ⟨⟩
theorem top.tw10090393231696489298 : True := ⟨⟩
theorem top.tw4791253341166991637 : True := ⟨⟩
theorem top.tw5434309568573575005 : True := ⟨⟩
theorem top.tw13223034962123697568 : True := ⟨⟩
theorem top.tw17046948494117081484 : True := ⟨⟩
theorem top.tw2732273902793177162 : True := ⟨⟩
theorem top.tw11430207588045935325 : True := ⟨⟩
theorem top.tw4076138812419527698 : True := ⟨⟩
theorem top.tw4159251561096739476 : True := ⟨⟩
theorem top.tw12209182163369298222 : True := ⟨⟩
theorem top.tw5728218623943512802 : True := ⟨⟩
theorem top.tw10773188271377071773 : True := ⟨⟩
theorem top.tw4186445540838780016 : True := ⟨⟩
theorem top.tw2727672472851901052 : True := ⟨⟩
theorem top.tw13001836021917841797 : True := ⟨⟩
theorem top.tw18164388396756303480 : True := ⟨⟩
theorem top.tw2812155379371279736 : True := ⟨⟩
theorem top.tw3995942328266245912 : True := ⟨⟩
theorem top.tw1123975283337734383 : True := ⟨⟩
theorem top.tw6505410396798821541 : True := ⟨⟩
theorem top.tw3796891538752321733 : True := ⟨⟩
theorem top.tw13501252493785611398 : True := ⟨⟩
theorem top.tw3217022616335106338 : True := ⟨⟩
theorem top.tw6885214360128481674 : True := ⟨⟩
theorem top.tw5303079699428457377 : True := ⟨⟩
theorem top.tw1732150942055357024 : True := ⟨⟩
theorem top.tw15212760480394562756 : True := ⟨⟩
theorem top.tw16174758807025615021 : True := ⟨⟩
theorem top.tw10195997230039290492 : True := ⟨⟩
theorem top.tw11199532085631943738 : True := ⟨⟩
theorem top.tw3378803678994701225 : True := ⟨⟩
theorem top.tw9335426496214029073 : True := ⟨⟩
theorem top.tw4916261283513009128 : True := ⟨⟩
theorem top.tw6240723676877644813 : True := ⟨⟩
theorem top.tw350670483859837877 : True := ⟨⟩
theorem top.tw8410488445778877200 : True := ⟨⟩
theorem top.tw1394568958698188020 : True := ⟨⟩
theorem top.tw2722852734226103192 : True := ⟨⟩
theorem top.tw13120753694373217308 : True := ⟨⟩
theorem top.tw9259421805112917234 : True := ⟨⟩
theorem top.tw16795567611416646642 : True := ⟨⟩
theorem top.tw3315250197877816394 : True := ⟨⟩
theorem top.tw11457754044182789617 : True := ⟨⟩
theorem top.tw15254643099363442306 : True := ⟨⟩
theorem top.tw6189502492464219833 : True := ⟨⟩
theorem top.tw8538268897159353584 : True := ⟨⟩
theorem top.tw11279390925490393535 : True := ⟨⟩
theorem top.tw15740088241188596515 : True := ⟨⟩
theorem top.tw17886615442053742456 : True := ⟨⟩
theorem top.tw2287823674025257028 : True := ⟨⟩
theorem top.tw15722756333993289495 : True := ⟨⟩
theorem top.tw6430265229019958763 : True := ⟨⟩
theorem top.tw17103585973383926153 : True := ⟨⟩
theorem top.tw3561193834555079511 : True := ⟨⟩
theorem top.tw17355269125676882429 : True := ⟨⟩
theorem top.tw5480147950964735628 : True := ⟨⟩
theorem top.tw18289109515434150305 : True := ⟨⟩
theorem top.tw8560541052185303311 : True := ⟨⟩
theorem top.tw4940147422707163885 : True := ⟨⟩
theorem top.tw10915162052029792233 : True := ⟨⟩
theorem top.tw5245862010334584759 : True := ⟨⟩
theorem top.tw8327351992414209593 : True := ⟨⟩
theorem top.tw6491118196486620199 : True := ⟨⟩
theorem top.tw105208000716104510 : True := ⟨⟩
theorem top.tw3140898538269762758 : True := ⟨⟩
theorem top.tw1492452104121835379 : True := ⟨⟩
theorem top.tw6473336682457920079 : True := ⟨⟩
theorem top.tw6265701101103706036 : True := ⟨⟩
theorem top.tw1736530178072539846 : True := ⟨⟩
theorem top.tw10548783162686979305 : True := ⟨⟩
theorem top.tw6859976401760118174 : True := ⟨⟩
theorem top.tw3696473221133414273 : True := ⟨⟩
theorem top.tw10341860258655708415 : True := ⟨⟩
theorem top.tw8968299171318014206 : True := ⟨⟩
theorem top.tw17470836177267949868 : True := ⟨⟩
theorem top.tw10956490626425055710 : True := ⟨⟩
theorem top.tw13896958669275611876 : True := ⟨⟩
theorem top.tw4498253355057717688 : True := ⟨⟩
theorem top.tw1112988674713690477 : True := ⟨⟩
theorem top.tw1139600151236580504 : True := ⟨⟩
theorem top.tw15095372191486117680 : True := ⟨⟩
theorem top.tw8025738503920905074 : True := ⟨⟩
theorem top.tw13983857475226248213 : True := ⟨⟩
theorem top.tw12622177474791663080 : True := ⟨⟩
theorem top.tw668136137496459709 : True := ⟨⟩
theorem top.tw18371284783138465269 : True := ⟨⟩
theorem top.tw8892184565913893157 : True := ⟨⟩
theorem top.tw4656485037274611717 : True := ⟨⟩
theorem top.tw5983031951866500094 : True := ⟨⟩
theorem top.tw10574840078274726829 : True := ⟨⟩
theorem top.tw16273406610938067001 : True := ⟨⟩
theorem top.tw9759319705405543751 : True := ⟨⟩
theorem top.tw17315540178315561739 : True := ⟨⟩
theorem top.tw17582957951858275007 : True := ⟨⟩
theorem top.tw8281120267493503204 : True := ⟨⟩
theorem top.tw2770239361232196585 : True := ⟨⟩
theorem top.tw12535971307161669396 : True := ⟨⟩
theorem top.tw12643491718579748851 : True := ⟨⟩
theorem top.tw1016984595167383106 : True := ⟨⟩
theorem top.tw9152664641465651067 : True := ⟨⟩
theorem top.tw11053662475850362967 : True := ⟨⟩
theorem top.tw6572447435987645144 : True := ⟨⟩
theorem top.tw1047907039808853306 : True := ⟨⟩
theorem top.tw13318506193475082254 : True := ⟨⟩
theorem top.tw9685713192446186341 : True := ⟨⟩
theorem top.tw2544169868661182894 : True := ⟨⟩
theorem top.tw5702910450625016506 : True := ⟨⟩
theorem top.tw6898770573198911631 : True := ⟨⟩
theorem top.tw17050326753033342646 : True := ⟨⟩
theorem top.tw4299629679881509495 : True := ⟨⟩
theorem top.tw9919435345466941130 : True := ⟨⟩
theorem top.tw17089494485692210459 : True := ⟨⟩
theorem top.tw12166907935582030026 : True := ⟨⟩
theorem top.tw16054190913257422852 : True := ⟨⟩
theorem top.tw13864677062968915208 : True := ⟨⟩
theorem top.tw12540527436937284434 : True := ⟨⟩
theorem top.tw8813761850579938390 : True := ⟨⟩
theorem top.tw14502225709538309166 : True := ⟨⟩
theorem top.tw3484022092364678248 : True := ⟨⟩
theorem top.tw12317137736924338119 : True := ⟨⟩
theorem top.tw4807692442873511580 : True := ⟨⟩
theorem top.tw12376051458212225564 : True := ⟨⟩
theorem top.tw10996937224433265937 : True := ⟨⟩
theorem top.tw4840481374290595910 : True := ⟨⟩
theorem top.tw6883741973766446791 : True := ⟨⟩
theorem top.tw6973401727384321114 : True := ⟨⟩
theorem top.tw10194810499950245846 : True := ⟨⟩
theorem top.tw18186074749648716422 : True := ⟨⟩
theorem top.tw16034636559557993077 : True := ⟨⟩
theorem top.tw8657480035899644758 : True := ⟨⟩
theorem top.tw9068506458530023791 : True := ⟨⟩
theorem top.tw6124053682588569230 : True := ⟨⟩
theorem top.tw5648408011753718230 : True := ⟨⟩
theorem top.tw8693662901424576113 : True := ⟨⟩
theorem top.tw788273225186049534 : True := ⟨⟩
theorem top.tw3486219094355674750 : True := ⟨⟩
theorem top.tw2555065506035805374 : True := ⟨⟩
theorem top.tw16325430554902658873 : True := ⟨⟩
theorem top.tw11199710921928265848 : True := ⟨⟩
theorem top.tw2443449257678562572 : True := ⟨⟩
theorem top.tw4134505453457115739 : True := ⟨⟩
theorem top.tw4331257952254489624 : True := ⟨⟩
theorem top.tw15361541807878343388 : True := ⟨⟩
theorem top.tw11443710868159068359 : True := ⟨⟩
theorem top.tw14987219478266130788 : True := ⟨⟩
theorem top.tw18199699507294796123 : True := ⟨⟩
theorem top.tw7715697345341360870 : True := ⟨⟩
theorem top.tw9739860059890490050 : True := ⟨⟩
theorem top.tw10005945817407372193 : True := ⟨⟩
theorem top.tw11994683656316670133 : True := ⟨⟩
theorem top.tw1638113669730673903 : True := ⟨⟩
theorem top.tw16800595933775061595 : True := ⟨⟩
theorem top.tw2867133514656366558 : True := ⟨⟩
theorem top.tw6176384092110617959 : True := ⟨⟩
theorem top.tw5938664839603501006 : True := ⟨⟩
theorem top.tw3969286963782609292 : True := ⟨⟩
theorem top.tw7297446738713254254 : True := ⟨⟩
theorem top.tw9165953624949470791 : True := ⟨⟩
theorem top.tw16104615914030681952 : True := ⟨⟩
theorem top.tw17846135334736760793 : True := ⟨⟩
theorem top.tw15299407806266782574 : True := ⟨⟩
theorem top.tw17492772389151264855 : True := ⟨⟩
theorem top.tw5969682004907312646 : True := ⟨⟩
theorem top.tw814325599930780420 : True := ⟨⟩
theorem top.tw14597223018079223185 : True := ⟨⟩
theorem top.tw9233715247699887402 : True := ⟨⟩
theorem top.tw2924597203103170677 : True := ⟨⟩
theorem top.tw2220570432770164149 : True := ⟨⟩
theorem top.tw1088946173253831356 : True := ⟨⟩
theorem top.tw17428532607074087071 : True := ⟨⟩
theorem top.tw342308947776675178 : True := ⟨⟩
theorem top.tw2878843996050045342 : True := ⟨⟩
theorem top.tw9361663168868926718 : True := ⟨⟩
theorem top.tw2907113945770861938 : True := ⟨⟩
theorem top.tw2596539476470345881 : True := ⟨⟩
theorem top.tw2617719716777270872 : True := ⟨⟩
theorem top.tw10694878333477680388 : True := ⟨⟩
theorem top.tw297971269722091814 : True := ⟨⟩
theorem top.tw4205137553216949640 : True := ⟨⟩
theorem top.tw1601500998369573665 : True := ⟨⟩
theorem top.tw14282377253939248939 : True := ⟨⟩
theorem top.tw9059832203979395877 : True := ⟨⟩
theorem top.tw956942650209027819 : True := ⟨⟩
theorem top.tw10079171474624433434 : True := ⟨⟩
theorem top.tw15911569825323301435 : True := ⟨⟩
theorem top.tw7273676953221729872 : True := ⟨⟩
theorem top.tw9590735534726013551 : True := ⟨⟩
theorem top.tw15240379268576122478 : True := ⟨⟩
theorem top.tw3261557481417251176 : True := ⟨⟩
theorem top.tw7381879191629600215 : True := ⟨⟩
theorem top.tw15526540055779215965 : True := ⟨⟩
theorem top.tw8363718466572441477 : True := ⟨⟩
theorem top.tw17469865338272021226 : True := ⟨⟩
theorem top.tw5596365628329696591 : True := ⟨⟩
theorem top.tw12787338502077490372 : True := ⟨⟩
theorem top.tw5860347150701562758 : True := ⟨⟩
theorem top.tw14042817526060737062 : True := ⟨⟩
theorem top.tw12718909917080609646 : True := ⟨⟩
theorem top.tw8523463495250067690 : True := ⟨⟩
theorem top.tw10187724287525710026 : True := ⟨⟩
theorem top.tw15169761463676818070 : True := ⟨⟩
theorem top.tw4292695720768233569 : True := ⟨⟩
theorem top.tw11845233108574324481 : True := ⟨⟩
theorem top.tw12094960947251128927 : True := ⟨⟩
theorem top.tw427420600052151026 : True := ⟨⟩
theorem top.tw6756868429301003459 : True := ⟨⟩
theorem top.tw594810645892935528 : True := ⟨⟩
theorem top.tw16044733080236030384 : True := ⟨⟩
theorem top.tw10617020205504526918 : True := ⟨⟩
theorem top.tw6196800358849779857 : True := ⟨⟩
theorem top.tw9305691244287143441 : True := ⟨⟩
theorem top.tw4699463449715708850 : True := ⟨⟩
theorem top.tw17555251805378815213 : True := ⟨⟩
theorem top.tw14537839394382259888 : True := ⟨⟩
theorem top.tw7600245330811189008 : True := ⟨⟩
theorem top.tw8810280945414196856 : True := ⟨⟩
theorem top.tw13822267516522204269 : True := ⟨⟩
theorem top.tw14657780768301432306 : True := ⟨⟩
theorem top.tw4784893810139332661 : True := ⟨⟩
theorem top.tw10864713392326063847 : True := ⟨⟩
theorem top.tw8507776931139520737 : True := ⟨⟩
theorem top.tw17838019320181912590 : True := ⟨⟩
theorem top.tw10648311167861321448 : True := ⟨⟩
theorem top.tw9589608677651300831 : True := ⟨⟩
theorem top.tw1483126911874232274 : True := ⟨⟩
theorem top.tw11203750815551599093 : True := ⟨⟩
theorem top.tw13264354339760550358 : True := ⟨⟩
theorem top.tw3002795768020413707 : True := ⟨⟩
theorem top.tw987869383939708018 : True := ⟨⟩
theorem top.tw15918733279669447828 : True := ⟨⟩
theorem top.tw15646934709686841381 : True := ⟨⟩
theorem top.tw3712731000106771831 : True := ⟨⟩
theorem top.tw9229161468869434483 : True := ⟨⟩
theorem top.tw795583310449317561 : True := ⟨⟩
theorem top.tw5889316905344633881 : True := ⟨⟩
theorem top.tw5513142621748847562 : True := ⟨⟩
theorem top.tw18245740138792012028 : True := ⟨⟩
theorem top.tw13012589842206080548 : True := ⟨⟩
theorem top.tw3584897518013459382 : True := ⟨⟩
theorem top.tw11542710104232473196 : True := ⟨⟩
theorem top.tw2782073688633401757 : True := ⟨⟩
theorem top.tw13549259019975226677 : True := ⟨⟩
theorem top.tw8107780213005350392 : True := ⟨⟩
theorem top.tw8443935842833279946 : True := ⟨⟩
theorem top.tw9503340733035011235 : True := ⟨⟩
theorem top.tw8140125068956082859 : True := ⟨⟩
theorem top.tw8874702517807110003 : True := ⟨⟩
theorem top.tw16597617366809209970 : True := ⟨⟩
theorem top.tw8472579005086612782 : True := ⟨⟩
theorem top.tw16204670001084760307 : True := ⟨⟩
theorem top.tw339143206060000330 : True := ⟨⟩
theorem top.tw13889309363888878346 : True := ⟨⟩
theorem top.tw17741875731164886585 : True := ⟨⟩
theorem top.tw16082718784150747160 : True := ⟨⟩
theorem top.tw7414872774492366064 : True := ⟨⟩
theorem top.tw4166218997396506358 : True := ⟨⟩
theorem top.tw14697636140705633519 : True := ⟨⟩
theorem top.tw2686433634493928565 : True := ⟨⟩
theorem top.tw7458633546980236471 : True := ⟨⟩
theorem top.tw14390669486469195807 : True := ⟨⟩
theorem top.tw887695700811335699 : True := ⟨⟩
theorem top.tw3195968871104189447 : True := ⟨⟩
theorem top.tw9272544492142499777 : True := ⟨⟩
theorem top.tw16550210197400561554 : True := ⟨⟩
theorem top.tw7740461459972228597 : True := ⟨⟩
theorem top.tw9843447840031818808 : True := ⟨⟩
theorem top.tw1142415686869020238 : True := ⟨⟩
theorem top.tw16840627104734473223 : True := ⟨⟩
theorem top.tw12117888159696746259 : True := ⟨⟩
theorem top.tw14611434983143301774 : True := ⟨⟩
theorem top.tw2683898200743741643 : True := ⟨⟩
theorem top.tw2514443458684651071 : True := ⟨⟩
theorem top.tw10187264123177260123 : True := ⟨⟩
theorem top.tw196536941598035525 : True := ⟨⟩
theorem top.tw5523086135645875356 : True := ⟨⟩
theorem top.tw2405475915293451298 : True := ⟨⟩
theorem top.tw401921906979044612 : True := ⟨⟩
theorem top.tw12385144161495827662 : True := ⟨⟩
theorem top.tw4828031223510198475 : True := ⟨⟩
theorem top.tw10008474027749305400 : True := ⟨⟩
theorem top.tw12012865196380796599 : True := ⟨⟩
theorem top.tw517144808224063464 : True := ⟨⟩
theorem top.tw14762295962024373759 : True := ⟨⟩
theorem top.tw3855276242980373810 : True := ⟨⟩
theorem top.tw11334415319851112604 : True := ⟨⟩
theorem top.tw14615657086365298920 : True := ⟨⟩
theorem top.tw13160728816969591200 : True := ⟨⟩
theorem top.tw93012567124736588 : True := ⟨⟩
theorem top.tw2007660962349395123 : True := ⟨⟩
theorem top.tw2988451766255067171 : True := ⟨⟩
theorem top.tw12545222027267286695 : True := ⟨⟩
theorem top.tw16713831800681072344 : True := ⟨⟩
theorem top.tw4951766788466123468 : True := ⟨⟩
theorem top.tw17219337458794519322 : True := ⟨⟩
theorem top.tw11334203419191126389 : True := ⟨⟩
theorem top.tw15362295582089109014 : True := ⟨⟩
theorem top.tw9437893007894698314 : True := ⟨⟩
theorem top.tw5868845118606482295 : True := ⟨⟩
theorem top.tw14861896470697024400 : True := ⟨⟩
theorem top.tw7386116660499605909 : True := ⟨⟩
theorem top.tw9195894827357321740 : True := ⟨⟩
theorem top.tw1291508964198565346 : True := ⟨⟩
theorem top.tw83393220934416808 : True := ⟨⟩
theorem top.tw2029088862249889922 : True := ⟨⟩
theorem top.tw2758071753971750899 : True := ⟨⟩
theorem top.tw14372152842798730730 : True := ⟨⟩
theorem top.tw15177526630643400193 : True := ⟨⟩
theorem top.tw7204493036743257322 : True := ⟨⟩
theorem top.tw864819663365544661 : True := ⟨⟩
theorem top.tw3776753064480771068 : True := ⟨⟩
theorem top.tw1706793611546318481 : True := ⟨⟩
theorem top.tw76412952228603488 : True := ⟨⟩
theorem top.tw81815255157605957 : True := ⟨⟩
theorem top.tw6761616313442571491 : True := ⟨⟩
theorem top.tw9666326922614434849 : True := ⟨⟩
theorem top.tw15542334942015070624 : True := ⟨⟩
theorem top.tw10797620697341660853 : True := ⟨⟩
theorem top.tw9166809390415177425 : True := ⟨⟩
theorem top.tw8546597950674997350 : True := ⟨⟩
theorem top.tw10987319290404115282 : True := ⟨⟩
theorem top.tw4571971715460732019 : True := ⟨⟩
theorem top.tw17781115878593249900 : True := ⟨⟩
theorem top.tw9962302188120564619 : True := ⟨⟩
theorem top.tw15569959144833144457 : True := ⟨⟩
theorem top.tw2103985501979894447 : True := ⟨⟩
theorem top.tw4321519831107876412 : True := ⟨⟩
theorem top.tw9768079942903668216 : True := ⟨⟩
theorem top.tw2685012915969955173 : True := ⟨⟩
theorem top.tw6370870915552960936 : True := ⟨⟩
theorem top.tw9108098604805947806 : True := ⟨⟩
theorem top.tw9951221954081769418 : True := ⟨⟩
theorem top.tw8613191699965854469 : True := ⟨⟩
theorem top.tw11028086866134049853 : True := ⟨⟩
theorem top.tw8640399195822439974 : True := ⟨⟩
theorem top.tw16821654228018055803 : True := ⟨⟩
theorem top.tw12256363837256957063 : True := ⟨⟩
theorem top.tw3474246075231452896 : True := ⟨⟩
theorem top.tw13091174067606910046 : True := ⟨⟩
theorem top.tw8345894832289464959 : True := ⟨⟩
theorem top.tw4177254973167742082 : True := ⟨⟩
theorem top.tw14145802354927516647 : True := ⟨⟩
theorem top.tw17030962893124633753 : True := ⟨⟩
theorem top.tw7673058066778466091 : True := ⟨⟩
theorem top.tw672699306608606093 : True := ⟨⟩
theorem top.tw10657950659306570408 : True := ⟨⟩
theorem top.tw10361075674979980167 : True := ⟨⟩
theorem top.tw8143265674769528471 : True := ⟨⟩
theorem top.tw13713866747541496747 : True := ⟨⟩
theorem top.tw2369445192022557226 : True := ⟨⟩
theorem top.tw1181207714201142429 : True := ⟨⟩
set_option maxHeartbeats 0
set_option Elab.async true
theorem top : PySem.Challenge.rw_tk0058_01.Holds := by
  w_on
  o_law
  o_head (kHook Mine.H.hd.heap_1_1 [2, 3, 15, 17, 18, 20, 21, 29, 30, 32, 33, 35, 36, 37, 39, 40, 42, 43, 44, 46, 47, 49, 50, 51, 52, 53, 54, 55, 58, 65, 67, 68, 70, 71, 72, 73, 74, 75, 78, 85, 86, 87, 90, 92, 93, 95, 96, 97, 99, 100, 102, 103, 104, 106, 107, 109, 110, 111, 113, 114, 116, 117, 118, 120, 121, 123, 124, 125, 127, 128, 130, 131, 132, 134, 135, 137, 138, 139, 141, 142, 144, 145, 146, 148, 149, 151, 152, 153, 155, 156, 158, 159, 160, 162, 163, 165, 166, 167, 169, 170, 172, 173, 174, 176, 177, 179, 180, 181, 182, 183, 185, 186, 188, 189, 190, 192, 193, 195, 196, 197, 199, 200, 202, 203, 204, 206, 207, 209, 210, 211, 213, 214, 216, 217, 218, 220, 221, 223, 224, 225, 227, 228, 230, 231, 232, 234, 235, 237, 238, 239, 241, 242, 244, 245, 253, 255, 256, 258, 259, 260, 261, 262, 263, 264, 274, 276, 277, 279, 280, 281, 283, 284, 286, 287, 288, 290, 291, 293, 294, 295, 297, 298, 300, 301, 302, 304, 305, 307, 308, 309, 311, 312, 314, 315, 316, 318, 319, 321, 322, 323, 325, 326, 328, 329, 330, 332, 333, 335, 336, 337, 339, 340, 342, 343, 344, 346, 347, 349, 350, 351, 353, 354, 356, 357, 358, 360, 361, 363, 364, 365, 367, 368, 370, 371, 372, 374, 375, 377, 378, 379, 381, 382, 384, 385, 386, 388, 389, 391, 392, 393, 395, 396, 398, 399, 400, 402, 403, 405, 406, 407, 409, 410, 412, 413, 414, 416, 417, 419, 420, 421, 423, 424, 426, 427, 428, 430, 431, 433, 434, 435, 437, 438, 440, 441, 442, 444, 445, 447, 448, 449, 451, 452, 454, 455, 456, 458, 459, 461, 462, 463, 464, 465, 466, 467, 470, 472, 473, 475, 476, 477, 479, 480, 482, 483, 484, 486, 487, 489, 490, 491, 493, 494, 496, 497, 498, 501, 502, 503, 506, 507] (fun _ => by kernel_rfl))
  (case hw => w_witness2)
  k_fill
  intro w s₀ s₁ mg mb G Y fa o pm cd doc dV kV ho hd hcd hD hmg hg args vals as hpre hlay hrd hwl hlo
  have KX := kIn_of Y
  refine Ground.open G ?_
  intro T B D TE TW
  have e7 : mg (Str.ofString "law") = some (.ref 507) := mg_of KX T.g (by with_unfolding_all rfl)
  replace hmg : mg (Str.ofString "law") = some (.ref fa) := hmg
  obtain rfl : fa = 507 := by rw [e7] at hmg; cases hmg; rfl
  wrow_args hpre hlay hrd hwl hlo
  rename Heap.IsList _ _ _ => hl
  rename IntsAre _ _ => hi
  rename ¬ _ < _ => hz
  refine Mine.law_c KX T hl hi (by have := hi.length; omega) fun h' tk' hk => GoodW.toG ⟨.inl ⟨.bool true, .bool true, [], rfl, fun cls => ?_, .bool true, ?_, unshared_nil⟩, hk, rfl, hg⟩
  · rfl
  · wrow_post
end Mine
end
set_option Elab.async false
theorem PySem.Challenge.cw_tk0058_01_holds : PySem.Challenge.rw_tk0058_01.Holds :=
  Mine.top
