import PyProof.Rows.All
import Wide.All
import OpenK.AllK
import Wide.FinOn
import Lean
import PySem.Challenge.RW_nz0210_01
open PySem PySem.W PyProof.Rows
set_option Elab.async false
set_option maxRecDepth 100000
set_option linter.unusedSimpArgs false
set_option linter.unusedVariables false
set_option linter.unnecessarySimpa false
namespace Mine

/-! part Core -/
section
/-! Clean contexts: no code on the stack that may hold an export of a bytearray. -/
def exIds : List String := ["bytearray.__contains__", "bytearray.__mod__", "bytearray.__rmod__", "_struct.pack_into.held", "bytearray.find.held"] ++ Builtin.Bytes.decodersThatHold
def noEx : Code → Bool
  | .builtin id _ => !exIds.contains id
  | _ => true
def CleanBelow (Γ : Ctx) : Prop := ∀ x ∈ Γ.below, noEx x.1 = true
def Clean (Γ : Ctx) : Prop := noEx Γ.code = true ∧ CleanBelow Γ
def wpC {α : Type} (M : Model) (A : Around) (t : Sem α) (Q : α → Shared → Prop) (E : Value → Shared → Prop) (s : Shared) : Prop :=
  ∀ Γ p, Γ.In A → Clean Γ → Sem.wp M Γ t (fun a _ s' => Q a s') (fun e _ s' => E e s') p s
def codeC (M : Model) (A : Around) (c : Code) (R : Result → Shared → Prop) (s : Shared) : Prop :=
  ∀ Γ p, Γ.code = c → Γ.Below A → CleanBelow Γ → wpCode M Γ R p s
section
variable {α β : Type} {M : Model} {A : Around} {E E' : Value → Shared → Prop} {s : Shared}
theorem wpC_lift {t : Sem α} {Q : α → Shared → Prop} (h : wpAny M A t Q E s) : wpC M A t Q E s := fun Γ p hΓ _ => h Γ p hΓ
theorem codeC_lift {c : Code} {R : Result → Shared → Prop} (h : codeAny M A c R s) : codeC M A c R s := fun Γ p hc hΓ _ => h Γ p hc hΓ
theorem wpC_pure {a : α} {Q : α → Shared → Prop} (h : Q a s) : wpC M A (pure a) Q E s := fun _ _ _ _ => h
theorem wpC_mono {t : Sem α} {Q Q' : α → Shared → Prop} (h : wpC M A t Q E s) (hQ : ∀ a s, Q a s → Q' a s) (hE : ∀ e s, E e s → E' e s) : wpC M A t Q' E' s :=
  fun Γ p hΓ hc => Sem.wp_mono M Γ t (fun a _ s => hQ a s) (fun e _ s => hE e s) p s (h Γ p hΓ hc)
theorem codeC_mono {c : Code} {R R' : Result → Shared → Prop} (h : codeC M A c R s) (hR : ∀ r s, R r s → R' r s) : codeC M A c R' s :=
  fun Γ p hc hΓ hb => wpCode_mono hR (h Γ p hc hΓ hb)
theorem wpC_bind {m : Sem α} {f : α → Sem β} {Q : β → Shared → Prop} (h : wpC M A m (fun a s' => wpC M A (f a) Q E s') E s) : wpC M A (m >>= f) Q E s := fun Γ p hΓ hc => by
  rw [Sem.wp_bind']
  exact Sem.wp_mono M Γ m (fun a p' s' h' => h' Γ p' hΓ hc) (fun _ _ _ h' => h') p s (h Γ p hΓ hc)
/-- a step with nothing of the spine in it, then the rest -/
theorem wpC_seq {m : Sem α} {f : α → Sem β} {Q : β → Shared → Prop} (h : wpAny M A m (fun a s' => wpC M A (f a) Q E s') E s) : wpC M A (m >>= f) Q E s := wpC_bind (wpC_lift h)
theorem wpC_holding {vs : List Value} {m : Sem α} {Q : α → Shared → Prop} (h : wpC M A m Q E s) : wpC M A (holding vs m) Q E s :=
  fun Γ p hΓ hc => by rw [Sem.wp_holding]; exact h Γ p hΓ hc
theorem clean_enter {Γ : Ctx} (hc : Clean Γ) (c : Code) (h : Option Value) (p : Pos) : CleanBelow (Γ.enter c h p) := fun x hx => by
  rcases List.mem_cons.mp hx with rfl | hx
  · exact hc.1
  · exact hc.2 x hx
theorem wpC_runValue {c : Code} {Q : Value → Shared → Prop}
    (hc : codeC M A c (fun r s' => match r with | .ok (.ret v) => Q v s' | .ok _ => False | .error e => E e s') s) : wpC M A (runValue c) Q E s := fun Γ p hΓ hcl => by
  rw [Sem.wp_runValue]
  exact hc _ p rfl (hΓ.enter c none p (by intro x; cases x)) (clean_enter hcl _ _ _)
theorem wpC_call {f : Value} {pos : List Value} {kw : List (Str × Value)} {Q : Value → Shared → Prop}
    (hc : codeC M A (.call f ⟨pos, kw⟩) (fun r s' => match r with | .ok (.ret v) => Q v s' | .ok _ => False | .error e => E e s') s) : wpC M A (call f pos kw) Q E s := wpC_runValue hc
theorem wpC_run {c : Code} {h : Option Value} {Q : Flow → Shared → Prop}
    (hc : codeC M (A.mark h) c (fun r s' => match r with | .ok f => Q f s' | .error e => E e s') s) (hnb : h ≠ some byPass := by intro x; cases x) : wpC M A (run c h) Q E s := fun Γ p hΓ hcl => by
  rw [Sem.wp_run]
  exact hc _ p rfl (hΓ.enter c h p hnb) (clean_enter hcl _ _ _)
theorem codeC_of_tree {c : Code} {R : Result → Shared → Prop} (hn : noEx c = true)
    (h : wpC M (A.under c) (M.den c) (fun fin s' => match fin with | .done f => R (.ok f) s' | .again c' => c'.quiet = true ∧ codeC M A c' R s')
      (fun e s' => R (.error e) s') s) : codeC M A c R s := fun Γ p hc hΓ hb => by
  rw [wpCode_iff_wp, hc]
  refine Sem.wp_mono M Γ _ (fun fin p' s' h' => ?_) (fun _ _ _ h' => h') p s (h Γ p (hc ▸ hΓ.in) ⟨by rw [hc]; exact hn, hb⟩)
  cases fin with
  | done f => exact h'
  | again c' => exact ⟨h'.1, h'.2 (Γ.goto c') p' rfl (hΓ.goto c') hb⟩
theorem codeC_loop {c : Code} {R : Result → Shared → Prop} (hn : noEx c = true) (hq : c.quiet = true) (I : Nat → Shared → Prop)
    (turn : ∀ n s, I n s → wpC M (A.under c) (M.den c)
      (fun fin s' => match fin with | .done f => R (.ok f) s' | .again c' => c' = c ∧ ∃ m, m < n ∧ I m s') (fun e s' => R (.error e) s') s)
    (n : Nat) (h : I n s) : codeC M A c R s := by
  induction n using Nat.strongRecOn generalizing s with
  | ind n ih =>
    refine codeC_of_tree hn (wpC_mono (turn n s h) (fun fin s' hf => ?_) fun _ _ h' => h')
    cases fin with
    | done f => exact hf
    | again c' => obtain ⟨rfl, m, hm, hI⟩ := hf; exact ⟨hq, ih m hm hI⟩
theorem wpC_stack_false {f : Code × Pos → Bool} {k : Bool → Sem α} {Q : α → Shared → Prop} (hf : ∀ c p, noEx c = true → f (c, p) = false) (h : wpC M A (k false) Q E s) :
    wpC M A ((do return (← stack).any f) >>= k) Q E s := fun Γ p hΓ hc => by
  have e : (((Γ.code, p) :: Γ.below).any f) = false := by
    rw [List.any_eq_false]
    intro x hx
    rcases List.mem_cons.mp hx with rfl | hx
    · rw [hf _ _ hc.1]; exact Bool.false_ne_true
    · rw [hf x.1 x.2 (hc.2 x hx)]; exact Bool.false_ne_true
  show Sem.wp M Γ (k (((Γ.code, p) :: Γ.below).any f)) _ _ p s
  rw [e]
  exact h Γ p hΓ hc
end

end

/-! part Head -/
section
/-! The head over clean contexts: as the library's, but it asks for the call in clean contexts alone. -/
open PySem.Calls
theorem clean0 : Clean (⟨.builtin "claim.caller" {}, none, none, [], none⟩ : Ctx) := ⟨by decide +kernel, fun _ hx => nomatch hx⟩
theorem endsC {prog : Program} {w : World} {t : Sem Fin} {s : Shared} {R : Result → Shared → Prop} (hz : s.asleep)
    (h : wpC (model prog w) callerA t (fun fin s' => ∃ f, fin = .done f ∧ (R (.ok f) s' ∧ leftWithCleanup s'.gens = false)) (fun e s' => R (.error e) s' ∧ leftWithCleanup s'.gens = false) s) :
    ∃ n r s' s'', runN (denote table) prog w n s ⟨t, .builtin "claim.caller" {}, default, []⟩ = .halted (outcomeOf r) s' ∧
      schedN (denote table) prog w n (.single s ⟨t, .builtin "claim.caller" {}, default, []⟩) = .halted (outcomeOf r) s' ∧ s'.forget = s''.forget ∧ R r s'' := by
  have h1 := Sem.wp_mono (model prog w) _ t (post' := fun fin p' s' => Sem.finPost (model prog w) (⟨.builtin "claim.caller" {}, none, none, [], none⟩ : Ctx) (fun r s' => R r s' ∧ leftWithCleanup s'.gens = false) fin p' s')
    (fun fin p' s' h' => by obtain ⟨f, rfl, hf⟩ := h'; exact hf) (fun _ _ _ h' => h') default s (h _ default caller_in clean0)
  obtain ⟨n, r, s₁, s₂, hs, hn, hfo, hR⟩ := wp_halts_full (M := model prog w) (R := R) hz h1
  exact ⟨n, r, s₂, s₁, hn, hs, hfo, hR⟩
theorem callFromC {c : ClaimW} {tree : List Value → Sem Fin} {w : World} {s : Shared} {free : Addr → Prop} {gens : Prop} {kept : Heap → Prop} (hz : s.asleep) (hgens : s.gens = #[])
    (hspec : ∀ args, c.pre args = true → WData.layableAll args = true →
      ∀ ord : List DictEntry → List DictEntry, (∀ l, (ord l).Perm l) →
      ∃ vs s₁, layAllW c.records (classAt s.heap) w.params ord args s = some (vs, s₁) ∧
        wpC (model c.prog w) callerA (tree vs) (fun fin s' => ∃ f, fin = .done f ∧ (c.Ends s args vs s₁ (.ok f) s' ∧ s'.os = s.os ∧ AllBare s'.gens ∧ kept s'.heap))
          (fun e s' => c.Ends s args vs s₁ (.error e) s' ∧ s'.os = s.os ∧ AllBare s'.gens ∧ kept s'.heap) s₁) :
    c.CallFrom (fun vs => ⟨tree vs, .builtin "claim.caller" {}, default, []⟩) w free gens kept s := by
  intro args hpre hlay ord hord
  obtain ⟨vs, s₁, hlaid, hcode⟩ := hspec args hpre hlay ord hord
  have hal := layAllW_rest _ _ _ hlaid
  obtain ⟨k, r, s', s'', hrun, hsched, hfo, hcase, hos, hkp⟩ := endsC (prog := c.prog) (w := w) (t := tree vs) (s := s₁)
    (R := fun r s' => c.Ends s args vs s₁ r s' ∧ s'.os = s.os ∧ kept s'.heap) (Shared.asleep_of_life hal.2.2.2 hz)
    (wpC_mono hcode (fun fin s' ⟨f, e, h1, h2, h3, h4⟩ => ⟨f, e, ⟨h1, h2, h4⟩, leftWithCleanup_false_of_bare h3⟩) (fun e s' ⟨h1, h2, h3, h4⟩ => ⟨⟨h1, h2, h4⟩, leftWithCleanup_false_of_bare h3⟩))
  obtain ⟨eh, _, _, eo, _⟩ := Shared.forget_eq hfo
  have hcase := hcase.congr eh
  have hkp : kept s'.heap := by rw [eh]; exact hkp
  have hos' : s'.os = s.os := eo.trans hos
  have hlife : s'.heap.life = s.heap.life := (runN_life _ _ _ hrun).trans hal.2.2.2
  refine ⟨vs, s₁, hlaid, k, _, s', hsched, ?_, (fun _ i x hx => by rw [hgens] at hx; simp at hx), hkp, by rw [hlife], Shared.rest_eq hos'⟩
  rcases hcase with ⟨v, rfl, d1, d2, d3, d4, d5⟩ | ⟨e, ob, cls, rfl, d1, d2, d3, d4, d5⟩
  · exact .inl ⟨v, rfl, d1, d2, d3, fun b o y _ => d4 b o y, d5⟩
  · exact .inr ⟨e, ob, cls, rfl, d1, d2, d3, d4, fun b o y _ => d5 b o y⟩
/-- what is to be shown of the call, in clean contexts -/
abbrev WalkClean (q : Program) (loose : List Str) (XP : (Str → Option Value) → Heap → Prop) (YP : World → Heap → Prop) (r : RowW) (d : DefRec) (kwd : List (Str × Expr)) : Prop :=
  ∀ (w : World) (s₀ s₁ : Shared) (mg mb : Str → Option Value), Ground q loose r.records XP w s₀ mg mb s₁.heap → YP w s₁.heap → ∀ (a : Addr) (o : Obj) (pm cd doc dV kV : Value), s₁.heap.get? a = some o →
    o.data = .func { docDef d.name d.params d.body d.scope pm cd doc with defaults := dV, kwdefaults := kV } → s₁.heap.CodeRec cd d.name → Dflts mg s₁.heap d.params kwd dV kV → mg d.name = some (.ref a) → s₁.gens = #[] →
    ∀ (args : List WData) (vals : List Value) (as : List Addr), r.claim.pre args = true → WData.layableAll args = true → ReadsAllW r.records (classAt s₀.heap) s₁.heap vals args as → WellAll w.params s₁.heap vals args → (∀ a ∈ as, (a == sysModules) = false) →
      wpC (model r.prog w) callerA (PySem.call (.ref a) vals) (fun v s' => GoodWG r.claim (classAt s₀.heap) (ExcName.means s₀.heap) args s₁ (.ok (.ret v)) s')
        (fun e s' => GoodWG r.claim (classAt s₀.heap) (ExcName.means s₀.heap) args s₁ (.error e) s') s₁
theorem PySem.W.holds_open {r : OpenRow} {q : Program} {loose : List Str} {Xt : Shared → Bool} {XP : (Str → Option Value) → Heap → Prop} {α : Type} {Yf : Shared → α} {Ya : World → α} {YP : World → Heap → Prop} {d : DefRec} {kwd : List (Str × Expr)} {N : Nat}
    (left : LeftO r.prog q loose Xt Yf Ya N) (hY : ∀ w s, Yf s = Ya w → YP w s.heap) (hYk : ∀ w h h', YP w h → (∀ b o, h.get? b = some o → h'.get? b = some o) → YP w h')
    (hX : ∀ s, Xt s = true → XP (s.heap.nsMap mainGlobals) s.heap) (hXk : ∀ mg h h', XP mg h → (∀ b o, h.get? b = some o → h'.get? b = some o) → XP mg h')
    (hdef : defOf q r.name = some (d, kwd)) (hp : r.prog.theDef r.name = some (d.params, d.body, d.scope)) (hk : kwWritten? d.params.kwonlyargs d.params.kw_defaults = some kwd) (hRf : ∀ s, Xt s = true → RecFacts r.records s.heap) (hwr : (!r.writes || r.records.isEmpty) = true)
    (k1 : r.wellSaid = true) (ok : (chainsOk q && opensWell r.prog && (frees r.toRowW && r.within.isEmpty)) = true) (hb : r.prog.bare) (hw : r.toRowW.promised)
    (call : WalkClean q loose XP YP r.toRowW d kwd) : r.Holds := by
  obtain ⟨ok, k5⟩ := Bool.and_eq_true_iff.mp ok
  obtain ⟨hch, o1⟩ := Bool.and_eq_true_iff.mp ok
  obtain ⟨k5, k6⟩ := Bool.and_eq_true_iff.mp k5
  obtain ⟨hsame, hu, ha, hap, hm⟩ := frees_parts k5
  refine ⟨k1, hw, ⟨hb, o1, by show r.makers.map _ = []; rw [hm]; rfl⟩, hw.witness, fun w => ⟨(left.behind hX hch w).1, fun s' hs' => ?_⟩⟩
  obtain ⟨s₀, hf, hg0, s, hT, hz, hgens, hg, G00, y⟩ := (left.behind (XP := fun mg h => XP mg h ∧ RecFacts r.records h) (fun s hs => ⟨hX s hs, hRf s hs⟩) hch w).2 s' hs'
  have G0 : Ground q loose [] XP w s (s.heap.nsMap mainGlobals) (s.heap.nsMap builtinsNs) s.heap := ⟨G00.T, G00.B, G00.D, G00.TE, G00.TD, G00.W, G00.X.1, G00.cls, G00.has, G00.apart, G00.once, G00.K⟩
  have RF := G00.X.2
  refine ⟨s₀, hf, hg0, s, hT, fun n hn => ?_, RF.1, RF.2.1, ?_⟩
  · obtain rfl : n = r.name := by split at hn <;> simp_all
    exact pinned_of_view hg G0 hdef hp hk
  have hgens : s.gens = #[] := Array.eq_empty_of_size_eq_zero (beq_iff_eq.mp hgens)
  have G : Ground q loose r.records XP w s _ _ s.heap := RF.ground G0
  refine callFromC (c := r.toRowW.claim) (tree := fun vs => do match ← nsGet mainNs r.name with
      | some f => do ret (← PySem.call f vs)
      | none => unsupported "claim.caller:no-such-global") hz hgens fun args hpre hlay ord hord => ?_
  obtain ⟨⟨vs, s₁⟩, hlaid⟩ := Option.isSome_iff_exists.mp (layAllW_isSome (P := w.params) (ord := ord) G.has args r.args s (pre_splitW hpre).1)
  have keeps := layAllW_keeps _ _ _ hlaid
  have hal := layAllW_rest _ _ _ hlaid
  obtain ⟨as, hrd, hin, hold⟩ := reads_layAllW hord _ _ _ hlaid hlay s₁.heap (fun _ _ e => e)
  have L : Laid r.records w s s₁ args vs as := ⟨⟨ord, hord, hlaid⟩, hrd, hin, hold, keeps, hal.1.trans hgens, hal.2.2.1⟩
  have G₁ := G.keeps hXk keeps
  obtain ⟨a, o, pm, cd, doc, dV, kV, h1, h2, h3, h4, h5⟩ := G₁.fn hdef
  have h := call w s s₁ _ _ G₁ (hYk _ _ _ (hY w s y) keeps) a o pm cd doc dV kV h2 h3 h4 h5 (defOf_name hdef ▸ h1) L.gens args vs as hpre hlay L.reads L.well (L.low G.low)
  have hi := ident_freeW hu ha hap
  have hwi : r.toRowW.claim.within = [] := List.isEmpty_iff.mp k6
  refine ⟨vs, s₁, hlaid, wpC_seq (wpAny_nsGet G₁.T.g ?_)⟩
  rw [h1]
  refine wpC_bind (wpC_mono h (fun v s' g => wpC_pure ⟨_, rfl, ?_⟩) fun e s' g => ?_)
  · have z := g.laid (c := r.toRowW.claim) hsame hwi hi L
    exact ⟨z.1, z.2.1, z.2.2, fun q => ⟨namesKept_of hT hg r.keeps keeps g.2.1.old, noTable hwr q⟩⟩
  · have z := g.laid (c := r.toRowW.claim) hsame hwi hi L
    exact ⟨z.1, z.2.1, z.2.2, fun q => ⟨namesKept_of hT hg r.keeps keeps g.2.1.old, noTable hwr q⟩⟩

end

/-! part HdP -/
section
def keepOf (b : List Stmt) : List Stmt := List.append (List.take 2 (List.drop 1 b)) (List.append (List.take 7 (List.drop 4 b)) (List.drop 12 b))
def lview : Program :=
  { PySem.Challenge.rw_nz0210_01.prog with main := { PySem.Challenge.rw_nz0210_01.prog.main with body := keepOf PySem.Challenge.rw_nz0210_01.prog.main.body } }
namespace Hp
abbrev pg : Program := PySem.Challenge.pw_nz0210_01
/-! the states between the pieces, as data -/
noncomputable def nth : List Stmt → Nat → Stmt | [], _ => .Pass default | s :: _, 0 => s | _ :: r, n + 1 => nth r n
noncomputable def bodyOf : Stmt → List Stmt | .FunctionDef _ _ b .. => b | .ClassDef _ _ _ b .. => b | _ => []
noncomputable def argsOf : Stmt → Arguments | .FunctionDef _ a .. => a | _ => default
noncomputable def scopeOf : Stmt → Scope | .FunctionDef _ _ _ _ _ _ s .. => s | _ => default
noncomputable def atTop (n : Nat) : Stmt := nth pg.main.body n
noncomputable def inTop (n m : Nat) : Stmt := nth (bodyOf (atTop n)) m
noncomputable def f0 : Stmt := inTop 1 0
noncomputable def f1 : Stmt := inTop 9 0
noncomputable def f2 : Stmt := inTop 9 1
noncomputable def f3 : Stmt := inTop 9 2
noncomputable def f4 : Stmt := inTop 9 3
noncomputable def f5 : Stmt := inTop 9 4
noncomputable def f6 : Stmt := inTop 9 5
noncomputable def f7 : Stmt := inTop 9 6
noncomputable def f8 : Stmt := inTop 10 0
noncomputable def f9 : Stmt := inTop 10 1
noncomputable def f10 : Stmt := inTop 10 2
noncomputable def f11 : Stmt := inTop 10 3
noncomputable def f12 : Stmt := atTop 12
noncomputable def f13 : Stmt := atTop 13
noncomputable def f14 : Stmt := atTop 14
noncomputable def f15 : Stmt := atTop 15
noncomputable def f16 : Stmt := atTop 16
noncomputable def f17 : Stmt := atTop 17
noncomputable def f18 : Stmt := atTop 18
noncomputable def f19 : Stmt := atTop 19
noncomputable def f20 : Stmt := atTop 20
noncomputable def f21 : Stmt := atTop 21
noncomputable def f22 : Stmt := atTop 22
abbrev sf := Str.ofString
abbrev vr := Value.ref
abbrev nl := BT.nil
abbrev nd := BT.node
noncomputable def vs (s : String) (t : Nat) : Value := .str (Str.ofString s) t
noncomputable def vi (i t : Nat) : Value := .int (Int.ofNat i) t
noncomputable def en (P : Params) (s : String) (t : Nat) (v : Value) : DictEntry := ⟨PyData.keyHash P (Str.ofString s), .str (Str.ofString s) t, v⟩
noncomputable def tupO (l : List Value) : Obj := Obj.mk (.type "tuple") none (.seq ⟨l⟩ 0) #[]
noncomputable def fldO (c : Value) (l : List Value) : Obj := Obj.mk c none (.fields ⟨l⟩) #[]
noncomputable def dicO (l : List DictEntry) (n : Nat) : Obj := Obj.mk (.type "dict") none (.dict ⟨l⟩ n) #[]
noncomputable def fnA (a b : String) (f : Stmt) : Obj := Obj.mk .none none (.func (FuncData.mk (sf a) (sf b) (argsOf f) (.stmts (bodyOf f)) (scopeOf f) 0 [] .none .none .none .none none .none .none 0)) #[]
noncomputable def fnB (a b : String) (f : Stmt) (d m c : Value) : Obj := Obj.mk (.type "function") none (.func (FuncData.mk (sf a) (sf b) (argsOf f) (.stmts (bodyOf f)) (scopeOf f) 3 [] d .none .none m none c .none 0)) #[]
noncomputable def codO (a b c d e f : Value) (g : Bool) (h : Nat) (i j k l m n o : Value) : Obj := fldO (.type "code") [a, b, c, d, e, vi 0 0, vi 0 0, vi 3 0, f, .bool g, vi h 0, i, .none, j, k, l, m, n, o]
noncomputable def o43 : Obj := tupO []
noncomputable def o44 : Obj := fldO Value.none []
noncomputable def o45 : Obj := fldO (Value.type "code") [(vs "<module>" 182), (vs "<module>" 183), (vs "/claim/cut.py" 184), (vi 1 0), (vi 0 0), (vi 0 0), (vi 0 0), (vi 0 0), (vr 11), (Value.bool Bool.false), (vi 181 0), (vr 12), Value.none, Value.none, Value.none, Value.none, (vi 185 0), (vi 1 0), (vs "/claim/cut.py" 186)]
noncomputable def o46 : Obj := (Obj.mk (Value.type "frame") none Data.plain #[(some (vr 13)), (some (vr 3)), (some (vr 3)), none, (some (vs "__main__" 164)), none, (some (vr 0))])
noncomputable def o49 (P : Params) : Obj := dicO [(en P "__name__" 165 (vs "pipeboard.errors" 187)), (en P "__doc__" 166 Value.none), (en P "__package__" 167 Value.none), (en P "__loader__" 168 (Value.builtin "__main__.__loader__#opaque")), (en P "__spec__" 169 Value.none), (en P "__annotations__" 170 (vr 6)), (en P "__builtins__" 171 (vr 4)), (en P "__file__" 173 (vs "/claim/cut.py" 172)), (en P "__cached__" 174 Value.none), (en P "BoardError" 216 (vr 32))] 10
noncomputable def o50 : Obj := fldO Value.none [(vi 2 0), (vi 0 0), (vr 20)]
noncomputable def o51 : Obj := tupO [(Value.type "ValueError")]
noncomputable def o52 : Obj := fldO (Value.type "builtin_function_or_method") [(Value.builtin "type.__prepare__"), (Value.type "type")]
noncomputable def o53 (P : Params) : Obj := dicO [(en P "__module__" 196 (vs "pipeboard.errors" 187)), (en P "__qualname__" 198 (vs "BoardError" 197)), (en P "__firstlineno__" 200 (vi 2 199)), (en P "__init__" 209 (vr 29)), (en P "__static_attributes__" 211 (vr 30))] 5
noncomputable def o55 : Obj := fldO Value.none [(vi 4 0), (vi 4 0), (vr 28)]
noncomputable def o56 : Obj := fldO (Value.type "code") [(vs "BoardError" 191), (vs "BoardError" 192), (vs "/claim/cut.py" 193), (vi 2 0), (vi 0 0), (vi 0 0), (vi 0 0), (vi 0 0), (vr 18), (Value.bool Bool.false), (vi 181 0), (vr 19), Value.none, Value.none, Value.none, Value.none, (vi 194 0), (vi 2 0), (vs "/claim/cut.py" 195)]
noncomputable def o57 : Obj := (Obj.mk (Value.type "frame") none Data.plain #[(some (vr 20)), (some (vr 3)), (some (vr 17)), none, (some (vs "pipeboard.errors" 187)), none, (some (vr 0))])
noncomputable def o58 : Obj := tupO [(vs "" 201)]
noncomputable def o61 : Obj := tupO [(vs "self" 205), (vs "reason" 206)]
noncomputable def o63 : Obj := fnA "__init__" "BoardError.__init__" f0
noncomputable def o64 : Obj := codO (vs "__init__" 202) (vs "BoardError.__init__" 203) (vs "/claim/cut.py" 204) (vi 4 0) (vi 2 0) (vr 23) true 181 (vr 24) (vr 25) (vr 26) (vr 27) (vi 207 0) (vi 4 0) (vs "/claim/cut.py" 208)
noncomputable def o65 : Obj := fnB "__init__" "BoardError.__init__" f0 (vr 22) (vs "pipeboard.errors" 187) (vr 28)
noncomputable def o66 : Obj := tupO [(vs "reason" 210)]
noncomputable def o67 (P : Params) : Obj := dicO [(en P "__module__" 196 (vs "pipeboard.errors" 187)), (en P "__firstlineno__" 200 (vi 2 199)), (en P "__init__" 209 (vr 29)), (en P "__static_attributes__" 211 (vr 30)), (en P "__weakref__" 213 (vr 33)), (en P "__doc__" 214 Value.none)] 3
noncomputable def o68 : Obj := (Obj.mk (Value.type "type") none (Data.cls (ClassData.mk (sf "BoardError") [(Value.type "ValueError")] [(vr 32), (Value.type "ValueError"), (Value.type "Exception"), (Value.type "BaseException"), (Value.type "object")] 31 (sf "BoardError") Bool.true [] [] Bool.false none Bool.false)) #[(some (vr 15)), none, (some (vs "BoardError" 189)), (some (vs "BoardError" 197)), (some (Value.builtin "ValueError.__new__")), (some (Value.bool Bool.true))])
noncomputable def o69 : Obj := fldO (Value.type "getset_descriptor") [(vs "__weakref__" 212), (vr 32), (Value.builtin "ExceptionGroup.__weakref__"), Value.none]
noncomputable def o70 : Obj := fldO (Value.type "super") [(vr 32), (vr 32), (vr 32)]
noncomputable def o71 : Obj := fldO (Value.type "builtin_function_or_method") [(Value.builtin "object.__init_subclass__"), (vr 32)]
noncomputable def o72 (P : Params) : Obj := dicO [(en P "__name__" 165 (vs "pipeboard.pipes" 233)), (en P "__doc__" 166 Value.none), (en P "__package__" 167 Value.none), (en P "__loader__" 168 (Value.builtin "__main__.__loader__#opaque")), (en P "__spec__" 169 Value.none), (en P "__annotations__" 170 (vr 6)), (en P "__builtins__" 171 (vr 4)), (en P "__file__" 173 (vs "/claim/cut.py" 172)), (en P "__cached__" 174 Value.none), (en P "BoardError" 216 (vr 32)), (en P "BadArgument" 232 (vr 45)), (en P "DONE" 236 (vi 0 235)), (en P "SLEEP" 238 (vi 1 237)), (en P "BROKEN" 240 (vi 2 239)), (en P "READ_CHANNEL" 242 (vi 0 241)), (en P "WRITE_CHANNEL" 244 (vi 1 243))] 16
noncomputable def o73 : Obj := fldO Value.none [(vi 2 0), (vi 0 0), (vr 20), (vi 7 0), (vi 0 0), (vr 41)]
noncomputable def o74 : Obj := (Obj.mk (Value.type "type") none (Data.cls (ClassData.mk (sf "BoardError") [(Value.type "ValueError")] [(vr 32), (Value.type "ValueError"), (Value.type "Exception"), (Value.type "BaseException"), (Value.type "object")] 31 (sf "BoardError") Bool.true [] [(vr 45)] Bool.false none Bool.false)) #[(some (vr 15)), none, (some (vs "BoardError" 189)), (some (vs "BoardError" 197)), (some (Value.builtin "ValueError.__new__")), (some (Value.bool Bool.true))])
noncomputable def o75 : Obj := tupO [(vr 32)]
noncomputable def o77 (P : Params) : Obj := dicO [(en P "__module__" 224 (vs "pipeboard.errors" 187)), (en P "__qualname__" 226 (vs "BadArgument" 225)), (en P "__firstlineno__" 228 (vi 7 227)), (en P "__static_attributes__" 229 (vr 43))] 4
noncomputable def o80 : Obj := fldO (Value.type "code") [(vs "BadArgument" 219), (vs "BadArgument" 220), (vs "/claim/cut.py" 221), (vi 7 0), (vi 0 0), (vi 0 0), (vi 0 0), (vi 0 0), (vr 39), (Value.bool Bool.false), (vi 181 0), (vr 40), Value.none, Value.none, Value.none, Value.none, (vi 222 0), (vi 7 0), (vs "/claim/cut.py" 223)]
noncomputable def o81 : Obj := (Obj.mk (Value.type "frame") none Data.plain #[(some (vr 41)), (some (vr 3)), (some (vr 38)), none, (some (vs "pipeboard.errors" 187)), none, (some (vr 0))])
noncomputable def o83 (P : Params) : Obj := dicO [(en P "__module__" 224 (vs "pipeboard.errors" 187)), (en P "__firstlineno__" 228 (vi 7 227)), (en P "__static_attributes__" 229 (vr 43)), (en P "__doc__" 230 Value.none)] 2
noncomputable def o84 : Obj := (Obj.mk (Value.type "type") none (Data.cls (ClassData.mk (sf "BadArgument") [(vr 32)] [(vr 45), (vr 32), (Value.type "ValueError"), (Value.type "Exception"), (Value.type "BaseException"), (Value.type "object")] 44 (sf "BadArgument") Bool.true [] [] Bool.false none Bool.false)) #[(some (vr 36)), none, (some (vs "BadArgument" 217)), (some (vs "BadArgument" 225)), (some (Value.builtin "ValueError.__new__")), (some (Value.bool Bool.true))])
noncomputable def o85 : Obj := fldO (Value.type "super") [(vr 45), (vr 45), (vr 45)]
noncomputable def o86 : Obj := fldO (Value.type "builtin_function_or_method") [(Value.builtin "object.__init_subclass__"), (vr 45)]
noncomputable def o87 (P : Params) : Obj := dicO [(en P "__name__" 165 (vs "pipeboard.pipes" 233)), (en P "__doc__" 166 Value.none), (en P "__package__" 167 Value.none), (en P "__loader__" 168 (Value.builtin "__main__.__loader__#opaque")), (en P "__spec__" 169 Value.none), (en P "__annotations__" 170 (vr 6)), (en P "__builtins__" 171 (vr 4)), (en P "__file__" 173 (vs "/claim/cut.py" 172)), (en P "__cached__" 174 Value.none), (en P "BoardError" 216 (vr 32)), (en P "BadArgument" 232 (vr 45)), (en P "DONE" 236 (vi 0 235)), (en P "SLEEP" 238 (vi 1 237)), (en P "BROKEN" 240 (vi 2 239)), (en P "READ_CHANNEL" 242 (vi 0 241)), (en P "WRITE_CHANNEL" 244 (vi 1 243)), (en P "Pipe" 330 (vr 107))] 17
noncomputable def o88 : Obj := fldO Value.none [(vi 2 0), (vi 0 0), (vr 20), (vi 7 0), (vi 0 0), (vr 41), (vi 15 0), (vi 0 0), (vr 53)]
noncomputable def o91 (P : Params) : Obj := dicO [(en P "__module__" 252 (vs "pipeboard.pipes" 233)), (en P "__qualname__" 254 (vs "Pipe" 253)), (en P "__firstlineno__" 256 (vi 15 255)), (en P "__init__" 266 (vr 62)), (en P "waiting" 273 (vr 69)), (en P "room" 280 (vr 76)), (en P "channel" 288 (vr 83)), (en P "write" 298 (vr 90)), (en P "read" 307 (vr 97)), (en P "close" 315 (vr 104)), (en P "__static_attributes__" 323 (vr 105))] 11
noncomputable def o93 : Obj := fldO Value.none [(vi 17 0), (vi 4 0), (vr 61), (vi 28 0), (vi 4 0), (vr 68), (vi 31 0), (vi 4 0), (vr 75), (vi 34 0), (vi 4 0), (vr 82), (vi 37 0), (vi 4 0), (vr 89), (vi 46 0), (vi 4 0), (vr 96), (vi 55 0), (vi 4 0), (vr 103)]
noncomputable def o94 : Obj := fldO (Value.type "code") [(vs "Pipe" 247), (vs "Pipe" 248), (vs "/claim/cut.py" 249), (vi 15 0), (vi 0 0), (vi 0 0), (vi 0 0), (vi 0 0), (vr 51), (Value.bool Bool.false), (vi 181 0), (vr 52), Value.none, Value.none, Value.none, Value.none, (vi 250 0), (vi 15 0), (vs "/claim/cut.py" 251)]
noncomputable def o95 : Obj := (Obj.mk (Value.type "frame") none Data.plain #[(some (vr 53)), (some (vr 3)), (some (vr 50)), none, (some (vs "pipeboard.pipes" 233)), none, (some (vr 0))])
noncomputable def o96 : Obj := tupO [(vi 512 257)]
noncomputable def o99 : Obj := tupO [(vs "self" 261), (vs "ident" 262), (vs "size" 263)]
noncomputable def o101 : Obj := fnA "__init__" "Pipe.__init__" f1
noncomputable def o102 : Obj := codO (vs "__init__" 258) (vs "Pipe.__init__" 259) (vs "/claim/cut.py" 260) (vi 17 0) (vi 3 0) (vr 56) true 181 (vr 57) (vr 58) (vr 59) (vr 60) (vi 264 0) (vi 17 0) (vs "/claim/cut.py" 265)
noncomputable def o103 : Obj := fnB "__init__" "Pipe.__init__" f1 (vr 55) (vs "pipeboard.pipes" 233) (vr 61)
noncomputable def o106 : Obj := tupO [(vs "self" 270)]
noncomputable def o108 : Obj := (Obj.mk Value.none none (Data.func (FuncData.mk (sf "waiting") (sf "Pipe.waiting") (argsOf f2) (FuncBody.stmts (bodyOf f2)) (scopeOf f3) 0 [] Value.none Value.none Value.none Value.none none Value.none Value.none 0)) #[])
noncomputable def o109 : Obj := codO (vs "waiting" 267) (vs "Pipe.waiting" 268) (vs "/claim/cut.py" 269) (vi 28 0) (vi 1 0) (vr 63) true 181 (vr 64) (vr 65) (vr 66) (vr 67) (vi 271 0) (vi 28 0) (vs "/claim/cut.py" 272)
noncomputable def o110 : Obj := (Obj.mk (Value.type "function") none (Data.func (FuncData.mk (sf "waiting") (sf "Pipe.waiting") (argsOf f2) (FuncBody.stmts (bodyOf f2)) (scopeOf f3) 3 [] Value.none Value.none Value.none (vs "pipeboard.pipes" 233) none (vr 68) Value.none 0)) #[])
noncomputable def o113 : Obj := tupO [(vs "self" 277)]
noncomputable def o115 : Obj := fnA "room" "Pipe.room" f3
noncomputable def o116 : Obj := codO (vs "room" 274) (vs "Pipe.room" 275) (vs "/claim/cut.py" 276) (vi 31 0) (vi 1 0) (vr 70) true 181 (vr 71) (vr 72) (vr 73) (vr 74) (vi 278 0) (vi 31 0) (vs "/claim/cut.py" 279)
noncomputable def o117 : Obj := fnB "room" "Pipe.room" f3 Value.none (vs "pipeboard.pipes" 233) (vr 75)
noncomputable def o120 : Obj := tupO [(vs "self" 284), (vs "side" 285)]
noncomputable def o122 : Obj := fnA "channel" "Pipe.channel" f4
noncomputable def o123 : Obj := codO (vs "channel" 281) (vs "Pipe.channel" 282) (vs "/claim/cut.py" 283) (vi 34 0) (vi 2 0) (vr 77) true 181 (vr 78) (vr 79) (vr 80) (vr 81) (vi 286 0) (vi 34 0) (vs "/claim/cut.py" 287)
noncomputable def o124 : Obj := fnB "channel" "Pipe.channel" f4 Value.none (vs "pipeboard.pipes" 233) (vr 82)
noncomputable def o127 : Obj := tupO [(vs "self" 292), (vs "octets" 293), (vs "taken" 294), (vs "octet" 295)]
noncomputable def o129 : Obj := fnA "write" "Pipe.write" f5
noncomputable def o130 : Obj := codO (vs "write" 289) (vs "Pipe.write" 290) (vs "/claim/cut.py" 291) (vi 37 0) (vi 2 0) (vr 84) true 181 (vr 85) (vr 86) (vr 87) (vr 88) (vi 296 0) (vi 37 0) (vs "/claim/cut.py" 297)
noncomputable def o131 : Obj := fnB "write" "Pipe.write" f5 Value.none (vs "pipeboard.pipes" 233) (vr 89)
noncomputable def o134 : Obj := tupO [(vs "self" 302), (vs "count" 303), (vs "given" 304)]
noncomputable def o136 : Obj := fnA "read" "Pipe.read" f6
noncomputable def o137 : Obj := codO (vs "read" 299) (vs "Pipe.read" 300) (vs "/claim/cut.py" 301) (vi 46 0) (vi 2 0) (vr 91) true 181 (vr 92) (vr 93) (vr 94) (vr 95) (vi 305 0) (vi 46 0) (vs "/claim/cut.py" 306)
noncomputable def o138 : Obj := fnB "read" "Pipe.read" f6 Value.none (vs "pipeboard.pipes" 233) (vr 96)
noncomputable def o141 : Obj := tupO [(vs "self" 311), (vs "side" 312)]
noncomputable def o143 : Obj := fnA "close" "Pipe.close" f7
noncomputable def o144 : Obj := codO (vs "close" 308) (vs "Pipe.close" 309) (vs "/claim/cut.py" 310) (vi 55 0) (vi 2 0) (vr 98) true 181 (vr 99) (vr 100) (vr 101) (vr 102) (vi 313 0) (vi 55 0) (vs "/claim/cut.py" 314)
noncomputable def o145 : Obj := fnB "close" "Pipe.close" f7 Value.none (vs "pipeboard.pipes" 233) (vr 103)
noncomputable def o146 : Obj := tupO [(vs "ident" 316), (vs "read_count" 317), (vs "read_open" 318), (vs "ring" 319), (vs "size" 320), (vs "write_count" 321), (vs "write_open" 322)]
noncomputable def o147 (P : Params) : Obj := dicO [(en P "__module__" 252 (vs "pipeboard.pipes" 233)), (en P "__firstlineno__" 256 (vi 15 255)), (en P "__init__" 266 (vr 62)), (en P "waiting" 273 (vr 69)), (en P "room" 280 (vr 76)), (en P "channel" 288 (vr 83)), (en P "write" 298 (vr 90)), (en P "read" 307 (vr 97)), (en P "close" 315 (vr 104)), (en P "__static_attributes__" 323 (vr 105)), (en P "__dict__" 325 (vr 108)), (en P "__weakref__" 327 (vr 109)), (en P "__doc__" 328 Value.none)] 4
noncomputable def o148 : Obj := (Obj.mk (Value.type "type") none (Data.cls (ClassData.mk (sf "Pipe") [(Value.type "object")] [(vr 107), (Value.type "object")] 106 (sf "Pipe") Bool.true [] [] Bool.false none Bool.false)) #[none, none, (some (vs "Pipe" 245)), (some (vs "Pipe" 253)), (some (Value.builtin "object.__new__")), (some (Value.bool Bool.true))])
noncomputable def o149 : Obj := fldO (Value.type "getset_descriptor") [(vs "__dict__" 324), (vr 107), (Value.builtin "function.__dict__"), (Value.builtin "function.__dict__#set")]
noncomputable def o150 : Obj := fldO (Value.type "getset_descriptor") [(vs "__weakref__" 326), (vr 107), (Value.builtin "ExceptionGroup.__weakref__"), Value.none]
noncomputable def o151 : Obj := fldO (Value.type "super") [(vr 107), (vr 107), (vr 107)]
noncomputable def o152 : Obj := fldO (Value.type "builtin_function_or_method") [(Value.builtin "object.__init_subclass__"), (vr 107)]
noncomputable def o153 (P : Params) : Obj := dicO [(en P "__name__" 165 (vs "law_nz0210_01" 387)), (en P "__doc__" 166 Value.none), (en P "__package__" 167 Value.none), (en P "__loader__" 168 (Value.builtin "__main__.__loader__#opaque")), (en P "__spec__" 169 Value.none), (en P "__annotations__" 170 (vr 6)), (en P "__builtins__" 171 (vr 4)), (en P "__file__" 173 (vs "/claim/cut.py" 172)), (en P "__cached__" 174 Value.none), (en P "BoardError" 216 (vr 32)), (en P "BadArgument" 232 (vr 45)), (en P "DONE" 236 (vi 0 235)), (en P "SLEEP" 238 (vi 1 237)), (en P "BROKEN" 240 (vi 2 239)), (en P "READ_CHANNEL" 242 (vi 0 241)), (en P "WRITE_CHANNEL" 244 (vi 1 243)), (en P "Pipe" 330 (vr 107)), (en P "PipeTable" 386 (vr 150)), (en P "_law_take" 398 (vr 161)), (en P "_law_write" 407 (vr 168))] 20
noncomputable def o154 : Obj := fldO Value.none [(vi 2 0), (vi 0 0), (vr 20), (vi 7 0), (vi 0 0), (vr 41), (vi 15 0), (vi 0 0), (vr 53), (vi 61 0), (vi 0 0), (vr 117), (vi 81 0), (vi 0 0), (vr 160), (vi 86 0), (vi 0 0), (vr 167)]
noncomputable def o157 (P : Params) : Obj := dicO [(en P "__module__" 338 (vs "pipeboard.pipes" 233)), (en P "__qualname__" 340 (vs "PipeTable" 339)), (en P "__firstlineno__" 342 (vi 61 341)), (en P "__init__" 351 (vr 126)), (en P "make" 359 (vr 133)), (en P "close" 368 (vr 140)), (en P "count" 375 (vr 147)), (en P "__static_attributes__" 379 (vr 148))] 8
noncomputable def o159 : Obj := fldO Value.none [(vi 63 0), (vi 4 0), (vr 125), (vi 68 0), (vi 4 0), (vr 132), (vi 74 0), (vi 4 0), (vr 139), (vi 78 0), (vi 4 0), (vr 146)]
noncomputable def o160 : Obj := fldO (Value.type "code") [(vs "PipeTable" 333), (vs "PipeTable" 334), (vs "/claim/cut.py" 335), (vi 61 0), (vi 0 0), (vi 0 0), (vi 0 0), (vi 0 0), (vr 115), (Value.bool Bool.false), (vi 181 0), (vr 116), Value.none, Value.none, Value.none, Value.none, (vi 336 0), (vi 61 0), (vs "/claim/cut.py" 337)]
noncomputable def o161 : Obj := (Obj.mk (Value.type "frame") none Data.plain #[(some (vr 117)), (some (vr 3)), (some (vr 114)), none, (some (vs "pipeboard.pipes" 233)), none, (some (vr 0))])
noncomputable def o162 : Obj := tupO [(vi 512 343)]
noncomputable def o165 : Obj := tupO [(vs "self" 347), (vs "size" 348)]
noncomputable def o167 : Obj := fnA "__init__" "PipeTable.__init__" f8
noncomputable def o168 : Obj := codO (vs "__init__" 344) (vs "PipeTable.__init__" 345) (vs "/claim/cut.py" 346) (vi 63 0) (vi 2 0) (vr 120) true 181 (vr 121) (vr 122) (vr 123) (vr 124) (vi 349 0) (vi 63 0) (vs "/claim/cut.py" 350)
noncomputable def o169 : Obj := fnB "__init__" "PipeTable.__init__" f8 (vr 119) (vs "pipeboard.pipes" 233) (vr 125)
noncomputable def o172 : Obj := tupO [(vs "self" 355), (vs "pipe" 356)]
noncomputable def o174 : Obj := fnA "make" "PipeTable.make" f9
noncomputable def o175 : Obj := codO (vs "make" 352) (vs "PipeTable.make" 353) (vs "/claim/cut.py" 354) (vi 68 0) (vi 1 0) (vr 127) true 181 (vr 128) (vr 129) (vr 130) (vr 131) (vi 357 0) (vi 68 0) (vs "/claim/cut.py" 358)
noncomputable def o176 : Obj := fnB "make" "PipeTable.make" f9 Value.none (vs "pipeboard.pipes" 233) (vr 132)
noncomputable def o179 : Obj := tupO [(vs "self" 363), (vs "pipe" 364), (vs "side" 365)]
noncomputable def o181 : Obj := fnA "close" "PipeTable.close" f10
noncomputable def o182 : Obj := codO (vs "close" 360) (vs "PipeTable.close" 361) (vs "/claim/cut.py" 362) (vi 74 0) (vi 3 0) (vr 134) true 181 (vr 135) (vr 136) (vr 137) (vr 138) (vi 366 0) (vi 74 0) (vs "/claim/cut.py" 367)
noncomputable def o183 : Obj := fnB "close" "PipeTable.close" f10 Value.none (vs "pipeboard.pipes" 233) (vr 139)
noncomputable def o186 : Obj := tupO [(vs "self" 372)]
noncomputable def o188 : Obj := fnA "count" "PipeTable.count" f11
noncomputable def o189 : Obj := codO (vs "count" 369) (vs "PipeTable.count" 370) (vs "/claim/cut.py" 371) (vi 78 0) (vi 1 0) (vr 141) true 181 (vr 142) (vr 143) (vr 144) (vr 145) (vi 373 0) (vi 78 0) (vs "/claim/cut.py" 374)
noncomputable def o190 : Obj := fnB "count" "PipeTable.count" f11 Value.none (vs "pipeboard.pipes" 233) (vr 146)
noncomputable def o191 : Obj := tupO [(vs "made" 376), (vs "pipes" 377), (vs "size" 378)]
noncomputable def o192 (P : Params) : Obj := dicO [(en P "__module__" 338 (vs "pipeboard.pipes" 233)), (en P "__firstlineno__" 342 (vi 61 341)), (en P "__init__" 351 (vr 126)), (en P "make" 359 (vr 133)), (en P "close" 368 (vr 140)), (en P "count" 375 (vr 147)), (en P "__static_attributes__" 379 (vr 148)), (en P "__dict__" 381 (vr 151)), (en P "__weakref__" 383 (vr 152)), (en P "__doc__" 384 Value.none)] 4
noncomputable def o193 : Obj := (Obj.mk (Value.type "type") none (Data.cls (ClassData.mk (sf "PipeTable") [(Value.type "object")] [(vr 150), (Value.type "object")] 149 (sf "PipeTable") Bool.true [] [] Bool.false none Bool.false)) #[none, none, (some (vs "PipeTable" 331)), (some (vs "PipeTable" 339)), (some (Value.builtin "object.__new__")), (some (Value.bool Bool.true))])
noncomputable def o194 : Obj := fldO (Value.type "getset_descriptor") [(vs "__dict__" 380), (vr 150), (Value.builtin "function.__dict__"), (Value.builtin "function.__dict__#set")]
noncomputable def o195 : Obj := fldO (Value.type "getset_descriptor") [(vs "__weakref__" 382), (vr 150), (Value.builtin "ExceptionGroup.__weakref__"), Value.none]
noncomputable def o196 : Obj := fldO (Value.type "super") [(vr 150), (vr 150), (vr 150)]
noncomputable def o197 : Obj := fldO (Value.type "builtin_function_or_method") [(Value.builtin "object.__init_subclass__"), (vr 150)]
noncomputable def o200 : Obj := tupO [(vs "box" 392), (vs "many" 393), (vs "k" 394), (vs "cell" 395)]
noncomputable def o202 : Obj := fnA "_law_take" "_law_take" f12
noncomputable def o203 : Obj := codO (vs "_law_take" 389) (vs "_law_take" 390) (vs "/claim/cut.py" 391) (vi 81 0) (vi 2 0) (vr 155) true 181 (vr 156) (vr 157) (vr 158) (vr 159) (vi 396 0) (vi 81 0) (vs "/claim/cut.py" 397)
noncomputable def o204 : Obj := fnB "_law_take" "_law_take" f12 Value.none (vs "law_nz0210_01" 387) (vr 160)
noncomputable def o207 : Obj := tupO [(vs "one" 402), (vs "octets" 403), (vs "taken" 404)]
noncomputable def o209 : Obj := fnA "_law_write" "_law_write" f13
noncomputable def o210 : Obj := codO (vs "_law_write" 399) (vs "_law_write" 400) (vs "/claim/cut.py" 401) (vi 86 0) (vi 2 0) (vr 162) true 181 (vr 163) (vr 164) (vr 165) (vr 166) (vi 405 0) (vi 86 0) (vs "/claim/cut.py" 406)
noncomputable def o211 : Obj := fnB "_law_write" "_law_write" f13 Value.none (vs "law_nz0210_01" 387) (vr 167)
noncomputable def o212 (P : Params) : Obj := dicO [(en P "__name__" 165 (vs "law_nz0210_01" 387)), (en P "__doc__" 166 Value.none), (en P "__package__" 167 Value.none), (en P "__loader__" 168 (Value.builtin "__main__.__loader__#opaque")), (en P "__spec__" 169 Value.none), (en P "__annotations__" 170 (vr 6)), (en P "__builtins__" 171 (vr 4)), (en P "__file__" 173 (vs "/claim/cut.py" 172)), (en P "__cached__" 174 Value.none), (en P "BoardError" 216 (vr 32)), (en P "BadArgument" 232 (vr 45)), (en P "DONE" 236 (vi 0 235)), (en P "SLEEP" 238 (vi 1 237)), (en P "BROKEN" 240 (vi 2 239)), (en P "READ_CHANNEL" 242 (vi 0 241)), (en P "WRITE_CHANNEL" 244 (vi 1 243)), (en P "Pipe" 330 (vr 107)), (en P "PipeTable" 386 (vr 150)), (en P "_law_take" 398 (vr 161)), (en P "_law_write" 407 (vr 168)), (en P "_law_read" 416 (vr 175)), (en P "_law_close" 424 (vr 182)), (en P "_law_alike" 433 (vr 189)), (en P "_law_count" 441 (vr 196)), (en P "_law_deed" 447 (vr 201)), (en P "_law_channels_right" 453 (vr 206)), (en P "_law_through" 469 (vr 213)), (en P "_law_refused" 475 (vr 220)), (en P "law" 481 (vr 225))] 29
noncomputable def o213 : Obj := fldO Value.none [(vi 2 0), (vi 0 0), (vr 20), (vi 7 0), (vi 0 0), (vr 41), (vi 15 0), (vi 0 0), (vr 53), (vi 61 0), (vi 0 0), (vr 117), (vi 81 0), (vi 0 0), (vr 160), (vi 86 0), (vi 0 0), (vr 167), (vi 92 0), (vi 0 0), (vr 174), (vi 98 0), (vi 0 0), (vr 181), (vi 101 0), (vi 0 0), (vr 188), (vi 104 0), (vi 0 0), (vr 195), (vi 106 0), (vi 0 0), (vr 200), (vi 121 0), (vi 0 0), (vr 205), (vi 125 0), (vi 0 0), (vr 212), (vi 138 0), (vi 0 0), (vr 219), (vi 144 0), (vi 0 0), (vr 224)]
noncomputable def o216 : Obj := tupO [(vs "one" 411), (vs "count" 412), (vs "found" 413)]
noncomputable def o218 : Obj := fnA "_law_read" "_law_read" f14
noncomputable def o219 : Obj := codO (vs "_law_read" 408) (vs "_law_read" 409) (vs "/claim/cut.py" 410) (vi 92 0) (vi 2 0) (vr 169) true 181 (vr 170) (vr 171) (vr 172) (vr 173) (vi 414 0) (vi 92 0) (vs "/claim/cut.py" 415)
noncomputable def o220 : Obj := fnB "_law_read" "_law_read" f14 Value.none (vs "law_nz0210_01" 387) (vr 174)
noncomputable def o223 : Obj := tupO [(vs "one" 420), (vs "side" 421)]
noncomputable def o225 : Obj := fnA "_law_close" "_law_close" f15
noncomputable def o226 : Obj := codO (vs "_law_close" 417) (vs "_law_close" 418) (vs "/claim/cut.py" 419) (vi 98 0) (vi 2 0) (vr 176) true 181 (vr 177) (vr 178) (vr 179) (vr 180) (vi 422 0) (vi 98 0) (vs "/claim/cut.py" 423)
noncomputable def o227 : Obj := fnB "_law_close" "_law_close" f15 Value.none (vs "law_nz0210_01" 387) (vr 181)
noncomputable def o230 : Obj := tupO [(vs "one" 428), (vs "pipe" 429), (vs "told" 430)]
noncomputable def o232 : Obj := fnA "_law_alike" "_law_alike" f16
noncomputable def o233 : Obj := codO (vs "_law_alike" 425) (vs "_law_alike" 426) (vs "/claim/cut.py" 427) (vi 101 0) (vi 2 0) (vr 183) true 181 (vr 184) (vr 185) (vr 186) (vr 187) (vi 431 0) (vi 101 0) (vs "/claim/cut.py" 432)
noncomputable def o234 : Obj := fnB "_law_alike" "_law_alike" f16 Value.none (vs "law_nz0210_01" 387) (vr 188)
noncomputable def o237 : Obj := tupO [(vs "box" 437), (vs "is_short" 438)]
noncomputable def o239 : Obj := fnA "_law_count" "_law_count" f17
noncomputable def o240 : Obj := codO (vs "_law_count" 434) (vs "_law_count" 435) (vs "/claim/cut.py" 436) (vi 104 0) (vi 2 0) (vr 190) true 181 (vr 191) (vr 192) (vr 193) (vr 194) (vi 439 0) (vi 104 0) (vs "/claim/cut.py" 440)
noncomputable def o241 : Obj := fnB "_law_count" "_law_count" f17 Value.none (vs "law_nz0210_01" 387) (vr 195)
noncomputable def o244 : Obj := fnA "_law_deed" "_law_deed" f18
noncomputable def o245 : Obj := codO (vs "_law_deed" 442) (vs "_law_deed" 443) (vs "/claim/cut.py" 444) (vi 106 0) (vi 5 0) (vr 197) true 181 (vr 198) Value.none Value.none (vr 199) (vi 445 0) (vi 106 0) (vs "/claim/cut.py" 446)
noncomputable def o246 : Obj := fnB "_law_deed" "_law_deed" f18 Value.none (vs "law_nz0210_01" 387) (vr 200)
noncomputable def o249 : Obj := fnA "_law_channels_right" "_law_channels_right" f19
noncomputable def o250 : Obj := codO (vs "_law_channels_right" 448) (vs "_law_channels_right" 449) (vs "/claim/cut.py" 450) (vi 121 0) (vi 1 0) (vr 202) true 181 (vr 203) Value.none Value.none (vr 204) (vi 451 0) (vi 121 0) (vs "/claim/cut.py" 452)
noncomputable def o251 : Obj := fnB "_law_channels_right" "_law_channels_right" f19 Value.none (vs "law_nz0210_01" 387) (vr 205)
noncomputable def o254 : Obj := tupO [(vs "box" 457), (vs "table" 458), (vs "text" 459), (vs "most" 460), (vs "pipe" 461), (vs "out" 462), (vs "at" 463), (vs "turn" 464), (vs "octets" 465), (vs "state" 466)]
noncomputable def o256 : Obj := fnA "_law_through" "_law_through" f20
noncomputable def o257 : Obj := codO (vs "_law_through" 454) (vs "_law_through" 455) (vs "/claim/cut.py" 456) (vi 125 0) (vi 4 0) (vr 207) true 181 (vr 208) (vr 209) (vr 210) (vr 211) (vi 467 0) (vi 125 0) (vs "/claim/cut.py" 468)
noncomputable def o258 : Obj := fnB "_law_through" "_law_through" f20 Value.none (vs "law_nz0210_01" 387) (vr 212)
noncomputable def o263 : Obj := fnA "_law_refused" "_law_refused" f21
noncomputable def o264 : Obj := codO (vs "_law_refused" 470) (vs "_law_refused" 471) (vs "/claim/cut.py" 472) (vi 138 0) (vi 0 0) (vr 214) true 181 (vr 215) (vr 216) (vr 217) (vr 218) (vi 473 0) (vi 138 0) (vs "/claim/cut.py" 474)
noncomputable def o265 : Obj := fnB "_law_refused" "_law_refused" f21 Value.none (vs "law_nz0210_01" 387) (vr 219)
noncomputable def o268 : Obj := fnA "law" "law" f22
noncomputable def o269 : Obj := codO (vs "law" 476) (vs "law" 477) (vs "/claim/cut.py" 478) (vi 144 0) (vi 1 0) (vr 221) true 181 (vr 222) Value.none Value.none (vr 223) (vi 479 0) (vi 144 0) (vs "/claim/cut.py" 480)
noncomputable def o270 : Obj := fnB "law" "law" f22 Value.none (vs "law_nz0210_01" 387) (vr 224)
noncomputable def t47 (P : Params) : BT := (nd (boot_o_0 P) (nd (boot_o_1 P) (nd (boot_o_3 P) (nd (boot_o_7 P) nl nl) (nd o43 nl nl)) (nd (boot_o_5 P) (nd (boot_o_9 P) nl nl) (nd o45 nl nl))) (nd (boot_o_2 P) (nd (boot_o_4 P) (nd (boot_o_8 P) nl nl) (nd o44 nl nl)) (nd (boot_o_6 P) (nd (boot_o_10 P) nl nl) (nd o46 nl nl))))
noncomputable def t71 (P : Params) : BT := (nd (boot_o_0 P) (nd (boot_o_1 P) (nd (o49 P) (nd (boot_o_7 P) (nd o51 (nd (o67 P) nl nl) nl) (nd o43 nl nl)) (nd o43 (nd o55 (nd o71 nl nl) nl) (nd o63 nl nl))) (nd (boot_o_5 P) (nd (boot_o_9 P) (nd (o53 P) (nd o69 nl nl) nl) (nd o61 nl nl)) (nd o45 (nd o57 nl nl) (nd o65 nl nl)))) (nd (boot_o_2 P) (nd (boot_o_4 P) (nd (boot_o_8 P) (nd o52 (nd o68 nl nl) nl) (nd o44 nl nl)) (nd o50 (nd o56 nl nl) (nd o64 nl nl))) (nd (boot_o_6 P) (nd (boot_o_10 P) (nd o43 (nd o70 nl nl) nl) (nd o43 nl nl)) (nd o46 (nd o58 nl nl) (nd o66 nl nl)))))
noncomputable def t86 (P : Params) : BT := (nd (boot_o_0 P) (nd (boot_o_1 P) (nd (o72 P) (nd (boot_o_7 P) (nd o51 (nd (o67 P) nl nl) (nd o86 nl nl)) (nd o43 (nd o43 nl nl) nl)) (nd o43 (nd o55 (nd o71 nl nl) nl) (nd o63 (nd o43 nl nl) nl))) (nd (boot_o_5 P) (nd (boot_o_9 P) (nd (o53 P) (nd o69 nl nl) nl) (nd o61 (nd o80 nl nl) nl)) (nd o45 (nd o57 (nd o52 nl nl) nl) (nd o65 (nd o84 nl nl) nl)))) (nd (boot_o_2 P) (nd (boot_o_4 P) (nd (boot_o_8 P) (nd o52 (nd o74 nl nl) nl) (nd o44 (nd o44 nl nl) nl)) (nd o73 (nd o56 (nd o75 nl nl) nl) (nd o64 (nd (o83 P) nl nl) nl))) (nd (boot_o_6 P) (nd (boot_o_10 P) (nd o43 (nd o70 nl nl) nl) (nd o43 (nd o81 nl nl) nl)) (nd o46 (nd o58 (nd (o77 P) nl nl) nl) (nd o66 (nd o85 nl nl) nl)))))
noncomputable def t152 (P : Params) : BT := (nd (boot_o_0 P) (nd (boot_o_1 P) (nd (o87 P) (nd (boot_o_7 P) (nd o51 (nd (o67 P) (nd o43 nl nl) (nd o136 nl nl)) (nd o86 (nd o120 nl nl) (nd o152 nl nl))) (nd o43 (nd o43 (nd o44 nl nl) (nd o144 nl nl)) (nd o96 (nd o43 nl nl) nl))) (nd o43 (nd o55 (nd o71 (nd o108 nl nl) (nd o44 nl nl)) (nd o43 (nd o124 nl nl) nl)) (nd o63 (nd o43 (nd o116 nl nl) (nd o148 nl nl)) (nd o43 (nd o43 nl nl) nl)))) (nd (boot_o_5 P) (nd (boot_o_9 P) (nd (o53 P) (nd o69 (nd o106 nl nl) (nd o138 nl nl)) (nd o52 (nd o122 nl nl) nl)) (nd o61 (nd o80 (nd o43 nl nl) (nd o146 nl nl)) (nd o44 (nd o130 nl nl) nl))) (nd o45 (nd o57 (nd o52 (nd o110 nl nl) (nd o43 nl nl)) (nd o94 (nd o44 nl nl) nl)) (nd o65 (nd o84 (nd o43 nl nl) (nd o150 nl nl)) (nd o102 (nd o134 nl nl) nl))))) (nd (boot_o_2 P) (nd (boot_o_4 P) (nd (boot_o_8 P) (nd o52 (nd o74 (nd o44 nl nl) (nd o137 nl nl)) (nd o43 (nd o43 nl nl) nl)) (nd o44 (nd o44 (nd o113 nl nl) (nd o145 nl nl)) (nd o43 (nd o129 nl nl) nl))) (nd o88 (nd o56 (nd o75 (nd o109 nl nl) (nd o141 nl nl)) (nd o93 (nd o43 nl nl) nl)) (nd o64 (nd (o83 P) (nd o117 nl nl) (nd o149 nl nl)) (nd o101 (nd o44 nl nl) nl)))) (nd (boot_o_6 P) (nd (boot_o_10 P) (nd o43 (nd o70 (nd o43 nl nl) (nd o43 nl nl)) (nd (o91 P) (nd o123 nl nl) nl)) (nd o43 (nd o81 (nd o115 nl nl) (nd (o147 P) nl nl)) (nd o99 (nd o131 nl nl) nl))) (nd o46 (nd o58 (nd (o77 P) (nd o43 nl nl) (nd o143 nl nl)) (nd o95 (nd o127 nl nl) nl)) (nd o66 (nd o85 (nd o44 nl nl) (nd o151 nl nl)) (nd o103 (nd o43 nl nl) nl))))))
noncomputable def t211 (P : Params) : BT := (nd (boot_o_0 P) (nd (boot_o_1 P) (nd (o153 P) (nd (boot_o_7 P) (nd o51 (nd (o67 P) (nd o43 (nd o43 nl nl) nl) (nd o136 (nd o202 nl nl) nl)) (nd o86 (nd o120 (nd o186 nl nl) nl) (nd o152 nl nl))) (nd o43 (nd o43 (nd o44 (nd o44 nl nl) nl) (nd o144 (nd o210 nl nl) nl)) (nd o96 (nd o43 (nd o194 nl nl) nl) (nd o162 nl nl)))) (nd o43 (nd o55 (nd o71 (nd o108 (nd o174 nl nl) nl) (nd o44 (nd o44 nl nl) nl)) (nd o43 (nd o124 (nd o190 nl nl) nl) (nd o43 nl nl))) (nd o63 (nd o43 (nd o116 (nd o182 nl nl) nl) (nd o148 nl nl)) (nd o43 (nd o43 (nd o43 nl nl) nl) (nd o43 nl nl))))) (nd (boot_o_5 P) (nd (boot_o_9 P) (nd (o53 P) (nd o69 (nd o106 (nd o172 nl nl) nl) (nd o138 (nd o204 nl nl) nl)) (nd o52 (nd o122 (nd o188 nl nl) nl) (nd o52 nl nl))) (nd o61 (nd o80 (nd o43 (nd o43 nl nl) nl) (nd o146 nl nl)) (nd o44 (nd o130 (nd o196 nl nl) nl) (nd o44 nl nl)))) (nd o45 (nd o57 (nd o52 (nd o110 (nd o176 nl nl) nl) (nd o43 (nd o43 nl nl) nl)) (nd o94 (nd o44 (nd (o192 P) nl nl) nl) (nd o160 nl nl))) (nd o65 (nd o84 (nd o43 (nd o43 nl nl) nl) (nd o150 nl nl)) (nd o102 (nd o134 (nd o200 nl nl) nl) (nd o168 nl nl)))))) (nd (boot_o_2 P) (nd (boot_o_4 P) (nd (boot_o_8 P) (nd o52 (nd o74 (nd o44 (nd o44 nl nl) nl) (nd o137 (nd o203 nl nl) nl)) (nd o43 (nd o43 (nd o43 nl nl) nl) (nd o43 nl nl))) (nd o44 (nd o44 (nd o113 (nd o179 nl nl) nl) (nd o145 (nd o211 nl nl) nl)) (nd o43 (nd o129 (nd o195 nl nl) nl) (nd o43 nl nl)))) (nd o154 (nd o56 (nd o75 (nd o109 (nd o175 nl nl) nl) (nd o141 (nd o207 nl nl) nl)) (nd o93 (nd o43 (nd o191 nl nl) nl) (nd o159 nl nl))) (nd o64 (nd (o83 P) (nd o117 (nd o183 nl nl) nl) (nd o149 nl nl)) (nd o101 (nd o44 (nd o44 nl nl) nl) (nd o167 nl nl))))) (nd (boot_o_6 P) (nd (boot_o_10 P) (nd o43 (nd o70 (nd o43 (nd o43 nl nl) nl) (nd o43 (nd o43 nl nl) nl)) (nd (o91 P) (nd o123 (nd o189 nl nl) nl) (nd (o157 P) nl nl))) (nd o43 (nd o81 (nd o115 (nd o181 nl nl) nl) (nd (o147 P) nl nl)) (nd o99 (nd o131 (nd o197 nl nl) nl) (nd o165 nl nl)))) (nd o46 (nd o58 (nd (o77 P) (nd o43 (nd o43 nl nl) nl) (nd o143 (nd o209 nl nl) nl)) (nd o95 (nd o127 (nd o193 nl nl) nl) (nd o161 nl nl))) (nd o66 (nd o85 (nd o44 (nd o44 nl nl) nl) (nd o151 nl nl)) (nd o103 (nd o43 (nd o43 nl nl) nl) (nd o169 nl nl)))))))
noncomputable def t270 (P : Params) : BT := (nd (boot_o_0 P) (nd (boot_o_1 P) (nd (o212 P) (nd (boot_o_7 P) (nd o51 (nd (o67 P) (nd o43 (nd o43 nl nl) (nd o44 nl nl)) (nd o136 (nd o202 nl nl) (nd o268 nl nl))) (nd o86 (nd o120 (nd o186 nl nl) (nd o43 nl nl)) (nd o152 (nd o220 nl nl) nl))) (nd o43 (nd o43 (nd o44 (nd o44 nl nl) (nd o244 nl nl)) (nd o144 (nd o210 nl nl) nl)) (nd o96 (nd o43 (nd o194 nl nl) (nd o44 nl nl)) (nd o162 (nd o43 nl nl) nl)))) (nd o43 (nd o55 (nd o71 (nd o108 (nd o174 nl nl) (nd o240 nl nl)) (nd o44 (nd o44 nl nl) nl)) (nd o43 (nd o124 (nd o190 nl nl) (nd o256 nl nl)) (nd o43 (nd o43 nl nl) nl))) (nd o63 (nd o43 (nd o116 (nd o182 nl nl) (nd o44 nl nl)) (nd o148 (nd o216 nl nl) nl)) (nd o43 (nd o43 (nd o43 nl nl) (nd o264 nl nl)) (nd o43 (nd o232 nl nl) nl))))) (nd (boot_o_5 P) (nd (boot_o_9 P) (nd (o53 P) (nd o69 (nd o106 (nd o172 nl nl) (nd o43 nl nl)) (nd o138 (nd o204 nl nl) (nd o270 nl nl))) (nd o52 (nd o122 (nd o188 nl nl) (nd o254 nl nl)) (nd o52 (nd o44 nl nl) nl))) (nd o61 (nd o80 (nd o43 (nd o43 nl nl) (nd o246 nl nl)) (nd o146 (nd o43 nl nl) nl)) (nd o44 (nd o130 (nd o196 nl nl) (nd o43 nl nl)) (nd o44 (nd o230 nl nl) nl)))) (nd o45 (nd o57 (nd o52 (nd o110 (nd o176 nl nl) (nd o43 nl nl)) (nd o43 (nd o43 nl nl) nl)) (nd o94 (nd o44 (nd (o192 P) nl nl) (nd o258 nl nl)) (nd o160 (nd o226 nl nl) nl))) (nd o65 (nd o84 (nd o43 (nd o43 nl nl) (nd o250 nl nl)) (nd o150 (nd o218 nl nl) nl)) (nd o102 (nd o134 (nd o200 nl nl) (nd o43 nl nl)) (nd o168 (nd o234 nl nl) nl)))))) (nd (boot_o_2 P) (nd (boot_o_4 P) (nd (boot_o_8 P) (nd o52 (nd o74 (nd o44 (nd o44 nl nl) (nd o237 nl nl)) (nd o137 (nd o203 nl nl) (nd o269 nl nl))) (nd o43 (nd o43 (nd o43 nl nl) (nd o44 nl nl)) (nd o43 (nd o43 nl nl) nl))) (nd o44 (nd o44 (nd o113 (nd o179 nl nl) (nd o245 nl nl)) (nd o145 (nd o211 nl nl) nl)) (nd o43 (nd o129 (nd o195 nl nl) (nd o43 nl nl)) (nd o43 (nd o44 nl nl) nl)))) (nd o213 (nd o56 (nd o75 (nd o109 (nd o175 nl nl) (nd o241 nl nl)) (nd o141 (nd o207 nl nl) nl)) (nd o93 (nd o43 (nd o191 nl nl) (nd o257 nl nl)) (nd o159 (nd o225 nl nl) nl))) (nd o64 (nd (o83 P) (nd o117 (nd o183 nl nl) (nd o249 nl nl)) (nd o149 (nd o43 nl nl) nl)) (nd o101 (nd o44 (nd o44 nl nl) (nd o265 nl nl)) (nd o167 (nd o233 nl nl) nl))))) (nd (boot_o_6 P) (nd (boot_o_10 P) (nd o43 (nd o70 (nd o43 (nd o43 nl nl) (nd o239 nl nl)) (nd o43 (nd o43 nl nl) nl)) (nd (o91 P) (nd o123 (nd o189 nl nl) (nd o43 nl nl)) (nd (o157 P) (nd o223 nl nl) nl))) (nd o43 (nd o81 (nd o115 (nd o181 nl nl) (nd o43 nl nl)) (nd (o147 P) (nd o44 nl nl) nl)) (nd o99 (nd o131 (nd o197 nl nl) (nd o263 nl nl)) (nd o165 (nd o43 nl nl) nl)))) (nd o46 (nd o58 (nd (o77 P) (nd o43 (nd o43 nl nl) (nd o44 nl nl)) (nd o143 (nd o209 nl nl) nl)) (nd o95 (nd o127 (nd o193 nl nl) (nd o43 nl nl)) (nd o161 (nd o227 nl nl) nl))) (nd o66 (nd o85 (nd o44 (nd o44 nl nl) (nd o251 nl nl)) (nd o151 (nd o219 nl nl) nl)) (nd o103 (nd o43 (nd o43 nl nl) (nd o44 nl nl)) (nd o169 (nd o43 nl nl) nl)))))))
noncomputable def h46 (P : Params) : Heap := ⟨⟨[(boot_o_0 P), (boot_o_1 P), (boot_o_2 P), (boot_o_3 P), (boot_o_4 P), (boot_o_5 P), (boot_o_6 P), (boot_o_7 P), (boot_o_8 P), (boot_o_9 P), (boot_o_10 P), o43, o44, o45, o46]⟩, {}⟩
noncomputable def h271 (P : Params) : Heap := ⟨⟨[(boot_o_0 P), (boot_o_1 P), (boot_o_2 P), (o212 P), (boot_o_4 P), (boot_o_5 P), (boot_o_6 P), (boot_o_7 P), (boot_o_8 P), (boot_o_9 P), (boot_o_10 P), o43, o213, o45, o46, o51, o52, (o53 P), o43, o55, o56, o57, o58, o43, o44, o61, o43, o63, o64, o65, o66, (o67 P), o74, o69, o70, o71, o75, o52, (o77 P), o43, o44, o80, o81, o43, (o83 P), o84, o85, o86, o43, o52, (o91 P), o43, o93, o94, o95, o96, o43, o44, o99, o43, o101, o102, o103, o43, o44, o106, o43, o108, o109, o110, o43, o44, o113, o43, o115, o116, o117, o43, o44, o120, o43, o122, o123, o124, o43, o44, o127, o43, o129, o130, o131, o43, o44, o134, o43, o136, o137, o138, o43, o44, o141, o43, o143, o144, o145, o146, (o147 P), o148, o149, o150, o151, o152, o43, o52, (o157 P), o43, o159, o160, o161, o162, o43, o44, o165, o43, o167, o168, o169, o43, o44, o172, o43, o174, o175, o176, o43, o44, o179, o43, o181, o182, o183, o43, o44, o186, o43, o188, o189, o190, o191, (o192 P), o193, o194, o195, o196, o197, o43, o44, o200, o43, o202, o203, o204, o43, o44, o207, o43, o209, o210, o211, o43, o44, o216, o43, o218, o219, o220, o43, o44, o223, o43, o225, o226, o227, o43, o44, o230, o43, o232, o233, o234, o43, o44, o237, o43, o239, o240, o241, o43, o44, o244, o245, o246, o43, o44, o249, o250, o251, o43, o44, o254, o43, o256, o257, o258, o43, o44, o43, o43, o263, o264, o265, o43, o44, o268, o269, o270]⟩, {}⟩
noncomputable def sts0 : List Stmt := List.take 2 (List.drop 0 (behindTheImports pg))
noncomputable def sts1 : List Stmt := List.take 7 (List.drop 2 (behindTheImports pg))
noncomputable def sts2 : List Stmt := List.take 1 (List.drop 9 (behindTheImports pg))
noncomputable def sts3 : List Stmt := List.take 4 (List.drop 10 (behindTheImports pg))
noncomputable def sts4 : List Stmt := List.take 9 (List.drop 14 (behindTheImports pg))
noncomputable def tenv : Env := { scope := pg.main.scope, locals := mainNs, globals := mainNs, cells := [], code := .ref 13, frame := some 14 }
noncomputable abbrev tcode : Code := .body (behindTheImports pg) tenv
abbrev q0 : Pos := ⟨0, 0, 0, 0⟩
abbrev fr0 : List Frame := [topFrame q0]
abbrev ann0 : Option Value := some (.ref 6)
noncomputable abbrev stT (t : Params → BT) (n k : Nat) (w : World) (os : OsState) : SharedT := ⟨t w.params, n, {}, ⟨[]⟩, {}, k, os⟩
noncomputable abbrev s0 (w : World) (os : OsState) : Shared := ⟨boot_heap w.params, ⟨[]⟩, boot_drawn, boot_toks, os⟩
noncomputable abbrev sa (w : World) (os : OsState) : Shared := ⟨h46 w.params, ⟨[]⟩, {}, 187, os⟩
noncomputable abbrev sz (w : World) (os : OsState) : Shared := ⟨h271 w.params, ⟨[]⟩, {}, 482, os⟩
theorem p_pre (w : World) : (fun os => topGo treeTable pg w 11 ann0 12 (s0 w os) (topStub pg)) = fun os => some (sa w os, ⟨denote treeTable tcode, tcode, q0, fr0⟩) := by kernel_rfl
theorem p_block (w : World) : (fun os => segRun treeTable pg w 11 ann0 1 1 (sa w os) (blockOf (behindTheImports pg) tenv tcode q0 fr0)) = fun os => some (.next, (stT t47 15 187 w os).abs, tcode, q0) := by kernel_rfl
theorem p_0 (w : World) : (fun os => segRunT treeTable pg w 11 ann0 1 230 (stT t47 15 187 w os) (piecesOf sts0 tenv tcode q0 fr0)) = fun os => some (.next, stT t71 36 217 w os, tcode, ⟨2, 0, 6, 28⟩) := by rw [Fast.te10110043849684766642, Fast.te14364793385576792824]; kernel_rfl
theorem p_1 (w : World) : (fun os => segRunT treeTable pg w 11 ann0 1 268 (stT t71 36 217 w os) (piecesOf sts1 tenv tcode ⟨2, 0, 6, 28⟩ fr0)) = fun os => some (.next, stT t86 48 245 w os, tcode, ⟨14, 0, 14, 13⟩) := by rw [Fast.te10110043849684766642, Fast.te14364793385576792824]; kernel_rfl
theorem p_2 (w : World) : (fun os => segRunT treeTable pg w 11 ann0 1 425 (stT t86 48 245 w os) (piecesOf sts2 tenv tcode ⟨14, 0, 14, 13⟩ fr0)) = fun os => some (.next, stT t152 112 331 w os, tcode, ⟨15, 0, 60, 59⟩) := by rw [Fast.te10110043849684766642, Fast.te14364793385576792824]; kernel_rfl
theorem p_3 (w : World) : (fun os => segRunT treeTable pg w 11 ann0 1 395 (stT t152 112 331 w os) (piecesOf sts3 tenv tcode ⟨15, 0, 60, 59⟩ fr0)) = fun os => some (.next, stT t211 169 408 w os, tcode, ⟨86, 0, 91, 69⟩) := by rw [Fast.te10110043849684766642, Fast.te14364793385576792824]; kernel_rfl
theorem p_4 (w : World) : (fun os => segRunT treeTable pg w 11 ann0 1 267 (stT t211 169 408 w os) (piecesOf sts4 tenv tcode ⟨86, 0, 91, 69⟩ fr0)) = fun os => some (.next, stT t270 226 482 w os, tcode, ⟨144, 0, 164, 48⟩) := by rw [Fast.te10110043849684766642, Fast.te14364793385576792824]; kernel_rfl
theorem p_fin (w : World) : (fun os => topRun treeTable pg w 11 ann0 2 (stT t270 226 482 w os).abs ⟨doneF .next, tcode, ⟨144, 0, 164, 48⟩, fr0⟩) = fun os => some (sz w os) := by kernel_rfl
theorem sts_all : behindTheImports pg = sts0 ++ (sts1 ++ (sts2 ++ (sts3 ++ (sts4 ++ [])))) := by kernel_rfl
theorem p_run (w : World) (os : OsState) : topRun treeTable pg w 11 ann0 (12 + (1 + (230 + (268 + (425 + (395 + (267 + 2))))))) (s0 w os) (topStub pg) = some (sz w os) := by
  refine go_top (congrFun (p_pre w) os) (piece_block (congrFun (p_block w) os) ?_)
  rw [sts_all]
  exact piece_app (segRun_of (congrFun (p_0 w) os)) (piece_app (segRun_of (congrFun (p_1 w) os)) (piece_app (segRun_of (congrFun (p_2 w) os)) (piece_app (segRun_of (congrFun (p_3 w) os)) (piece_app (segRun_of (congrFun (p_4 w) os)) (piece_nil (congrFun (p_fin w) os))))))
theorem o_open : opening pg = plainProg pg.main.scope.names := by kernel_rfl
theorem o_boot : ∀ w : World, (fencedOpening treeTable pg w 3286).map (fun s => (s.heap, s.gens, s.drawn, s.toks)) = some (boot_heap w.params, Array.mk [], boot_drawn, boot_toks) := boot_open o_open (by decide +kernel) (fun _ => rfl)
theorem o_size (w : World) : ((boot_heap w.params).isNs mainGlobals && (Array.mk [] : Array GenState).size == 0, (boot_heap w.params).objs.size, (boot_heap w.params).nsMap mainGlobals (Str.ofString "__annotations__")) = (true, 11, ann0) := by kernel_rfl
abbrev loo : List Str := [Str.ofString "BoardError"]
abbrev mods : List Str := importedModules pg.main.body
abbrev Xt0 (s : Shared) : Bool := xlAt lview [] s && recOk (RowW.records (OpenRow.toRowW (OpenLaw.row PySem.Challenge.rw_nz0210_01))) s
theorem l_stat (w : World) (os : OsState) : (staticsOk mods (boot_heap w.params) (h271 w.params) && namesBound pg (h271 w.params) && gensDone (sz w os) && laidKept (boot_heap w.params) (h271 w.params)) = true := by kernel_rfl
theorem l_seen (w : World) (os : OsState) : seen ((recsOf lview).map (·.name)) (ownsOf lview) [] { sz w os with gens := #[] } = expectedOf lview := by kernel_rfl
theorem l_blt (w : World) (os : OsState) : (sz w os).heap.bltView = bltViewBooted := by kernel_rfl
theorem l_keys (w : World) (os : OsState) : ((sz w os).heap.keysOk (looseW lview loo) ((recsOf lview).map (·.name)) ((litsOf lview).map (·.1)) ((clssOf lview (looseW lview loo)).map (·.name)) && (sz w os).heap.accountedOkI mods && (sz w os).heap.isNs mainGlobals && (sz w os).heap.isNs builtinsNs && tablesOk lview (sz w os).heap && Xt0 (sz w os) && (if true then (sz w os).gens.size == 0 else !leftWithCleanup (sz w os).gens)) = true := by kernel_rfl
theorem l_tabs (w : World) (os : OsState) : tabsOk lview (sz w os) = true := by kernel_rfl
theorem l_pin (w : World) (os : OsState) : pinSeenD lview (drecsOf lview) (sz w os) = pinGoodD (drecsOf lview) := by kernel_rfl
theorem l_plE (w : World) (os : OsState) : plainSeenE lview (looseW lview loo) (sz w os) = plainGoodE lview (looseW lview loo) := by kernel_rfl
theorem l_plD (w : World) (os : OsState) : plainSeenD lview loo (sz w os) = plainGoodD lview loo := by kernel_rfl
theorem l_wide (w : World) (os : OsState) : wideSeen lview (sz w os) = wideGood lview := by kernel_rfl
theorem l_cls (w : World) (os : OsState) : clsSeenW lview loo (sz w os) = clsGoodW lview loo := by kernel_rfl
theorem l_all (w : World) (os : OsState) : openSeen lview loo mods Xt0 true (sz w os) = openGood lview loo :=
  looks_pair (l_seen w os) (looks_pair (l_blt w os) (looks_pair (l_keys w os) (looks_pair (l_tabs w os) (looks_pair (l_pin w os) (looks_pair (l_plE w os) (looks_pair (l_plD w os) (looks_pair (l_wide w os) (l_cls w os))))))))
theorem leftTop {α : Type} {Yf : Shared → α} {Ya : World → α} (hy : ∀ w os, Yf (sz w os) = Ya w) : LeftO pg lview loo (fun s => xlAt lview [] s && recOk (RowW.records (OpenRow.toRowW (OpenLaw.row PySem.Challenge.rw_nz0210_01))) s) Yf Ya 3286 :=
  LeftO.of_pieces (H₀ := boot_heap) (H₁ := h271) (M := 12 + (1 + (230 + (268 + (425 + (395 + (267 + 2))))))) o_boot o_size p_run (by rfl) fun w => funext fun os => looks_pair (l_stat w os) (looks_pair (l_all w os) (hy w os))
theorem ws : OpenLaw.wellSaid PySem.Challenge.rw_nz0210_01 = true := by
  unfold OpenLaw.wellSaid OpenRow.wellSaid OpenRow.partSaid looksOpen
  repeat' with_reducible refine look_both ?_ ?_
  all_goals first | (rw [Fast.te8326940854005059898]; decide +kernel) | decide +kernel
end Hp
local macro_rules
  | `(tactic| o_head $H) => `(tactic| (refine PySem.W.holds_open (q := lview) (loose := [PySem.Str.ofString "BoardError"]) (Xt := fun s => xlAt lview [] s && recOk (RowW.records (OpenRow.toRowW (OpenLaw.row PySem.Challenge.rw_nz0210_01))) s) (XP := XL lview []) (Yf := Hook.obs $H) (Ya := Hook.val $H) (YP := Hook.says $H) (N := 3286) ?hl (Hook.of $H) (Hook.keeps $H) (fun s e => xl_of s (Bool.and_eq_true_iff.mp e).1) XL.keeps (by rfl) (by rfl) (by rfl) (fun s e => recFacts_of (Bool.and_eq_true_iff.mp e).2) (by rfl) (by first | assumption | decide +kernel) (by decide +kernel) ⟨rfl, rfl, rfl, rfl, rfl, by decide +kernel⟩ ?hw ?hc; (case hl => exact Hp.leftTop fun w os => by kernel_rfl)))
local macro_rules
  | `(tactic| o_law) => `(tactic| refine holds_law Hp.ws fun said => ?_)
set_option maxHeartbeats 8000000 in
open_top hd for PySem.Challenge.rw_nz0210_01

end

/-! part Ba -/
section
/-! What a bytearray does. -/
abbrev baOf (b : Array UInt8) : Obj := { cls := .type "bytearray", data := .bytearray b }
namespace Bf
open Builtin
theorem s_get : Slot "bytearray" "__getitem__" "bytearray.__getitem__" :=
  .of (owner := "bytearray") (n := "__getitem__") (by rw [typeLookup_type, builtinLookup_eq_fast]; kernel_rfl) (by decide +kernel) (by decide +kernel) (by decide +kernel)
    (by first | exact .inl (by decide +kernel) | exact .inr (by decide +kernel)) (by rw [isSubtype_type]; kernel_rfl)
theorem s_set : Slot "bytearray" "__setitem__" "bytearray.__setitem__" :=
  .of (owner := "bytearray") (n := "__setitem__") (by rw [typeLookup_type, builtinLookup_eq_fast]; kernel_rfl) (by decide +kernel) (by decide +kernel) (by decide +kernel)
    (by first | exact .inl (by decide +kernel) | exact .inr (by decide +kernel)) (by rw [isSubtype_type]; kernel_rfl)
theorem s_len : Slot "bytearray" "__len__" "bytearray.__len__" :=
  .of (owner := "bytearray") (n := "__len__") (by rw [typeLookup_type, builtinLookup_eq_fast]; kernel_rfl) (by decide +kernel) (by decide +kernel) (by decide +kernel)
    (by first | exact .inl (by decide +kernel) | exact .inr (by decide +kernel)) (by rw [isSubtype_type]; kernel_rfl)
theorem s_init : Slot "bytearray" "__init__" "bytearray.__init__" :=
  .of (owner := "bytearray") (n := "__init__") (by rw [typeLookup_type, builtinLookup_eq_fast]; kernel_rfl) (by decide +kernel) (by decide +kernel) (by decide +kernel)
    (by first | exact .inl (by decide +kernel) | exact .inr (by decide +kernel)) (by rw [isSubtype_type]; kernel_rfl)
theorem s_append : Slot "bytearray" "append" "bytearray.append" :=
  .of (owner := "bytearray") (n := "append") (by rw [typeLookup_type, builtinLookup_eq_fast]; kernel_rfl) (by decide +kernel) (by decide +kernel) (by decide +kernel)
    (by first | exact .inl (by decide +kernel) | exact .inr (by decide +kernel)) (by rw [isSubtype_type]; kernel_rfl)
theorem e_get : entryFor table "bytearray.__getitem__" = some Builtin.«bytearray.__getitem__» := by first | exact entryFor_of_fast (by kernel_rfl) | exact entryFor_of_tree (by kernel_rfl)
theorem e_set : entryFor table "bytearray.__setitem__" = some Builtin.«bytearray.__setitem__» := by first | exact entryFor_of_fast (by kernel_rfl) | exact entryFor_of_tree (by kernel_rfl)
theorem e_len : entryFor table "bytearray.__len__" = some Builtin.«bytearray.__len__» := by first | exact entryFor_of_fast (by kernel_rfl) | exact entryFor_of_tree (by kernel_rfl)
theorem e_init : entryFor table "bytearray.__init__" = some Builtin.«bytearray.__init__» := by first | exact entryFor_of_fast (by kernel_rfl) | exact entryFor_of_tree (by kernel_rfl)
theorem e_append : entryFor table "bytearray.append" = some Builtin.«bytearray.append» := by first | exact entryFor_of_fast (by kernel_rfl) | exact entryFor_of_tree (by kernel_rfl)
theorem a_get (a b : Value) : argsOk "bytearray.__getitem__" ⟨[a, b], []⟩ := by kernel_rfl
theorem a_set (a b c : Value) : argsOk "bytearray.__setitem__" ⟨[a, b, c], []⟩ := by kernel_rfl
theorem a_len (a : Value) : argsOk "bytearray.__len__" ⟨[a], []⟩ := by kernel_rfl
theorem a_append (a b : Value) : argsOk "bytearray.append" ⟨[a, b], []⟩ := by kernel_rfl
theorem a_init1 (a : Value) : argsOk "bytearray.__init__" ⟨[a], []⟩ := by kernel_rfl
theorem a_init2 (a b : Value) : argsOk "bytearray.__init__" ⟨[a, b], []⟩ := by kernel_rfl
end Bf
namespace Bf
theorem mro : mroOf (.type "bytearray") = pure [.type "bytearray", .type "object"] := by rw [mroOf_type]; kernel_rfl
theorem l_new : typeLookup (.type "bytearray") "__new__" = pure (some (.builtin "bytearray.__new__")) := by rw [typeLookup_type, builtinLookup_eq_fast]; kernel_rfl
theorem sub : isSubtype (.type "bytearray") (.type "bytearray") = pure true := by rw [isSubtype_type]; kernel_rfl
theorem called : TypeCalled "bytearray" "bytearray.__new__" "bytearray.__init__" :=
  ⟨by decide +kernel, by decide +kernel, ⟨_, _, mro⟩, madeBy_type mro l_new (by decide +kernel), by decide +kernel, sub, s_init⟩
theorem p_attrs : PlainAttrs "bytearray" :=
  ⟨⟨"bytearray.__getattribute__", by rw [typeLookup_type, builtinLookup_eq_fast]; kernel_rfl, by decide +kernel⟩, by rw [typeLookup_type, builtinLookup_eq_fast]; kernel_rfl⟩
theorem t_append : typeOf (.builtin "bytearray.append") = pure (.type "method_descriptor") := by kernel_rfl
theorem tc0 : checkTypeCall "bytearray" ⟨[], []⟩ = pure () := by kernel_rfl
theorem tc1 (a : Value) : checkTypeCall "bytearray" ⟨[a], []⟩ = pure () := by kernel_rfl
theorem nc0 : checkBuiltinCall "bytearray.__new__" ⟨[.type "bytearray"], []⟩ = pure () := by kernel_rfl
theorem nc1 (a : Value) : checkBuiltinCall "bytearray.__new__" ⟨[.type "bytearray", a], []⟩ = pure () := by kernel_rfl
theorem p_new : plainId "bytearray.__new__" = true := by decide +kernel
theorem no_release : typeLookup (.type "bytearray") "__release_buffer__" = pure (some (.builtin "bytearray.__release_buffer__")) := by rw [typeLookup_type, builtinLookup_eq_fast]; kernel_rfl
end Bf

end

/-! part Bb -/
section
section
variable {prog : Program} {w : World} {A : Around} {E : Value → Shared → Prop} {s : Shared} {r : Addr} {b : Array UInt8} {k x : Int} {t u : Tok}
theorem ba_type (ho : s.heap.get? r = some (baOf b)) : s.TypeIs (.ref r) "bytearray" := ⟨_, ho, rfl⟩
theorem wp_payload {M : Model} {Q : Array UInt8 → Shared → Prop} (ho : s.heap.get? r = some (baOf b)) (h : Q b s) : wpAny M A (Builtin.Bytes.payload (.ref r)) Q E s := by
  unfold Builtin.Bytes.payload Builtin.Bytes.payload?
  exact wpAny_bind (wpAny_bind (wpAny_load ho (wpAny_pure (wpAny_pure h))))
theorem seqIdx_in {n : Nat} (h0 : 0 ≤ k) (h1 : k < n) : seqIndex? k n = some k.toNat := by
  unfold seqIndex?
  simp only [if_neg (Int.not_lt.mpr h0)]
  rw [if_pos (by simp only [Bool.and_eq_true, decide_eq_true_eq]; omega)]
theorem wp_subscript {M : Model} {Q : Option Int → Shared → Prop} (h0 : 0 ≤ k) (hfit : k < 2 ^ 63) (h : Q (some k) s) : wpAny M A (Builtin.Bytes.subscript? (.int k t)) Q E s := by
  unfold Builtin.Bytes.subscript?
  refine wpAny_bind (wpAny_specialOf (typeIs_int s k t) F.slot_int_index.lookup ?_)
  rw [if_neg (by simp)]
  show wpAny M A (asIndex (.int k t) >>= fun j => _) Q E s
  refine wpAny_bind (wpAny_of_eq (rfl : asIndex (.int k t) = pure k) ?_)
  show wpAny M A (if (!Builtin.Bytes.fitsIndex k) = true then _ else _) Q E s
  rw [if_neg (by unfold Builtin.Bytes.fitsIndex; simp; omega)]
  exact wpAny_pure h
theorem ba_get {Q : Value → Shared → Prop} (ho : s.heap.get? r = some (baOf b)) (h0 : 0 ≤ k) (h1 : k < b.size) (hfit : k < 2 ^ 63) (h : Q (.int (b.getD k.toNat 0).toNat s.toks) { s with toks := s.toks + 1 }) :
    wpAny (model prog w) A (getItem (.ref r) (.int k t)) Q E s := by
  unfold getItem
  refine wpAny_holding (wpAny_bind (wpAny_sequenceKey (ba_type ho) (by decide) ?_))
  refine wpAny_bind (wpAny_callSpecial?_slot (name := Str.ofString "__getitem__") (ba_type ho) Bf.s_get (wpAny_call_entry Bf.s_get (ba_type ho) Bf.e_get ?_ (Bf.a_get _ _)))
  show wpAny _ _ (Builtin.Bytes.subscript? (.int k t) >>= _) _ _ s
  refine wpAny_bind (wp_subscript h0 hfit ?_)
  show wpAny _ _ (Builtin.Bytes.payload (.ref r) >>= _) _ _ s
  refine wpAny_bind (wp_payload ho ?_)
  have hb : b[k.toNat]? = some (b.getD k.toNat 0) := by
    have : k.toNat < b.size := by omega
    simp [Array.getD, this]
  rw [seqIdx_in h0 h1]
  simp only [Option.bind_some, hb]
  exact wpAny_bind (wpAny_mkInt (wpAny_pure ⟨_, rfl, wpAny_pure h⟩))
theorem wp_byteValue {M : Model} {Q : UInt8 → Shared → Prop} (hx0 : 0 ≤ x) (hx1 : x < 256) (h : Q x.toNat.toUInt8 s) : wpAny M A (Builtin.Bytes.byteValue (.int x u)) Q E s := by
  unfold Builtin.Bytes.byteValue
  refine wpAny_bind (wpAny_of_eq (rfl : asIndex (.int x u) = pure x) ?_)
  rw [if_neg (by simp; omega)]
  exact wpAny_pure h
theorem wp_write {M : Model} {f : Array UInt8 → Array UInt8} {Q : Unit → Shared → Prop} (ho : s.heap.get? r = some (baOf b)) (hz : (f b).size ≤ sizeLine)
    (h : Q () { s with heap := s.heap.update r (Obj.mapBytearray f) }) : wpAny M A (Builtin.Bytes.write (.ref r) f) Q E s := by
  show wpAny M A (updateBytearray r f) Q E s
  unfold updateBytearray
  refine wpAny_bind (wpAny_load ho ?_)
  show wpAny M A (update r (Obj.mapBytearray f) >>= fun _ => lookBehind r) Q E s
  refine wpAny_bind (wpAny_update ho ?_)
  have h2 : (s.heap.update r (Obj.mapBytearray f)).get? r = some (baOf (f b)) := Heap.get?_update_self (Obj.mapBytearray f) ho rfl
  refine wpAny_lookBehind h2 ?_ h
  show (if (f b).size > sizeLine then some "bytearray:memory" else none) = none
  rw [if_neg (by omega)]
theorem ba_set0 {Q : Unit → Shared → Prop} (ho : s.heap.get? r = some (baOf b)) (h0 : 0 ≤ k) (h1 : k < b.size) (hfit : k < 2 ^ 63) (hx0 : 0 ≤ x) (hx1 : x < 256) (hz : b.size ≤ sizeLine)
    (h : Q () { s with heap := s.heap.update r (Obj.mapBytearray (·.setIfInBounds k.toNat x.toNat.toUInt8)) }) : wpAny (model prog w) A (setItem (.ref r) (.int k t) (.int x u)) Q E s := by
  unfold setItem
  refine wpAny_holding (wpAny_bind (wpAny_sequenceKey (ba_type ho) (by decide) ?_))
  refine wpAny_bind (wpAny_callSpecial?_slot (name := Str.ofString "__setitem__") (ba_type ho) Bf.s_set (wpAny_call_entry Bf.s_set (ba_type ho) Bf.e_set ?_ (Bf.a_set _ _ _)))
  show wpAny _ _ (Builtin.Bytes.subscript? (.int k t) >>= _) _ _ s
  refine wpAny_bind (wp_subscript h0 hfit ?_)
  show wpAny _ _ (Builtin.Bytes.byteValue (.int x u) >>= _) _ _ s
  refine wpAny_bind (wp_byteValue hx0 hx1 ?_)
  show wpAny _ _ (Builtin.Bytes.payload (.ref r) >>= _) _ _ s
  refine wpAny_bind (wp_payload ho ?_)
  rw [seqIdx_in h0 h1]
  refine wpAny_bind (wp_write ho (by rw [Array.size_setIfInBounds]; exact hz) ?_)
  exact wpAny_pure ⟨_, rfl, wpAny_pure h⟩
theorem ba_len {Q : Value → Shared → Prop} (ho : s.heap.get? r = some (baOf b)) (hz : b.size < 2 ^ 63) (h : Q (.int b.size (s.toks + 1)) { s with toks := s.toks + 1 + 1 }) :
    wpAny (model prog w) A (call (.builtin "len") [.ref r]) Q E s := by
  refine PyProof.Rows.call_len_slot (ba_type ho) Bf.s_len (fun Q' hq => wpAny_call_entry Bf.s_len (ba_type ho) Bf.e_len ?_ (Bf.a_len _)) (by omega) (by omega) h
  show wpAny _ _ (Builtin.Bytes.payload (.ref r) >>= _) _ _ s
  exact wpAny_bind (wp_payload ho (wpAny_bind (wpAny_mkInt (wpAny_pure ⟨_, rfl, hq⟩))))
end

end

/-! part Spine -/
section
/-! The spine's rules: what reaches a bytearray's making or growing. -/
open PySem.Calls
abbrev FinC (M : Model) (A : Around) (R : Result → Shared → Prop) (fin : Fin) (s' : Shared) : Prop := match fin with | .done f => R (.ok f) s' | .again c' => c'.quiet = true ∧ codeC M A c' R s'
section
variable {α β : Type} {M : Model} {A A₀ : Around} {E E' : Value → Shared → Prop} {s : Shared} {prog : Program} {w : World}
theorem wpC_onRaise {m : Sem α} {k : Value → Sem Unit} {Q : α → Shared → Prop} (h : wpC M A m Q (fun _ _ => False) s) : wpC M A (m.onRaise k) Q E s := fun Γ p hΓ hc => by
  rw [Sem.wp_onRaise]
  exact Sem.wp_mono M Γ m (fun _ _ _ h' => h') (fun _ _ _ h' => h'.elim) p s (h Γ p hΓ hc)
theorem codeC_func {body : List Stmt} {env : Env} {R : Result → Shared → Prop}
    (h : wpC (model prog w) (A.deeper env) (execs body env) (fun f s' => R (.ok (.ret (match f with | .ret v => v | _ => .none))) s') (fun _ _ => False) s) : codeC (model prog w) A (.func body env) R s := by
  refine codeC_of_tree rfl ?_
  show wpC _ (A.deeper env) (do point; match ← (execs body env).onRaise (leaving env) with | .ret v => ret v | _ => ret .none) _ _ s
  refine wpC_seq (wpAny_point (wpC_bind (wpC_onRaise (wpC_mono h (fun f s' h' => ?_) fun _ _ h' => h'))))
  cases f <;> exact wpC_pure h'
theorem codeC_builtin {id : String} {args : Args} {b : Builtin} {R : Result → Shared → Prop} (hn : noEx (.builtin id args) = true) (hb : entryFor table id = some b)
    (h : wpC (model prog w) (A.under (.builtin id args)) (b args) (FinC (model prog w) A R) (fun e s' => R (.error e) s') s) : codeC (model prog w) A (.builtin id args) R s := by
  refine codeC_of_tree hn ?_
  show wpC _ _ (match entryFor table id with | some b => b args | none => unsupported ((withoutEnding? id "#data").getD id)) _ _ s
  rw [hb]; exact h
theorem codeC_call_builtin {id : String} {args : Args} {b : Builtin} {R : Result → Shared → Prop} (hq : (Code.builtin id args).quiet = true) (hn : noEx (.builtin id args) = true) (hb : entryFor table id = some b)
    (h : wpAny (model prog w) A.in1 (checkBuiltinCall id args) (fun _ s₁ => wpC (model prog w) (A.under (.builtin id args)) (b args) (FinC (model prog w) A R) (fun e s' => R (.error e) s') s₁)
      (fun e s' => R (.error e) s') s) : codeC (model prog w) A (.call (.builtin id) args) R s := by
  refine codeC_of_tree rfl ?_
  show wpC _ A.in1 (do checkBuiltinCall id args; again (.builtin id args)) _ _ s
  exact wpC_seq (wpAny_mono h (fun _ s₁ h₁ => wpC_pure (And.intro hq (codeC_builtin hn hb h₁))) fun _ _ h' => h')
theorem callC_def {a : Addr} {args : Args} {o : Obj} {fd : FuncData} {body : List Stmt} {R : Result → Shared → Prop} (hroom : A.depth < recursionLimit)
    (ho : s.heap.get? a = some o)
    (hd' : o.data = .func fd) (hco : fd.scope.isCoroutine = false) (hgen : fd.scope.isGenerator = false) (hbody : fd.body = .stmts body) (hcd : s.heap.CodeRec fd.code fd.qualname)
    (h : wpAny (model prog w) A.in1 (bindArgs fd args) (fun binds s₁ =>
      wpAny (model prog w) A.in1 (newFunctionEnv fd.scope fd.globals fd.closure binds (fd.qualname ++ ".<locals>.") (some a) fd.code none fd.builtins)
        (fun env s₂ => s₂.heap.NoLimit ∧ codeC (model prog w) A (.func body env) R s₂) (fun e s' => R (.error e) s') s₁) (fun e s' => R (.error e) s') s) :
    codeC (model prog w) A (.call (.ref a) args) R s := by
  refine codeC_of_tree rfl (wpC_lift ?_)
  show wpAny _ A.in1 (callAny (.ref a) args) _ _ s
  simp only [callAny]
  refine wpAny_bind (wpAny_load ho ?_)
  obtain ⟨c, oc, vs, tq, hc, hoc, hdc, hq⟩ := hcd
  simp only [hd', callFunction, hco, hgen, hbody, hc]
  rw [hc] at h
  refine wpAny_bind (m := field (.ref c) 1) (wpAny_field hoc hdc hq (wpAny_bind (wpAny_pure ?_)))
  exact wpAny_bind (wpAny_mono h (fun binds s₁ h₁ => wpAny_bind (wpAny_mono h₁ (fun env s₂ h₂ => wpAny_bind (wpAny_enterFrame h₂.1 hroom
    (wpAny_pure (And.intro rfl h₂.2)))) fun _ _ h' => h')) fun _ _ h' => h')
end

end

/-! part Spine2 -/
section
open PySem.Calls
section
variable {prog : Program} {w : World} {A₀ A : Around} {s : Shared} {base h₀ : Heap} {outer : List Env} {L : Addr} {m mg mb : Str → Option Value} {env : Env} {news : List (Addr × Obj)} {K : Frag} {p : Program} {loose : List Str} {mean : ExcName → Option Value}
/-- a call of one of the text's defs (no captured names), in clean contexts; nothing is raised out of it -/
theorem code_defClean {R : Result → Shared → Prop} {name qual : Str} {params : Arguments} {body : List Stmt} {scope : Scope} {dV kV doc pm cdv ct oc : Value} {an od : Option Addr} {osl : Array (Option Value)} {f : Addr} {args : Args} {binds : List (Str × Value)}
    (B : Below A₀ base outer h₀) (F : Fr h₀ L s.heap m) (X₀ : K.In h₀) (N : News h₀ L s.heap news) (T : Top p loose mean mg mb h₀) (hA : A.frames = some (env :: outer)) (hf : env.frame = some L) (hke : env.scope.kind = .function)
    (ho : K.lookup f = some ⟨oc, od, .func (fnOf name qual params body scope dV kV doc pm an cdv ct), osl⟩) (hcd : codeIn K cdv qual = true) (hroom : A.depth < recursionLimit)
    (hbind : BindsTo s (fnOf name qual params body scope dV kV doc pm an cdv ct) args binds) (hloc : ∀ y ∈ binds, scope.names.lookup y.1 = some .local)
    (h : ∀ g L' h₁, Fr h₀ L g m → Fr g L' h₁ (fun y => binds.reverse.lookup y) → News g L' h₁ news → Below A base (env :: outer) g → K.In g → Top p loose mean mg mb g →
      wpC (model prog w) (A.deeper (envOf qual scope L' f cdv)) (execs body (envOf qual scope L' f cdv))
        (fun fl s' => LeaveK h₀ L m g R (match fl with | .ret v => v | _ => .none) s') (fun _ _ => False)
        { s with heap := h₁, toks := s.toks + binds.length })
    (hco : scope.isCoroutine = false) (hgen : scope.isGenerator = false) (hk : scope.kind = .function)
    (hcell : ∀ x ∈ scope.names, x.2 ≠ .cell) : codeC (model prog w) A (.call (.ref f) args) R s := by
  obtain ⟨FG, BG, st, lv⟩ := groundX (R := R) B F N hA hf hke
  have hlim : s.heap.NoLimit := T.nolimit.keeps F.keep
  refine callC_def hroom ((X₀.keeps F.keep) _ _ ho) rfl hco hgen rfl (codeRec_of (X₀.keeps F.keep) hcd) (hbind _ _ _ _ ?_)
  refine wpAny_newFunctionEnv hcell hloc (fun h₁ hns hsb => ⟨hlim.fresh _ hsb, codeC_func ?_⟩) hk
  have hk₁ : ∀ b o, s.heap.get? b = some o → h₁.get? b = some o := fun b o e => hsb.extBut b o (Nat.ne_of_lt (Heap.lt_size e)) (Heap.get?_push_of_some _ e)
  exact wpC_mono (h _ s.heap.objs.size h₁ FG ⟨hns, fun b o e => hk₁ b o (of_hideAll _ e), Nat.le_of_eq (hideAll_size _ _)⟩
    (fun p hp => ⟨hk₁ _ _ (N p hp).1, Nat.ne_of_lt (Heap.lt_size (N p hp).1), hideAll_none _ (List.mem_map_of_mem hp)⟩) BG (X₀.keeps st) (T.keeps st)) (fun fl s' hl => lv _ _ hl) fun _ _ y => y
end
section
variable {prog : Program} {w : World} {A : Around} {E : Value → Shared → Prop} {s : Shared} {r : Addr} {b : Array UInt8} {k x : Int} {t u : Tok}
theorem not_ex {c : Code} {p : Pos} {self : Value} (h : noEx c = true) : (match (c, p) with
    | (.builtin "bytearray.__contains__" ⟨v :: _, _⟩, _) | (.builtin "bytearray.__mod__" ⟨v :: _, _⟩, _)
    | (.builtin "bytearray.__rmod__" ⟨_ :: v :: _, _⟩, _) | (.builtin "_struct.pack_into.held" ⟨v :: _, _⟩, _) => Builtin.Bytes.sameRef v self
    | (.builtin "bytearray.find.held" ⟨_ :: _ :: held, _⟩, _) => held.any (Builtin.Bytes.sameRef self)
    | (.builtin id ⟨v :: _, _⟩, _) => Builtin.Bytes.sameRef v self && Builtin.Bytes.decodersThatHold.contains id
    | _ => false) = false := by
  cases c with
  | builtin id args =>
    simp only [noEx, exIds, Bool.not_eq_true', List.contains_eq_mem, decide_eq_false_iff_not, List.mem_append, not_or, List.mem_cons] at h
    obtain ⟨⟨h1, h2, h3, h4, h5, -⟩, h6⟩ := h
    have h7 : Builtin.Bytes.decodersThatHold.contains id = false := by simpa using h6
    obtain ⟨pos, kw⟩ := args
    cases pos with
    | nil =>
      delta not_ex.match_1
      with_unfolding_all refine (dif_neg h1).trans ?_
      with_unfolding_all refine (dif_neg h2).trans ?_
      with_unfolding_all refine (dif_neg h3).trans ?_
      with_unfolding_all refine (dif_neg h4).trans ?_
      with_unfolding_all refine (dif_neg h5).trans ?_
      with_unfolding_all rfl
    | cons v vs =>
      delta not_ex.match_1
      with_unfolding_all refine (dif_neg h1).trans ?_
      with_unfolding_all refine (dif_neg h2).trans ?_
      with_unfolding_all refine (dif_neg h3).trans ?_
      with_unfolding_all refine (dif_neg h4).trans ?_
      with_unfolding_all refine (dif_neg h5).trans ?_
      show (_ && Builtin.Bytes.decodersThatHold.contains id) = false
      rw [h7, Bool.and_false]
  | _ => rfl
theorem exported_not {α : Type} {M : Model} {self : Value} {kk : Bool → Sem α} {Q : α → Shared → Prop} (h : wpC M A (kk false) Q E s) : wpC M A (Builtin.Bytes.exported self >>= kk) Q E s :=
  wpC_stack_false (fun _ _ hn => not_ex hn) h
end

end

/-! part Spine3 -/
section
open PySem.Calls
section
variable {prog : Program} {w : World} {A : Around} {E : Value → Shared → Prop} {s : Shared} {r : Addr} {b : Array UInt8} {k x : Int} {t u : Tok}
theorem resizeC {M : Model} {Q : Unit → Shared → Prop} (ho : s.heap.get? r = some (baOf b)) (h : Q () s) : wpC M A (Builtin.Bytes.checkResize (.ref r)) Q E s := by
  unfold Builtin.Bytes.checkResize
  refine wpC_bind ?_
  show wpC M A (Builtin.Bytes.exported (.ref r) >>= fun b => _) _ E s
  refine exported_not ?_
  show wpC M A (Builtin.Bytes.exportsOf (.ref r) >>= fun n => _) _ E s
  unfold Builtin.Bytes.exportsOf
  refine wpC_seq (wpAny_bind (wpAny_load ho (wpAny_pure ?_)))
  exact wpC_pure (wpC_pure h)
theorem plain_append : plainId "bytearray.append" = true := by decide +kernel
theorem ba_append0 {Q : Value → Shared → Prop} (ho : s.heap.get? r = some (baOf b)) (hx0 : 0 ≤ x) (hx1 : x < 256) (hz : b.size < sizeLine)
    (h : Q .none { s with heap := s.heap.update r (Obj.mapBytearray (·.push x.toNat.toUInt8)) }) : wpC (model prog w) A (call (.builtin "bytearray.append") [.ref r, .int x u]) Q E s := by
  refine wpC_call (codeC_call_builtin (plainId_quiet plain_append _) (by simp only [noEx]; decide +kernel) Bf.e_append (Bf.s_append.check _ _ _ _ _ _ _ _ (ba_type ho) (Bf.a_append _ _) ?_))
  rw [Around.under_plainId plain_append _]
  unfold Builtin.«bytearray.append»
  show wpC _ _ (Builtin.Bytes.byteValue (.int x u) >>= fun c => Builtin.Bytes.checkResize (.ref r) >>= fun _ => Builtin.Bytes.write (.ref r) (·.push c) >>= fun _ => ret .none) _ _ s
  refine wpC_seq (wp_byteValue hx0 hx1 (wpC_bind (resizeC ho (wpC_seq (wp_write ho (by rw [Array.size_push]; omega) (wpC_pure h))))))
/-- a built-in type called: made, then set up in clean contexts -/
theorem callTypeC {T newId initId : String} {args : List Value} {Q Q₁ : Value → Shared → Prop} (ft : TypeCalled T newId initId)
    (hct : checkTypeCall T ⟨args, []⟩ = pure ())
    (hnew : codeAny (model prog w) A.in1 (.call (.builtin newId) ⟨.type T :: args, []⟩) (wants Q₁ (fun _ _ => False)) s)
    (hnext : ∀ obj s₁, Q₁ obj s₁ → s₁.TypeIs obj T ∧ wpC (model prog w) A.in1 (call (.builtin initId) (obj :: args)) (fun r s₂ => r = .none ∧ Q obj s₂) E s₁) :
    wpC (model prog w) A (call (.type T) args) Q E s := by
  obtain ⟨c, tl, hmro⟩ := ft.mro
  have hmade := ft.made
  have hsub := ft.sub
  have h1 := ft.notType
  have h2 := ft.canCreate
  refine wpC_call (codeC_of_tree rfl ?_)
  show wpC _ _ (callAny (.type T) _) _ _ _
  refine wpC_pure ⟨Code.quiet_builtin _ (by decide +kernel), codeC_builtin (by simp only [noEx]; decide +kernel) F.entry_type_call ?_⟩
  rw [Around.under_plain (weight_type_call_type T args []) rfl]
  unfold Builtin.«type.__call__»
  simp only [h1, h2, Bool.false_eq_true, if_false]
  refine wpC_seq (wpAny_of_eq hct (wpC_seq (wpAny_of_eq hmro ?_)))
  show wpC _ _ (Bind.madeBy (.type T) >>= _) _ _ _
  refine wpC_seq (wpAny_of_eq hmade (wpC_seq (wpAny_pure (wpC_seq (wpAny_holding (wpAny_call (codeAny_mono hnew fun r s₁ hr => ?_)))))))
  rcases r with e | (_ | _ | _ | obj) <;> first | exact hr.elim | skip
  obtain ⟨hT, hi⟩ := hnext obj s₁ hr
  refine wpC_seq (wpAny_isInstance hT hsub ?_)
  show wpC _ _ (holding [obj] (callSpecial? obj (Str.ofString "__init__") args) >>= _) _ _ _
  refine wpC_bind (wpC_holding ?_)
  simp only [callSpecial?]
  refine wpC_seq (wpAny_specialOf hT ft.init.lookup ?_)
  simp only [ft.init.bind]
  refine wpC_holding (wpC_seq (wpAny_pure (wpC_bind (wpC_mono hi (fun v s₂ hv => wpC_pure ?_) fun _ _ e => e))))
  obtain ⟨rfl, hq⟩ := hv
  exact wpC_pure hq
end
section
variable {prog : Program} {w : World} {A : Around} {E : Value → Shared → Prop} {s : Shared} {k : Int} {t : Tok} {h₀ : Heap} {L : Addr} {m : Str → Option Value} {news : List (Addr × Obj)}
set_option maxRecDepth 1000000 in
set_option maxHeartbeats 4000000 in
theorem owner_ba_new : ("bytearray.__new__".splitOn ".__new__").headD "" = "bytearray" := by simp +decide [String.splitOn, String.splitOnAux]
theorem e_ba_new : entryFor table "bytearray.__new__" = some Builtin.«list.__new__» :=
  entryFor_alias (id' := "list.__new__") (by kernel_rfl) (by first | rfl | decide +kernel) (by decide +kernel) (by kernel_rfl)
theorem code_ba_new {args : List Value} {Q₁ : Value → Shared → Prop} (hc : checkBuiltinCall "bytearray.__new__" ⟨.type "bytearray" :: args, []⟩ = pure ())
    (h : Q₁ (.ref s.heap.objs.size) { s with heap := s.heap.push (baOf #[]) }) :
    codeAny (model prog w) A (.call (.builtin "bytearray.__new__") ⟨.type "bytearray" :: args, []⟩) (wants Q₁ E) s := by
  refine codeAny_of_tree ?_
  show wpAny _ A.in1 (do checkBuiltinCall "bytearray.__new__" ⟨.type "bytearray" :: args, []⟩; again (.builtin "bytearray.__new__" ⟨.type "bytearray" :: args, []⟩)) _ _ s
  refine wpAny_bind (wpAny_of_eq hc (wpAny_pure ⟨plainId_quiet Bf.p_new _, codeAny_builtin_stack e_ba_new rfl fun p st => ?_⟩))
  rw [Around.under_plainId Bf.p_new _]
  have hsub := Bf.sub
  have hown := owner_ba_new
  obtain ⟨hp, g, d, tk, os⟩ := s
  simp only [hown]
  wp_walk
  exact h
theorem ba_ownRelease {M : Model} {v : Value} {Q : Bool → Shared → Prop} (hT : s.TypeIs v "bytearray") (h : Q false s) : wpAny M A (Builtin.Bytes.ownRelease v) Q E s := by
  have e1 : (!("bytearray.__release_buffer__".endsWith ("." ++ "__release_buffer__"))) = false := by decide +kernel
  have key : ∀ (x : String) (Q : Bool → Shared → Prop), x = "bytearray" → Q true s → wpAny M A (isInstance v (.type x)) Q E s := fun x Q hx hq => by rw [hx]; exact wpAny_isInstance hT Bf.sub hq
  unfold Builtin.Bytes.ownRelease Builtin.Bytes.slotIsOwn
  refine wpAny_bind (wpAny_bind (wpAny_specialOf hT Bf.no_release ?_))
  show wpAny M A (if (!("bytearray.__release_buffer__".endsWith ("." ++ "__release_buffer__"))) = true then _ else _) _ E s
  rw [e1, if_neg Bool.false_ne_true]
  exact key _ _ (by decide +kernel) (wpAny_pure h)
theorem bo_none : Builtin.Bytes.bindOptional "bytearray.__init__" "bytearray" ["source", "encoding", "errors"] [] [] = pure [none, none, none] := by kernel_rfl
theorem bo_one (v : Value) : Builtin.Bytes.bindOptional "bytearray.__init__" "bytearray" ["source", "encoding", "errors"] [v] [] = pure [some v, none, none] := by kernel_rfl
theorem baO_any {M : Model} {r : Addr} {b : Array UInt8} {α : Type} {kk : Bool → Sem α} {Q : α → Shared → Prop} (ho : s.heap.get? r = some (baOf b)) (h : wpC M A (kk false) Q E s) :
    wpC M A ((Builtin.Bytes.exported (.ref r) <||> do return (← Builtin.Bytes.exportsOf (.ref r)) > 0) >>= kk) Q E s := by
  refine wpC_bind ?_
  show wpC M A (Builtin.Bytes.exported (.ref r) >>= fun b => _) _ E s
  refine exported_not ?_
  show wpC M A (Builtin.Bytes.exportsOf (.ref r) >>= fun n => _) _ E s
  unfold Builtin.Bytes.exportsOf
  exact wpC_seq (wpAny_bind (wpAny_load ho (wpAny_pure (wpC_pure h))))
/-- bytearray(): a new one, empty -/
theorem ba_new0 {Q : Value → Shared → Prop} (F : Fr h₀ L s.heap m) (N : News h₀ L s.heap news)
    (h : ∀ r h', Fr h₀ L h' m → News h₀ L h' ((r, baOf #[]) :: news) → (∀ q ∈ news, q.1 < r) → Q (.ref r) { s with heap := h' }) : wpC (model prog w) A (call (.type "bytearray") []) Q E s := by
  refine callTypeC (Q₁ := fun v s₁ => v = .ref s.heap.objs.size ∧ s₁ = { s with heap := s.heap.push (baOf #[]) }) Bf.called Bf.tc0 (code_ba_new Bf.nc0 ⟨rfl, rfl⟩) fun obj s₁ hq => ?_
  obtain ⟨rfl, rfl⟩ := hq
  have ho : (s.heap.push (baOf #[])).get? s.heap.objs.size = some (baOf #[]) := Heap.get?_push_size _ rfl
  refine ⟨⟨_, ho, rfl⟩, wpC_call (codeC_call_builtin (plainId_quiet Bf.s_init.plain _) (by simp only [noEx]; decide +kernel) Bf.e_init (Bf.s_init.check _ _ _ _ _ _ _ _ ⟨_, ho, rfl⟩ (Bf.a_init1 _) ?_))⟩
  rw [Around.under_plainId Bf.s_init.plain _]
  unfold Builtin.«bytearray.__init__»
  show wpC _ _ (Builtin.Bytes.ownRelease (.ref s.heap.objs.size) >>= _) _ _ _
  refine wpC_seq (ba_ownRelease ⟨_, ho, rfl⟩ ?_)
  show wpC _ _ (Builtin.Bytes.bindOptional "bytearray.__init__" "bytearray" ["source", "encoding", "errors"] [] [] >>= _) _ _ _
  refine wpC_seq (wpAny_of_eq bo_none ?_)
  refine wpC_seq (wpAny_of_eq (a := ()) rfl (wpC_seq (wpAny_of_eq (a := ()) rfl ?_)))
  refine baO_any ho ?_
  refine wpC_seq (wp_write ho (by simp) ?_)
  refine wpC_seq (wpAny_of_eq (a := ()) rfl (wpC_pure ⟨rfl, ?_⟩))
  have U : Fr h₀ L (s.heap.push (baOf #[])) m ∧ News h₀ L (s.heap.push (baOf #[])) ([] ++ (s.heap.objs.size, baOf #[]) :: news) := ⟨F.push _, N.push F _⟩
  have V := news_upd (f := Obj.mapBytearray fun _ => #[]) (o' := baOf #[]) U.1 U.2 (fun _ hq => nomatch hq) (fun q hq e => absurd (Heap.lt_size (N q hq).1) (by rw [e]; exact Nat.lt_irrefl _)) rfl rfl
  exact h _ _ V.1 V.2 fun q hq => Heap.lt_size (N q hq).1
/-- bytearray(n): n noughts -/
theorem ba_new1 {Q : Value → Shared → Prop} (F : Fr h₀ L s.heap m) (N : News h₀ L s.heap news) (h0 : 0 ≤ k) (h1 : k ≤ 1000)
    (h : ∀ r h', Fr h₀ L h' m → News h₀ L h' ((r, baOf (Array.replicate k.toNat 0)) :: news) → (∀ q ∈ news, q.1 < r) → Q (.ref r) { s with heap := h' }) : wpC (model prog w) A (call (.type "bytearray") [.int k t]) Q E s := by
  refine callTypeC (Q₁ := fun v s₁ => v = .ref s.heap.objs.size ∧ s₁ = { s with heap := s.heap.push (baOf #[]) }) Bf.called (Bf.tc1 _) (code_ba_new (Bf.nc1 _) ⟨rfl, rfl⟩) fun obj s₁ hq => ?_
  obtain ⟨rfl, rfl⟩ := hq
  have ho : (s.heap.push (baOf #[])).get? s.heap.objs.size = some (baOf #[]) := Heap.get?_push_size _ rfl
  refine ⟨⟨_, ho, rfl⟩, wpC_call (codeC_call_builtin (plainId_quiet Bf.s_init.plain _) (by simp only [noEx]; decide +kernel) Bf.e_init (Bf.s_init.check _ _ _ _ _ _ _ _ ⟨_, ho, rfl⟩ (Bf.a_init2 _ _) ?_))⟩
  rw [Around.under_plainId Bf.s_init.plain _]
  unfold Builtin.«bytearray.__init__»
  show wpC _ _ (Builtin.Bytes.ownRelease (.ref s.heap.objs.size) >>= _) _ _ _
  refine wpC_seq (ba_ownRelease ⟨_, ho, rfl⟩ ?_)
  show wpC _ _ (Builtin.Bytes.bindOptional "bytearray.__init__" "bytearray" ["source", "encoding", "errors"] [.int k t] [] >>= _) _ _ _
  refine wpC_seq (wpAny_of_eq (bo_one _) ?_)
  refine wpC_seq (wpAny_of_eq (a := ()) rfl (wpC_seq (wpAny_of_eq (a := ()) rfl ?_)))
  refine baO_any ho ?_
  refine wpC_seq (wp_write ho (by simp) ?_)
  show wpC _ _ (asStr? (.int k t) >>= _) _ _ _
  refine wpC_seq (wpAny_of_eq (a := none) rfl ?_)
  refine wpC_seq (wpAny_of_eq (a := ()) rfl ?_)
  refine wpC_seq (wpAny_specialOf (typeIs_int _ k t) PySem.F.slot_int_index.lookup ?_)
  refine wpC_seq (wpAny_of_eq (a := Except.ok k) rfl ?_)
  have U : Fr h₀ L (s.heap.push (baOf #[])) m ∧ News h₀ L (s.heap.push (baOf #[])) ([] ++ (s.heap.objs.size, baOf #[]) :: news) := ⟨F.push _, N.push F _⟩
  have lt : ∀ q ∈ news, q.1 ≠ s.heap.objs.size := fun q hq e => absurd (Heap.lt_size (N q hq).1) (by rw [e]; exact Nat.lt_irrefl _)
  have V := news_upd (f := Obj.mapBytearray fun _ => #[]) (o' := baOf #[]) U.1 U.2 (fun _ hq => nomatch hq) lt rfl rfl
  have c1 : (!Builtin.Bytes.fitsIndex k) = false := by unfold Builtin.Bytes.fitsIndex; simp; omega
  have c2 : ¬ k < 0 := by omega
  have c3 : (k == 2 ^ 63 - 1) = false := by simp; omega
  have c4 : Builtin.Bytes.tooLong k.toNat = false := KBy.tooLong_not (by omega)
  dsimp only
  simp only [c1, c2, c3, c4, Bool.false_eq_true, if_false]
  refine wpC_seq (wpAny_rule ?_)
  by_cases hk : k > 0
  · rw [if_pos hk]
    refine wpC_seq (wp_write (b := #[]) (V.2 _ (.head _)).1 (by simp; rw [sizeLine_eq]; omega) (wpC_pure ⟨rfl, ?_⟩))
    have V2 := news_upd (f := Obj.mapBytearray fun _ => Array.replicate k.toNat 0) (o' := baOf (Array.replicate k.toNat 0)) V.1 V.2 (fun _ hq => nomatch hq) lt rfl rfl
    exact h _ _ V2.1 V2.2 fun q hq => Heap.lt_size (N q hq).1
  · rw [if_neg hk]
    have e : k.toNat = 0 := by omega
    refine wpC_pure ⟨rfl, ?_⟩
    rw [e] at h
    exact h _ _ V.1 V.2 fun q hq => Heap.lt_size (N q hq).1
end

end

/-! part Spine5 -/
section
open PySem.Calls
section
variable {M : Model} {A : Around} {E E' : Value → Shared → Prop} {s : Shared} {env : Env}
theorem wpC_keep {α : Type} {vs : List Value} {m : Sem α} {Q : α → Shared → Prop} (h : wpC M A m Q E s) : wpC M A (m.keep vs) Q E s := fun Γ p hΓ hc => by rw [Sem.wp_keep]; exact h Γ p hΓ hc
theorem wpC_operate {vs : List Value} {m : Sem Value} {Q : Value → Shared → Prop} (h : wpC M A m Q E s) : wpC M A (operate vs m) Q E s := fun Γ p hΓ hc => by rw [Sem.wp_operate]; exact h Γ p hΓ hc
theorem wpC_release {vs ks : List Value} {Q : Unit → Shared → Prop} (h : Q () s) : wpC M A (release vs ks) Q E s := fun Γ p hΓ hc => by rw [Sem.wp_release]; exact h
/-- a call of a callee that the machine, a def or a bound method keeps -/
theorem callWithC {pos : Pos} {f : Value} {first : List Value} {args : List (Bool × Sem Value)} {P : Heap → Prop} {Q : Value → Shared → Prop} (hplain : args.any (·.1) = false)
    (hk : ∀ h, P h → ∃ k, Looks M h (keeperOf f) k)
    (h : wpAny M A (evalArgs f true args []) (fun a s₁ => P s₁.heap ∧ wpC M A (call f (first ++ a.pos) a.kw) Q E s₁) E s) : wpC M A (callWith pos f first args []) Q E s := by
  unfold callWith
  refine wpC_seq (wpAny_holding (wpAny_mono h (fun a s₁ h₁ => ?_) fun _ _ x => x))
  refine wpC_seq (wpAny_standAt ?_)
  obtain ⟨k, L⟩ := hk _ h₁.1
  have hs : (args.any (·.1) || ([] : List (Option Str × Sem Value)).any (·.1.isNone)) = false := by rw [hplain]; rfl
  simp only [hs]
  refine wpC_seq (L.here ?_)
  have tail : ∀ {t : Sem Value}, wpC M A t Q E s₁ → wpC M A (t >>= fun r => holding [r] point >>= fun _ => pure r) Q E s₁ :=
    fun ht => wpC_bind (wpC_mono ht (fun r s₂ hr => wpC_seq (wpAny_holding (wpAny_point (wpC_pure hr)))) fun _ _ x => x)
  have marked (mk : Value) : wpC M A (callMarked mk f (first ++ a.pos) a.kw) Q E s₁ := by unfold callMarked; exact wpC_keep h₁.2
  cases k <;> dsimp only <;> first | exact tail (wpC_operate h₁.2) | exact tail h₁.2 | (split <;> first | exact tail h₁.2 | exact tail (marked _))
theorem execsC {st : Stmt} {rest : List Stmt} {Q : Flow → Shared → Prop} (h : wpC M A (exec st env) (fun fl s' => match fl with | .next => wpC M A (execs rest env) Q E s' | f => Q f s') E s) : wpC M A (execs (st :: rest) env) Q E s := by
  rw [execs_cons]
  refine wpC_bind (wpC_mono h (fun fl s' h' => ?_) fun _ _ x => x)
  cases fl <;> first | exact h' | exact wpC_pure h'
theorem execsC_lift {st : Stmt} {rest : List Stmt} {Q : Flow → Shared → Prop} (h : wpAny M A (exec st env) (fun fl s' => match fl with | .next => wpC M A (execs rest env) Q E s' | f => Q f s') E s) : wpC M A (execs (st :: rest) env) Q E s := execsC (wpC_lift h)
theorem execsC_nil {Q : Flow → Shared → Prop} (h : Q .next s) : wpC M A (execs [] env) Q E s := wpC_pure h
theorem nameC {x : Str} {pos' : Pos} {value : Expr} {pos : Pos} {Q : Flow → Shared → Prop} (h : wpC M A (eval value env) (fun v s₁ => wpAny M A (storeName env x v) (fun _ => Q .next) E s₁) E s)
    (hs : swapsWith value (some (.Name x pos')) pos.line env = pure false := by rfl) : wpC M A (exec (.Assign [.Name x pos'] value pos) env) Q E s := by
  rw [exec_Assign_Name env x pos' value pos hs]
  refine wpC_seq (wpAny_standAt (wpC_bind (wpC_mono h (fun v s₁ h₁ => wpC_seq (wpAny_standAt (wpC_lift ?_))) fun _ _ x => x)))
  intro Γ p hΓ
  rw [Sem.wp_bind', Sem.wp_bindName]
  exact Sem.wp_mono _ _ _ (fun _ _ _ z => z) (fun _ _ _ z => z) _ _ (h₁ Γ p hΓ)
theorem attrC {o : Expr} {attr : Str} {pos' : Pos} {value : Expr} {pos : Pos} {Q : Flow → Shared → Prop}
    (h : wpC M A (eval value env) (fun v s₁ => wpAny M A (eval o env) (fun ov s₂ => wpAny M A (setAttr ov attr v) (fun _ => Q .next) E s₂) E s₁) E s)
    (hs : swapsWith value (some (.Attribute o attr pos')) pos.line env = pure false := by rfl) : wpC M A (exec (.Assign [.Attribute o attr pos'] value pos) env) Q E s := by
  rw [plainObj_exec_Assign_Attribute o attr pos' value pos hs]
  refine wpC_seq (wpAny_standAt (wpC_bind (wpC_mono h (fun v s₁ h₁ => wpC_lift ?_) fun _ _ x => x)))
  intro Γ p hΓ
  simp only [assign_Attribute, Sem.wp_bind', Sem.wp_holding, Sem.wp_cmd_standAt, Sem.wp_release, Sem.wp_pure']
  exact Sem.wp_mono M Γ _ (fun ov _ s₂ h₂ => h₂ Γ _ hΓ) (fun _ _ _ h' => h') _ _ (h₁ Γ p hΓ)
theorem ifC {test : Expr} {body orelse : List Stmt} {pos : Pos} {Q : Flow → Shared → Prop}
    (h : wpC M A (isTrue test env (eval test env)) (fun b s₂ => if b then wpC M A (execs body env) Q E s₂ else wpC M A (execs orelse env) Q E s₂) E s) : wpC M A (exec (.If test body orelse pos) env) Q E s := by
  rw [exec_If]
  refine wpC_seq (wpAny_standAt (wpC_bind (wpC_mono h (fun b s₁ h₁ => ?_) fun _ _ x => x)))
  cases b <;> exact h₁
theorem retC {e : Expr} {pos : Pos} {Q : Flow → Shared → Prop} (h : wpC M A (eval e env) (fun v => Q (.ret v)) E s) : wpC M A (exec (.Return (some e) pos) env) Q E s := by
  rw [exec_Return_some]
  exact wpC_seq (wpAny_standAt (wpC_bind (wpC_mono h (fun v s₁ h₁ => wpC_pure h₁) fun _ _ x => x)))
theorem exprC {e : Expr} {pos : Pos} {Q : Flow → Shared → Prop} (h : wpC M A (eval e env) (fun v s' => (∀ a, v ≠ .ref a) ∧ Q .next s') E s)
    (hi : interactive env = false := by rfl) (hs : swapsWith e none pos.line env = pure false := by rfl) : wpC M A (exec (.Expr e pos) env) Q E s := by
  rw [exec_Expr env e pos hi hs]
  refine wpC_seq (wpAny_standAt (wpC_bind (wpC_mono h (fun v s₁ h₁ => ?_) fun _ _ x => x)))
  rw [dropValue_plain h₁.1]
  exact wpC_pure h₁.2
theorem compareC {l r : Expr} {op : CmpOp} {pos : Pos} {Q : Value → Shared → Prop}
    (h : wpC M A (eval l env) (fun a s₁ => wpAny M A (eval r env) (fun b s₂ => wpAny M A (compareOp op a b) Q E s₂) E s₁) E s)
    (hm : behindInMarks op r = false := by with_unfolding_all rfl) : wpC M A (eval (.Compare l [op] [r] pos) env) Q E s := by
  rw [eval_Compare1]
  refine wpC_bind (wpC_mono h (fun a s₁ h₁ => ?_) fun _ _ x => x)
  rw [markedBehindIn_of_false hm]
  refine wpC_seq (wpAny_holding (wpAny_mono h₁ (fun b s₂ h₂ => wpC_seq (wpAny_standAt (wpC_operate (wpC_lift h₂)))) fun _ _ x => x))
theorem testC {l r : Expr} {op : CmpOp} {pos : Pos} {whole : Sem Value} {Q : Bool → Shared → Prop}
    (h : wpC M A (eval l env) (fun a s₁ => wpAny M A (eval r env) (fun b s₂ => wpAny M A (compareOp op a b) (fun c s₃ => wpAny M A (truthy c) Q E s₃) E s₂) E s₁) E s)
    (hm : behindInMarks op r = false := by with_unfolding_all rfl) : wpC M A (isTrue (.Compare l [op] [r] pos) env whole) Q E s := by
  rw [isTrue_Compare1]
  refine wpC_bind (wpC_mono h (fun a s₁ h₁ => ?_) fun _ _ x => x)
  rw [markedBehindIn_of_false hm]
  refine wpC_seq (wpAny_holding (wpAny_mono h₁ (fun b s₂ h₂ => wpC_seq (wpAny_standAt (wpC_bind (wpC_operate (wpC_mono (wpC_lift h₂) (fun c s₃ h₃ => wpC_holding (wpC_lift h₃)) fun _ _ x => x)))))
    fun _ _ x => x))
theorem notC {x : Expr} {pos : Pos} {whole : Sem Value} {Q : Bool → Shared → Prop} (h : wpC M A (isTrue x env (eval x env)) (fun b s' => Q (!b) s') E s) : wpC M A (isTrue (.UnaryOp .Not x pos) env whole) Q E s := by
  show wpC M A (do return !(← isTrue x env (eval x env))) Q E s
  exact wpC_bind (wpC_mono h (fun b s₁ h₁ => wpC_pure h₁) fun _ _ x => x)
theorem orC {x y : Expr} {pos : Pos} {whole : Sem Value} {Q : Bool → Shared → Prop}
    (h : wpC M A (isTrue x env (eval x env)) (fun b s' => if b then Q true s' else wpC M A (isTrue y env (eval y env)) Q E s') E s) : wpC M A (isTrue (.BoolOp .Or [x, y] pos) env whole) Q E s := by
  show wpC M A (allTrue .Or [x, y] env) Q E s
  unfold allTrue
  refine wpC_bind (wpC_mono h (fun b s₁ h₁ => ?_) fun _ _ x => x)
  cases b with
  | true => exact wpC_pure h₁
  | false =>
    show wpC M A (allTrue .Or [y] env) Q E s₁
    unfold allTrue
    refine wpC_bind (wpC_mono h₁ (fun b s₂ h₂ => ?_) fun _ _ x => x)
    cases b with
    | true => exact wpC_pure h₂
    | false => exact wpC_pure h₂
theorem truthC {f : Expr} {as : List Expr} {ks : List Keyword} {p : Pos} {Q : Bool → Shared → Prop} (h : wpC M A (eval (.Call f as ks p) env) (fun v s' => wpAny M A (truthy v) Q E s') E s) : wpC M A (isTrue (.Call f as ks p) env (eval (.Call f as ks p) env)) Q E s := by
  show wpC M A (do let v ← eval (.Call f as ks p) env; standAt p; holding [v] (truthy v)) Q E s
  exact wpC_bind (wpC_mono h (fun v s₁ h₁ => wpC_seq (wpAny_standAt (wpC_holding (wpC_lift h₁)))) fun _ _ x => x)
theorem callNameC {x : Str} {p : Pos} {as : List Expr} {pos : Pos} {Q : Value → Shared → Prop}
    (h : wpAny M A (eval (.Name x p) env) (fun f s₁ => wpC M A (callWith pos f [] (backTo pos (starEach as env)) []) Q E s₁) E s) : wpC M A (eval (.Call (.Name x p) as [] pos) env) Q E s := by
  show wpC M A (do callWith pos (← eval (.Name x p) env) [] (backTo pos (starEach as env)) (backToKw pos (keywordEach [] env))) Q E s
  exact wpC_seq h
theorem callAttrC {o : Expr} {name : Str} {apos pos : Pos} {args : List Expr} {pl : Sem Bool} {Q : Value → Shared → Prop}
    (h : wpAny M A (eval o env) (fun ov s₁ => wpAny M A (getMethod ov name pl) (fun fx s₂ => wpC M A (callWith pos fx.1 fx.2 (backTo pos (starEach args env)) []) Q E s₂) E s₁) E s)
    (he : eval (.Call (.Attribute o name apos) args [] pos) env = (do
      let ov ← eval o env
      standAt apos.atName
      let (f, first) ← holding [ov] (getMethod ov name pl)
      callWith pos f first (backTo pos (starEach args env)) []) := by rfl) : wpC M A (eval (.Call (.Attribute o name apos) args [] pos) env) Q E s := by
  rw [he]
  exact wpC_seq (wpAny_mono h (fun ov s₁ h₁ => wpC_seq (wpAny_standAt (wpC_seq (wpAny_holding h₁)))) fun _ _ x => x)
theorem tupleC {elts : List Expr} {k : Nat} {pos : Pos} {Q : Value → Shared → Prop} {e : Expr} (he : elts = e :: elts.tail)
    (h : wpC M A (spliced (backTo pos (starEach elts env))) (fun vs s₁ => wpAny M A (newTuple vs) Q E s₁) E s) : wpC M A (eval (.Tuple elts k pos) env) Q E s := by
  show wpC M A (do standAt pos; newTuple (← spliced (backTo pos (starEach elts env)))) Q E s
  exact wpC_seq (wpAny_standAt (wpC_bind (wpC_mono h (fun _ _ z => wpC_lift z) fun _ _ x => x)))
theorem tupAssignC {elts : List Expr} {k : Nat} {tpos : Pos} {value : Expr} {pos : Pos} {Q : Flow → Shared → Prop}
    (h : wpC M A (eval value env) (fun v s₁ => wpAny M A (assign (.Tuple elts k tpos) env v) (fun _ => Q .next) E s₁) E s)
    (hs : swapsWithSole [.Tuple elts k tpos] value pos.line env = pure false := by rfl)
    (hw : swappedStores [.Tuple elts k tpos] value env = pure none := by rfl) : wpC M A (exec (.Assign [.Tuple elts k tpos] value pos) env) Q E s := by
  rw [exec_Assign]
  refine wpC_seq (wpAny_standAt ?_)
  rw [hs]
  refine wpC_seq (wpAny_pure ?_)
  rw [if_neg (by decide)]
  refine wpC_bind (wpC_mono h (fun v s₁ h₁ => ?_) fun _ _ x => x)
  rw [hw]
  refine wpC_seq (wpAny_pure ?_)
  show wpC M A (do assignAll v [assign (.Tuple elts k tpos) env]; pure .next) Q E s₁
  exact wpC_seq (wpAny_mono h₁ (fun _ _ x => wpC_pure x) fun _ _ x => x)
theorem tupSwapC {elts : List Expr} {k : Nat} {tpos : Pos} {value : Expr} {pos : Pos} {names : List Str} {Q : Flow → Shared → Prop}
    (h : wpC M A (eval value env) (fun v s₁ => wpAny M A (unpackItems v names.length none) (fun items s₂ =>
      wpAny M A (assignInOrder (names.reverse.map fun n => bindName env n) items.reverse) (fun _ => Q .next) E s₂) E s₁) E s)
    (hs : swapsWithSole [.Tuple elts k tpos] value pos.line env = pure false := by rfl)
    (hw : swappedStores [.Tuple elts k tpos] value env = pure (some names) := by rfl) : wpC M A (exec (.Assign [.Tuple elts k tpos] value pos) env) Q E s := by
  rw [exec_Assign]
  refine wpC_seq (wpAny_standAt ?_)
  rw [hs]
  refine wpC_seq (wpAny_pure ?_)
  rw [if_neg (by decide)]
  refine wpC_bind (wpC_mono h (fun v s₁ h₁ => ?_) fun _ _ x => x)
  rw [hw]
  refine wpC_seq (wpAny_pure ?_)
  show wpC M A (do rule "assign.swapped-stores"; let items ← unpackItems v names.length none; assignInOrder (names.reverse.map fun n => bindName env n) items.reverse; pure .next) Q E s₁
  exact wpC_seq (wpAny_rule (wpC_seq (wpAny_mono h₁ (fun _ _ x => wpC_seq (wpAny_mono x (fun _ _ y => wpC_pure y) fun _ _ x => x)) fun _ _ x => x)))
end
section
variable {prog : Program} {w : World} {A : Around} {E : Value → Shared → Prop} {s : Shared} {env : Env}
theorem mark_none (A : Around) : A.mark none = A := by obtain ⟨h, d, f, g, u⟩ := A; cases h <;> rfl
theorem runOwnC {c : Code} {Q : Flow → Shared → Prop} (h : codeC (model prog w) A c (fun r s' => match r with | .ok f => Q f s' | .error _ => False) s) : wpC (model prog w) A (runOwn c env) Q E s := by
  unfold runOwn
  refine wpC_onRaise (wpC_run ?_)
  rw [mark_none]
  exact codeC_mono h fun r s' z => by cases r <;> exact z
theorem whileC {test : Expr} {body : List Stmt} {pos : Pos} {Q : Flow → Shared → Prop} (I : Nat → Shared → Prop) (n : Nat) (h : I n s)
    (turn : ∀ n s, I n s → wpAny (model prog w) A (isTrue test env (eval test env)) (fun b s₁ => if b then wpC (model prog w) A (execs body env)
      (fun fl s₂ => match fl with | .next => (∃ m, m < n ∧ I m s₂) | .cont => (∃ m, m < n ∧ I m s₂) | .brk => Q .next s₂ | .ret v => Q (.ret v) s₂) (fun _ _ => False) s₁ else Q .next s₁) (fun _ _ => False) s) :
    wpC (model prog w) A (exec (.While test body [] pos) env) Q E s := by
  rw [exec_While]
  refine wpC_seq (wpAny_standAt (runOwnC (codeC_loop rfl rfl I (fun n s hI => ?_) n h)))
  rw [Around.under_of_weight rfl]
  show wpC _ A ((whileTurn test body [] env).onRaise fun x => do noteFrame x env; theTreesLotGoes x) _ _ s
  refine wpC_onRaise ?_
  unfold whileTurn
  refine wpC_seq (wpAny_mono (turn n s hI) (fun b s₁ h₁ => ?_) fun _ _ x => x)
  cases b with
  | false => exact wpC_seq (wpAny_execs_nil (wpC_pure h₁))
  | true =>
    refine wpC_bind (wpC_mono h₁ (fun fl s₂ h₂ => ?_) fun _ _ x => x)
    cases fl with
    | next => exact wpC_pure ⟨rfl, h₂⟩
    | cont => exact wpC_pure ⟨rfl, h₂⟩
    | brk => exact wpC_pure h₂
    | ret v => exact wpC_pure h₂
theorem forLoopC {x : Str} {px : Pos} {body : List Stmt} {it : Value} {R : Result → Shared → Prop} {n : Nat} (J : Nat → Shared → Prop) (h0 : J 0 s)
    (turn : ∀ i s, i < n → J i s → wpAny (model prog w) A (pyNext it) (fun v s₁ => ∃ val, v = some val ∧ wpAny (model prog w) A (storeName env x val) (fun _ s₂ => wpC (model prog w) A (execs body env)
      (fun fl s₃ => match fl with | .next => J (i + 1) s₃ | .cont => J (i + 1) s₃ | .brk => R (.ok .next) s₃ | .ret v => R (.ok (.ret v)) s₃) (fun _ _ => False) s₂) (fun _ _ => False) s₁) (fun _ _ => False) s)
    (last : ∀ s, J n s → wpAny (model prog w) A (pyNext it) (fun v s₁ => v = none ∧ R (.ok .next) s₁) (fun _ _ => False) s) :
    codeC (model prog w) A (.forLoop (.Name x px) it body [] env) R s := by
  have go : ∀ (k i : Nat) (s : Shared), n - i = k → i ≤ n → J i s → codeC (model prog w) A (.forLoop (.Name x px) it body [] env) R s := by
    intro k
    induction k with
    | zero =>
      intro i s hk hi hJ
      have e : i = n := by omega
      subst e
      refine codeC_of_tree rfl ?_
      rw [Around.under_of_weight rfl]
      show wpC _ A ((forTurn (.Name x px) it body [] env).onRaise fun x => do noteFrame x env; theTreesLotGoes x) _ _ s
      refine wpC_onRaise ?_
      unfold forTurn
      refine wpC_seq (wpAny_standAt (wpC_bind (wpC_onRaise (wpC_mono (wpC_lift (last s hJ)) (fun v s₁ h₁ => ?_) fun _ _ z => z))))
      obtain ⟨rfl, hR⟩ := h₁
      refine wpC_pure ⟨rfl, codeC_of_tree rfl ?_⟩
      rw [Around.under_of_weight rfl]
      show wpC _ A (do return Fin.done (← (execs [] env).onRaise (fun x => do noteFrame x env; theTreesLotGoes x))) _ _ s₁
      exact wpC_bind (wpC_onRaise (wpC_pure (wpC_pure hR)))
    | succ k ih =>
      intro i s hk hi hJ
      refine codeC_of_tree rfl ?_
      rw [Around.under_of_weight rfl]
      show wpC _ A ((forTurn (.Name x px) it body [] env).onRaise fun x => do noteFrame x env; theTreesLotGoes x) _ _ s
      refine wpC_onRaise ?_
      unfold forTurn
      refine wpC_seq (wpAny_standAt (wpC_bind (wpC_onRaise (wpC_mono (wpC_lift (turn i s (by omega) hJ)) (fun v s₁ h₁ => ?_) fun _ _ z => z))))
      obtain ⟨val, rfl, h₂⟩ := h₁
      show wpC _ A (letOwnedTupleGo (.Name x px) it val >>= fun _ => assign (.Name x px) env val >>= _) _ _ s₁
      refine wpC_seq (wpAny_of_eq (a := ()) rfl ?_)
      show wpC _ A ((do standAt px; bindName env x val) >>= _) _ _ s₁
      refine wpC_bind (wpC_seq (wpAny_standAt (wpC_lift (Q := _) ?_)))
      intro Γ p hΓ
      rw [Sem.wp_bindName]
      refine Sem.wp_mono _ _ _ (fun _ _ s₂ z => ?_) (fun _ _ _ z => z) _ _ (h₂ Γ p hΓ)
      refine wpC_bind (wpC_mono z (fun fl s₃ h₃ => ?_) fun _ _ z => z)
      cases fl with
      | next => exact wpC_pure ⟨rfl, ih (i + 1) s₃ (by omega) (by omega) h₃⟩
      | cont => exact wpC_pure ⟨rfl, ih (i + 1) s₃ (by omega) (by omega) h₃⟩
      | brk => exact wpC_pure h₃
      | ret v => exact wpC_pure h₃
  exact go n 0 s (Nat.sub_zero n) (Nat.zero_le n) h0
theorem forC {x : Str} {px : Pos} {iter : Expr} {body : List Stmt} {pos : Pos} {Q : Flow → Shared → Prop}
    (h : wpAny (model prog w) A (eval iter env) (fun xv s₁ => wpAny (model prog w) A (pyIter xv) (fun it s₂ =>
      codeC (model prog w) A (.forLoop (.Name x px) it body [] env) (fun r s' => match r with | .ok f => Q f s' | .error _ => False) s₂) E s₁) E s)
    (hs : ∀ x, foldedSetIterable iter env x = pure x := by intro _; rfl) : wpC (model prog w) A (exec (.For (.Name x px) iter body [] pos) env) Q E s := by
  rw [exec_For]
  refine wpC_seq (wpAny_standAt (wpC_seq (wpAny_mono h (fun xv s₁ h₁ => ?_) fun _ _ z => z)))
  refine wpC_seq (wpAny_of_eq (hs xv) (wpC_seq (wpAny_standAt (wpC_seq (wpAny_holding (wpAny_mono h₁ (fun it s₂ h₂ => runOwnC h₂) fun _ _ z => z))))))
theorem onRaiseA {α : Type} {m : Sem α} {k : Value → Sem Unit} {Q : α → Shared → Prop} (h : wpAny (model prog w) A m Q (fun _ _ => False) s) : wpAny (model prog w) A (m.onRaise k) Q E s :=
  wpAny_onRaise (wpAny_mono h (fun _ _ z => z) fun _ _ z => z.elim)
theorem runOwnA {c : Code} {Q : Flow → Shared → Prop} (h : codeAny (model prog w) A c (fun r s' => match r with | .ok f => Q f s' | .error _ => False) s) : wpAny (model prog w) A (runOwn c env) Q E s := by
  unfold runOwn
  refine onRaiseA (wpAny_run ?_)
  rw [mark_none]
  exact codeAny_mono h fun r s' z => by cases r <;> exact z
theorem forLoopA {x : Str} {px : Pos} {body : List Stmt} {it : Value} {R : Result → Shared → Prop} {n : Nat} (J : Nat → Shared → Prop) (h0 : J 0 s)
    (turn : ∀ i s, i < n → J i s → wpAny (model prog w) A (pyNext it) (fun v s₁ => ∃ val, v = some val ∧ wpAny (model prog w) A (storeName env x val) (fun _ s₂ => wpAny (model prog w) A (execs body env)
      (fun fl s₃ => match fl with | .next => J (i + 1) s₃ | .cont => J (i + 1) s₃ | .brk => R (.ok .next) s₃ | .ret v => R (.ok (.ret v)) s₃) (fun _ _ => False) s₂) (fun _ _ => False) s₁) (fun _ _ => False) s)
    (last : ∀ s, J n s → wpAny (model prog w) A (pyNext it) (fun v s₁ => v = none ∧ R (.ok .next) s₁) (fun _ _ => False) s) :
    codeAny (model prog w) A (.forLoop (.Name x px) it body [] env) R s := by
  have go : ∀ (k i : Nat) (s : Shared), n - i = k → i ≤ n → J i s → codeAny (model prog w) A (.forLoop (.Name x px) it body [] env) R s := by
    intro k
    induction k with
    | zero =>
      intro i s hk hi hJ
      have e : i = n := by omega
      subst e
      refine codeAny_of_tree ?_
      rw [Around.under_of_weight rfl]
      show wpAny _ A ((forTurn (.Name x px) it body [] env).onRaise fun x => do noteFrame x env; theTreesLotGoes x) _ _ s
      refine onRaiseA ?_
      unfold forTurn
      refine wpAny_bind (wpAny_standAt (wpAny_bind (onRaiseA (wpAny_mono (last s hJ) (fun v s₁ h₁ => ?_) fun _ _ z => z))))
      obtain ⟨rfl, hR⟩ := h₁
      refine wpAny_pure ⟨rfl, codeAny_of_tree ?_⟩
      rw [Around.under_of_weight rfl]
      show wpAny _ A (do return Fin.done (← (execs [] env).onRaise (fun x => do noteFrame x env; theTreesLotGoes x))) _ _ s₁
      exact wpAny_bind (onRaiseA (wpAny_pure (wpAny_pure hR)))
    | succ k ih =>
      intro i s hk hi hJ
      refine codeAny_of_tree ?_
      rw [Around.under_of_weight rfl]
      show wpAny _ A ((forTurn (.Name x px) it body [] env).onRaise fun x => do noteFrame x env; theTreesLotGoes x) _ _ s
      refine onRaiseA ?_
      unfold forTurn
      refine wpAny_bind (wpAny_standAt (wpAny_bind (onRaiseA (wpAny_mono (turn i s (by omega) hJ) (fun v s₁ h₁ => ?_) fun _ _ z => z))))
      obtain ⟨val, rfl, h₂⟩ := h₁
      show wpAny _ A (letOwnedTupleGo (.Name x px) it val >>= fun _ => assign (.Name x px) env val >>= _) _ _ s₁
      refine wpAny_bind (wpAny_of_eq (a := ()) rfl ?_)
      show wpAny _ A ((do standAt px; bindName env x val) >>= _) _ _ s₁
      refine wpAny_bind (wpAny_bind (wpAny_standAt ?_))
      intro Γ p hΓ
      rw [Sem.wp_bindName]
      refine Sem.wp_mono _ _ _ (fun _ _ s₂ z => ?_) (fun _ _ _ z => z) _ _ (h₂ Γ p hΓ)
      refine wpAny_bind (wpAny_mono z (fun fl s₃ h₃ => ?_) fun _ _ z => z)
      cases fl with
      | next => exact wpAny_pure ⟨rfl, ih (i + 1) s₃ (by omega) (by omega) h₃⟩
      | cont => exact wpAny_pure ⟨rfl, ih (i + 1) s₃ (by omega) (by omega) h₃⟩
      | brk => exact wpAny_pure h₃
      | ret v => exact wpAny_pure h₃
  exact go n 0 s (Nat.sub_zero n) (Nat.zero_le n) h0
theorem forA {x : Str} {px : Pos} {iter : Expr} {body : List Stmt} {pos : Pos} {Q : Flow → Shared → Prop}
    (h : wpAny (model prog w) A (eval iter env) (fun xv s₁ => wpAny (model prog w) A (pyIter xv) (fun it s₂ =>
      codeAny (model prog w) A (.forLoop (.Name x px) it body [] env) (fun r s' => match r with | .ok f => Q f s' | .error _ => False) s₂) E s₁) E s)
    (hs : ∀ x, foldedSetIterable iter env x = pure x := by intro _; rfl) : wpAny (model prog w) A (exec (.For (.Name x px) iter body [] pos) env) Q E s := by
  rw [exec_For]
  refine wpAny_bind (wpAny_standAt (wpAny_bind (wpAny_mono h (fun xv s₁ h₁ => ?_) fun _ _ z => z)))
  refine wpAny_bind (wpAny_of_eq (hs xv) (wpAny_bind (wpAny_standAt (wpAny_bind (wpAny_holding (wpAny_mono h₁ (fun it s₂ h₂ => runOwnA h₂) fun _ _ z => z))))))
end

end

/-! part Spine4 -/
section
open PySem.Calls
section
variable {prog : Program} {w : World} {A : Around} {K : Frag} {C x : Addr} {s : Shared} {h₀ : Heap} {L : Addr} {m : Str → Option Value} {news : List (Addr × Obj)} {R : Result → Shared → Prop}
/-- an own class called: made, then its __init__ in clean contexts -/
theorem makeC {rest : List Value} {fI : Addr} (F : Fr h₀ L s.heap m) (N : News h₀ L s.heap news) (X : K.In s.heap) (hm : makesIn K C = true)
    (hi : findIn K (.ref C) "__init__" = some (some (.ref fI))) (hf : typeIn K (.ref fI) = some (.type "function"))
    (hq : ∀ x dx h', Fr h₀ L h' m → News h₀ L h' ((x, instObj C dx) :: (dx, dictOf [] 0) :: news) → (∀ p ∈ news, p.1 < dx) → dx < x →
      codeC (model prog w) (A.under (.builtin "type.__call__" ⟨.ref C :: rest, []⟩)) (.call (.ref fI) ⟨.ref x :: rest, []⟩) (InitBack x R) { s with heap := h' }) :
    codeC (model prog w) A (.call (.ref C) ⟨rest, []⟩) R s := by
  obtain ⟨h, g, d, t, os⟩ := s
  have Y : Makes (model prog w) h C := makes_of X hm
  have Y' := Y
  have hi' : Looks (model prog w) h (typeLookup (.ref C) "__init__") (some (.ref fI)) := looks_findIn X hi
  have hb : ∀ self, Looks (model prog w) h (bindSpecial (.ref fI) self) (.ref fI, [self]) := fun self => bind_fn X self hf
  have N' := (N.push F emptyDict).push (F.push _) (instObj C h.objs.size)
  rw [Heap.size_push] at N'
  have hq' := hq (h.objs.size + 1) h.objs.size _ ((F.push _).push _) N' (fun p hp => Heap.lt_size (N p hp).1) (Nat.lt_succ_self _)
  obtain ⟨⟨oc, od, cd, sl, hC, e1, e2, e4⟩, made, base, self, top, call, typ⟩ := Y
  refine codeC_of_tree rfl (wpC_lift ?_)
  show wpAny _ _ (callAny (.ref C) _) _ _ _
  refine nd_load hC ?_
  show wpAny _ _ (callAny.viaDunder (.ref C) _) _ _ _
  unfold callAny.viaDunder
  refine wpAny_bind (call.at ?_)
  dsimp only
  rw [tc_bind]
  refine wpAny_bind (wpAny_pure (wpAny_bind (wpAny_pure ?_)))
  refine wpAny_pure (a := Fin.again (.call (.builtin "type.__call__") ⟨.ref C :: rest, []⟩)) (And.intro rfl ?_)
  refine codeC_call_builtin (Code.quiet_builtin _ (by decide +kernel)) (by simp only [noEx]; decide +kernel) entry_typeCall (check_slot tc_kind tc_split typ (tc_args _ _ _) ?_)
  unfold Builtin.«type.__call__»
  have hmr : Looks (model prog w) h (mroOf (.ref C)) cd.mro := ((Looks.ld (part := none) hC).andThen .now).andThen .now
  have k : ∀ b o, h.get? b = some o → ((h.push emptyDict).push (instObj C h.objs.size)).get? b = some o := fun b o e => Heap.get?_push_of_some _ (Heap.get?_push_of_some _ e)
  have hx : ((h.push emptyDict).push (instObj C h.objs.size)).get? (h.objs.size + 1) = some (instObj C h.objs.size) := by heap_get
  have t1 : Looks (model prog w) ((h.push emptyDict).push (instObj C h.objs.size)) (typeOf (.ref (h.objs.size + 1))) (.ref C) := (Looks.ld hx).andThen .now
  have s1 := self.keeps k
  have i1 := hi'.keeps k
  have b1 := (hb (.ref (h.objs.size + 1))).keeps k
  have t2 : Looks (model prog w) ((h.push emptyDict).push (instObj C h.objs.size)) (isInstance (.ref (h.objs.size + 1)) (.ref C)) true := t1.andThen s1
  have i2 : Looks (model prog w) ((h.push emptyDict).push (instObj C h.objs.size)) (specialOf (.ref (h.objs.size + 1)) (Str.ofString "__init__")) (some (.ref fI)) := t1.andThen i1
  show wpC _ _ (mroOf (.ref C) >>= _) _ _ _
  refine wpC_seq (hmr.at ?_)
  rw [e4]
  show wpC _ _ (Bind.madeBy (.ref C) >>= _) _ _ _
  refine wpC_seq (made.at (wpC_seq (wpAny_pure (wpC_seq (wpAny_holding (wpAny_call (new_K Y' hi' (.inl rfl) ?_)))))))
  refine wpC_seq (t2.at ?_)
  show wpC _ _ (holding [Value.ref (h.objs.size + 1)] (callSpecial? (.ref (h.objs.size + 1)) (Str.ofString "__init__") rest []) >>= _) _ _ _
  refine wpC_bind (wpC_holding ?_)
  unfold callSpecial?
  refine wpC_seq (i2.at ?_)
  refine wpC_holding (wpC_seq (b1.at (wpC_bind (wpC_call (codeC_mono hq' fun r s' z => ?_)))))
  rcases r with e | (_ | _ | _ | v) <;> first | exact z | exact z.elim | skip
  obtain ⟨rfl, z⟩ := z
  exact wpC_pure (wpC_pure z)
end

end

/-! part Spine6 -/
section
open PySem.Calls
namespace Bf
theorem no_bytes : typeLookup (.type "bytearray") "__bytes__" = pure none := by rw [typeLookup_type, builtinLookup_eq_fast]; kernel_rfl
theorem no_idx : typeLookup (.type "bytearray") "__index__" = pure none := by rw [typeLookup_type, builtinLookup_eq_fast]; kernel_rfl
theorem l_buffer : typeLookup (.type "bytearray") "__buffer__" = pure (some (.builtin "bytearray.__buffer__")) := by rw [typeLookup_type, builtinLookup_eq_fast]; kernel_rfl
end Bf
section
variable {prog : Program} {w : World} {A : Around} {E : Value → Shared → Prop} {s : Shared} {r : Addr} {b : Array UInt8}
theorem ba_slotOwn {M : Model} {v : Value} {Q : Bool → Shared → Prop} (hT : s.TypeIs v "bytearray") (h : Q true s) : wpAny M A (Builtin.Bytes.slotIsOwn v "__buffer__") Q E s := by
  have e1 : (!("bytearray.__buffer__".endsWith ("." ++ "__buffer__"))) = false := by decide +kernel
  have key : ∀ (x : String) (Q : Bool → Shared → Prop), x = "bytearray" → Q true s → wpAny M A (isInstance v (.type x)) Q E s := fun x Q hx hq => by rw [hx]; exact wpAny_isInstance hT Bf.sub hq
  unfold Builtin.Bytes.slotIsOwn
  refine wpAny_bind (wpAny_specialOf hT Bf.l_buffer ?_)
  show wpAny M A (if (!("bytearray.__buffer__".endsWith ("." ++ "__buffer__"))) = true then _ else _) _ E s
  rw [e1, if_neg Bool.false_ne_true]
  exact key _ _ (by decide +kernel) h
theorem new_ba {Q : Value → Shared → Prop} (ho : s.heap.get? r = some (baOf b)) (hz : b.size ≤ sizeLine) (hQ : ∀ t k, Q (.bytes b t) { s with toks := k }) :
    codeAny (model prog w) A (.call (.builtin "bytes.__new__") ⟨[.type "bytes", .ref r], []⟩) (wants Q E) s := by
  refine codeAny_of_tree ?_
  show wpAny _ A.in1 (do checkBuiltinCall "bytes.__new__" ⟨[.type "bytes", .ref r], []⟩; again (.builtin "bytes.__new__" ⟨[.type "bytes", .ref r], []⟩)) _ _ s
  refine wpAny_bind (wpAny_of_eq (PySem.F.bm_newCall _) (wpAny_pure ⟨plainId_quiet PySem.F.bm_plain _, codeAny_builtin PySem.F.bm_entry ?_⟩))
  rw [Around.under_plainId PySem.F.bm_plain _]
  have hT : s.TypeIs (.ref r) "bytearray" := ba_type ho
  unfold Builtin.«bytes.__new__»
  refine wpAny_bind (wpAny_of_eq (a := true) rfl ?_)
  refine bm_if_false rfl ?_
  refine wpAny_bind (wpAny_of_eq PySem.F.bm_sub ?_)
  refine bm_if_false rfl ?_
  refine wpAny_bind (wpAny_of_eq (PySem.F.bm_bind _) ?_)
  refine wpAny_bind (wpAny_of_eq (a := ()) rfl ?_)
  refine wpAny_bind (wpAny_of_eq (a := ()) rfl ?_)
  refine bm_if_false rfl ?_
  refine wpAny_bind (wpAny_specialOf hT Bf.no_bytes ?_)
  refine wpAny_bind (wpAny_bind ?_)
  show wpAny _ _ (load r >>= _) _ _ _
  refine wpAny_bind (wpAny_load ho ?_)
  refine wpAny_pure (wpAny_pure ?_)
  refine bm_if_false rfl ?_
  refine wpAny_bind (wpAny_specialOf hT Bf.no_idx ?_)
  refine bm_if_true rfl ?_
  first
    | show wpAny _ _ (Builtin.Bytes.buffer? "bytes.__new__" (.ref r) true >>= _) _ _ _
    | (refine wpAny_bind ?_; show wpAny _ _ (Builtin.Bytes.buffer? "bytes.__new__" (.ref r) true >>= _) _ _ _)
  refine wpAny_bind ?_
  unfold Builtin.Bytes.buffer?
  refine wpAny_bind (wpAny_specialOf hT Bf.l_buffer ?_)
  dsimp only
  refine wpAny_bind (ba_slotOwn hT ?_)
  refine bm_if_false rfl ?_
  refine wpAny_bind (wpAny_specialOf hT Bf.l_buffer ?_)
  show wpAny _ _ (Builtin.Bytes.ownRelease (.ref r) >>= _) _ _ _
  refine wpAny_bind (ba_ownRelease hT ?_)
  refine bm_if_false rfl ?_
  refine wpAny_bind (wp_payload ho ?_)
  refine wpAny_pure ?_
  show wpAny _ _ (rule "bytes.__new__.bytes-like" >>= _) _ _ _
  refine wpAny_bind (wpAny_rule ?_)
  refine wpAny_bind (wpAny_mkBytes ?_ hz)
  refine wpAny_bind (m := ret (.bytes b s.toks)) (wpAny_pure ?_)
  exact wpAny_pure (hQ _ _)
theorem bytes_ba {Q : Value → Shared → Prop} (ho : s.heap.get? r = some (baOf b)) (hz : b.size ≤ sizeLine) (hQ : ∀ t k, Q (.bytes b t) { s with toks := k }) :
    wpAny (model prog w) A (call (.type "bytes") [.ref r]) Q E s := by
  refine callType_codes (Q₁ := fun obj s₁ => s₁.TypeIs obj "bytes" ∧ Q obj s₁) PySem.F.bm_called (PySem.F.bm_typeCall _) PySem.F.entry_object_init
    (new_ba ho hz fun t k => ⟨PySem.W.typeIs_bytes _ _ _, hQ t k⟩) fun obj s₁ h₁ => ?_
  exact ⟨h₁.1, PySem.F.args_object_init_2 obj _, object_init_meets PySem.F.bm_called.init.lookup PySem.F.bm_called.made (by decide) prog w A.in1 _ s₁ ⟨h₁.1, rfl, h₁.2⟩⟩
/-- a callee that the machine keeps -/
theorem callWithB0 {M : Model} {env : Env} {pos : Pos} {f : Value} {first : List Value} {Q : Value → Shared → Prop} (hf : ∀ h, Looks M h (keeperOf f) .machine) (h : wpC M A (call f (first ++ [])) Q E s) : wpC M A (callWith pos f first (backTo pos (starEach [] env)) []) Q E s :=
  callWithC (P := fun _ => True) rfl (fun h _ => ⟨_, hf h⟩) (evalArgs_nil3 ⟨trivial, h⟩)
theorem callWithB1 {M : Model} {env : Env} {pos : Pos} {f : Value} {first : List Value} {e : Expr} {rest : List Expr} {Q : Value → Shared → Prop} (hf : ∀ h, Looks M h (keeperOf f) .machine)
    (h : wpAny M A (spliced (backTo pos (starEach (e :: rest) env))) (fun vs s₁ => wpC M A (call f (first ++ vs)) Q E s₁) E s)
    (he : starEach (e :: rest) env = (false, eval e env) :: starEach rest env := by rfl) (hplain : (backTo pos (starEach rest env)).any (·.1) = false := by rfl) : wpC M A (callWith pos f first (backTo pos (starEach (e :: rest) env)) []) Q E s := by
  rw [he] at h ⊢
  exact callWithC (P := fun _ => True) (by show (false || (backTo pos (starEach rest env)).any (·.1)) = false; rw [hplain]; rfl) (fun h _ => ⟨_, hf h⟩) (evalArgs_plain (wpAny_mono h (fun _ _ z => ⟨trivial, z⟩) fun _ _ z => z))
theorem looks_mB {M : Model} {n : String} (h : Heap) : Looks M h (keeperOf (.builtin n)) .machine := Looks.of_pure rfl
theorem looks_mT {M : Model} {n : String} (h : Heap) : Looks M h (keeperOf (.type n)) .machine := Looks.of_pure rfl
/-- an own def or class -/
theorem callWithK0 {M : Model} {K : Frag} {env : Env} {pos : Pos} {f : Value} {first : List Value} {Q : Value → Shared → Prop} (X : K.In s.heap) (hk : keepIn K f = true) (h : wpC M A (call f (first ++ [])) Q E s) : wpC M A (callWith pos f first (backTo pos (starEach [] env)) []) Q E s :=
  callWithC (P := K.In) rfl (fun h X => ⟨_, (looks_keep (M := M) hk X).choose_spec.2⟩) (evalArgs_nil3 ⟨X, h⟩)
theorem callWithK1 {M : Model} {K : Frag} {env : Env} {pos : Pos} {f : Value} {first : List Value} {e : Expr} {rest : List Expr} {h₀ : Heap} {Q : Value → Shared → Prop} (_X : K.In h₀) (hk : keepIn K f = true)
    (h : wpAny M A (spliced (backTo pos (starEach (e :: rest) env))) (fun vs s₁ => K.In s₁.heap ∧ wpC M A (call f (first ++ vs)) Q E s₁) E s)
    (he : starEach (e :: rest) env = (false, eval e env) :: starEach rest env := by rfl) (hplain : (backTo pos (starEach rest env)).any (·.1) = false := by rfl) : wpC M A (callWith pos f first (backTo pos (starEach (e :: rest) env)) []) Q E s := by
  rw [he] at h ⊢
  exact callWithC (P := K.In) (by show (false || (backTo pos (starEach rest env)).any (·.1)) = false; rw [hplain]; rfl) (fun h X => ⟨_, (looks_keep (M := M) hk X).choose_spec.2⟩) (evalArgs_plain h)
end

end

/-! part Base -/
section
theorem frames_deeper {A : Around} {e : Env} {l : List Env} (h : A.frames = some l) : (A.deeper e).frames = some (e :: l) := by simp [Around.deeper, h]
theorem upd_mem {d : Addr} {o o' : Obj} {l l' : List (Addr × Obj)} (U : Upd d o o' l l') : (d, o) ∈ l := by
  obtain ⟨pre, post, rfl, _, _, _⟩ := U.split
  exact List.mem_append.mpr (.inr (.head _))
theorem upd_mem' {d : Addr} {o o' : Obj} {l l' : List (Addr × Obj)} (U : Upd d o o' l l') : (d, o') ∈ l' := by
  obtain ⟨pre, post, _, rfl, _, _⟩ := U.split
  exact List.mem_append.mpr (.inr (.head _))
theorem upd_other {d b : Addr} {o o' ob : Obj} {l l' : List (Addr × Obj)} (U : Upd d o o' l l') (h : (b, ob) ∈ l) (hn : @Ne Nat b d) : (b, ob) ∈ l' := by
  obtain ⟨pre, post, rfl, rfl, _, _⟩ := U.split
  rcases List.mem_append.mp h with h | h
  · exact List.mem_append.mpr (.inl h)
  · rcases List.mem_cons.mp h with e | h
    · exact absurd (congrArg Prod.fst e) hn
    · exact List.mem_append.mpr (.inr (.tail _ h))
section
open PySem.Calls
variable {prog : Program} {w : World} {A : Around} {E : Value → Shared → Prop} {s : Shared} {h₀ : Heap} {L l : Addr} {m : Str → Option Value} {news news' : List (Addr × Obj)} {value : PySem.Expr} {a b : Option PySem.Expr} {sp : Pos} {vs : List Value} {ns : List Int} {n : Nat} {y k x : Int} {t u : Tok} {rg : Array UInt8}
theorem list_upto {Q : Value → Shared → Prop} (F : Fr h₀ L s.heap m) (N : News h₀ L s.heap news) (hm : (l, W.listOf vs.toArray n) ∈ news) (hI : IntsAre vs ns) (h0 : 0 ≤ y) (hz : ns.length ≤ 1000)
    (h : ∀ D ws h', Fr h₀ L h' m → News h₀ L h' ((D, W.listOf (List.toArray ws) 0) :: news) → (∀ p ∈ news, p.1 < D) → IntsAre ws (ns.take y.toNat) → Q (.ref D) { s with heap := h' }) :
    wpAny (model prog w) A (subscriptTail value (.Slice a b none sp) (.ref l) (.ref s.heap.objs.size)) Q E { s with heap := s.heap.push { cls := .type "slice", data := .fields #[.none, .int y t, .none] } } :=
  kba_turn (value' := PySem.Expr.Name (PySem.Str.ofString "x") ⟨0, 0, 0, 0⟩) (fun _ => rfl)
    (kmk_slice_ints F N (PySem.IsL.isList (n := n) (N _ hm).1) IsPart.none (IsPart.int _ _) hI (kmk_upto hI h0) rfl (fun D ws h' F' N' l1 hi _ _ => h D ws h' F' N' l1 hi) rfl (fun _ => rfl)
      (kmk_sz hI (by rw [sizeLine_eq]; omega)))
theorem list_from {Q : Value → Shared → Prop} (F : Fr h₀ L s.heap m) (N : News h₀ L s.heap news) (hm : (l, W.listOf vs.toArray n) ∈ news) (hI : IntsAre vs ns) (h0 : 0 ≤ y) (hz : ns.length ≤ 1000)
    (h : ∀ D ws h', Fr h₀ L h' m → News h₀ L h' ((D, W.listOf (List.toArray ws) 0) :: news) → (∀ p ∈ news, p.1 < D) → IntsAre ws (ns.drop y.toNat) → Q (.ref D) { s with heap := h' }) :
    wpAny (model prog w) A (subscriptTail value (.Slice a b none sp) (.ref l) (.ref s.heap.objs.size)) Q E { s with heap := s.heap.push { cls := .type "slice", data := .fields #[.int y t, .none, .none] } } :=
  kba_turn (value' := PySem.Expr.Name (PySem.Str.ofString "x") ⟨0, 0, 0, 0⟩) (fun _ => rfl)
    (kmk_slice_ints F N (PySem.IsL.isList (n := n) (N _ hm).1) (IsPart.int _ _) IsPart.none hI (kmk_from hI h0) rfl (fun D ws h' F' N' l1 hi _ _ => h D ws h' F' N' l1 hi) rfl (fun _ => rfl)
      (kmk_sz hI (by rw [sizeLine_eq]; omega)))
/-- the ring read and written, over the ledger -/
theorem ba_sub {slice : PySem.Expr} {Q : Value → Shared → Prop} (N : News h₀ L s.heap news) (hm : (l, baOf rg) ∈ news) (h0 : 0 ≤ k) (h1 : k < rg.size) (hfit : rg.size ≤ 1000)
    (h : Q (.int (rg.getD k.toNat 0).toNat s.toks) { s with toks := s.toks + 1 })
    (hs : subscripted slice false (.ref l) (.int k u) = operate [.ref l, .int k u] (getItem (.ref l) (.int k u)) := by with_unfolding_all rfl) :
    wpAny (model prog w) A (subscriptTail value slice (.ref l) (.int k u)) Q E s :=
  kba_turn (value' := PySem.Expr.Name (PySem.Str.ofString "x") ⟨0, 0, 0, 0⟩) (fun _ => rfl)
    (subscriptTail_builtin (ba_type (N _ hm).1) Bf.s_get.lookup (ba_get (N _ hm).1 h0 h1 (by omega) h) hs (fun _ => rfl))
theorem ba_set {Q : Unit → Shared → Prop} (F : Fr h₀ L s.heap m) (N : News h₀ L s.heap news) (U : Upd l (baOf rg) (baOf (rg.setIfInBounds k.toNat x.toNat.toUInt8)) news news') (h0 : 0 ≤ k) (h1 : k < rg.size) (hfit : rg.size ≤ 1000) (hx0 : 0 ≤ x) (hx1 : x < 256)
    (h : ∀ h', Fr h₀ L h' m → News h₀ L h' news' → Q () { s with heap := h' }) : wpAny (model prog w) A (setItem (.ref l) (.int k t) (.int x u)) Q E s := by
  obtain ⟨pre, post, rfl, rfl, a, b⟩ := U.split
  have z := N (l, baOf rg) (List.mem_append.mpr (.inr (.head _)))
  have V := news_upd (f := Obj.mapBytearray (·.setIfInBounds k.toNat x.toNat.toUInt8)) (o' := baOf (rg.setIfInBounds k.toNat x.toNat.toUInt8)) F N a b rfl rfl
  exact ba_set0 z.1 h0 h1 (by omega) hx0 hx1 (by rw [sizeLine_eq]; omega) (h _ V.1 V.2)
theorem ba_push {Q : Value → Shared → Prop} (F : Fr h₀ L s.heap m) (N : News h₀ L s.heap news) (U : Upd l (baOf rg) (baOf (rg.push x.toNat.toUInt8)) news news') (hfit : rg.size ≤ 1000) (hx0 : 0 ≤ x) (hx1 : x < 256)
    (h : ∀ h', Fr h₀ L h' m → News h₀ L h' news' → Q .none { s with heap := h' }) : wpC (model prog w) A (call (.builtin "bytearray.append") [.ref l, .int x u]) Q E s := by
  obtain ⟨pre, post, rfl, rfl, a, b⟩ := U.split
  have z := N (l, baOf rg) (List.mem_append.mpr (.inr (.head _)))
  have V := news_upd (f := Obj.mapBytearray (·.push x.toNat.toUInt8)) (o' := baOf (rg.push x.toNat.toUInt8)) F N a b rfl rfl
  exact ba_append0 z.1 hx0 hx1 (by rw [sizeLine_eq]; omega) (h _ V.1 V.2)
theorem ba_lenN {Q : Value → Shared → Prop} (N : News h₀ L s.heap news) (hm : (l, baOf rg) ∈ news) (hfit : rg.size ≤ 1000) (h : Q (.int rg.size (s.toks + 1)) { s with toks := s.toks + 1 + 1 }) :
    wpAny (model prog w) A (call (.builtin "len") [.ref l]) Q E s := ba_len (N _ hm).1 (by omega) h
theorem ba_meth {pl : Sem Bool} {Q : Value × List Value → Shared → Prop} (N : News h₀ L s.heap news) (hm : (l, baOf rg) ∈ news) (h : Q (.builtin "bytearray.append", [.ref l]) s) :
    wpAny (model prog w) A (getMethod (.ref l) (Str.ofString "append") pl) Q E s :=
  getMethod_builtin (ba_type (N _ hm).1) Bf.p_attrs Bf.s_append Bf.t_append (fun a e => by cases e; exact ⟨_, (N _ hm).1, rfl⟩) h
end

end

/-! part Spine7 -/
section
open PySem.Calls
section
variable {prog : Program} {w : World} {A₀ A : Around} {s : Shared} {base h₀ : Heap} {outer : List Env} {L : Addr} {m mg mb : Str → Option Value} {env : Env} {news : List (Addr × Obj)} {K : Frag} {p : Program} {loose : List Str} {mean : ExcName → Option Value}
/-- a call of one of the text's defs with captured names, in clean contexts; nothing is raised out of it -/
theorem code_defCleanC {R : Result → Shared → Prop} {name qual : Str} {params : Arguments} {body : List Stmt} {scope : Scope} {dV kV doc pm cdv ct oc : Value} {an od : Option Addr} {osl : Array (Option Value)} {f : Addr} {args : Args} {binds : List (Str × Value)}
    (B : Below A₀ base outer h₀) (F : Fr h₀ L s.heap m) (X₀ : K.In h₀) (N : News h₀ L s.heap news) (T : Top p loose mean mg mb h₀) (hA : A.frames = some (env :: outer)) (hf : env.frame = some L) (hke : env.scope.kind = .function)
    (ho : K.lookup f = some ⟨oc, od, .func (fnOf name qual params body scope dV kV doc pm an cdv ct), osl⟩) (hcd : codeIn K cdv qual = true) (hroom : A.depth < recursionLimit)
    (hbind : BindsTo s (fnOf name qual params body scope dV kV doc pm an cdv ct) args binds) (hkind : (binds.all fun y => scope.names.lookup y.1 == some .local || scope.names.lookup y.1 == some .cell) = true)
    (hnd : ((cellsFrom 0 scope.names []).map (·.1)).Nodup)
    (h : ∀ g L' h₁ tk cells, Fr h₀ L g m → Fr g L' h₁ (bindL (envOfC qual scope L' f cdv).kindOf binds fun _ => none) → News g L' h₁ (cells ++ news) →
      CellsAre (bindC (envOfC qual scope L' f cdv).kindOf binds fun _ => none) (cellsFrom (L' + 1) scope.names []) cells → Below A base (env :: outer) g → K.In g → Top p loose mean mg mb g → (∀ p ∈ news, p.1 < L') →
      wpC (model prog w) (A.deeper (envOfC qual scope L' f cdv)) (execs body (envOfC qual scope L' f cdv))
        (fun fl s' => LeaveK h₀ L m g R (match fl with | .ret v => v | _ => .none) s') (fun _ _ => False)
        { s with heap := h₁, toks := tk })
    (hco : scope.isCoroutine = false) (hgen : scope.isGenerator = false) (hk : scope.kind = .function) : codeC (model prog w) A (.call (.ref f) args) R s := by
  obtain ⟨FG, BG, st, lv⟩ := groundX (R := R) B F N hA hf hke
  have hlim : s.heap.NoLimit := T.nolimit.keeps F.keep
  refine callC_def hroom ((X₀.keeps F.keep) _ _ ho) rfl hco hgen rfl (codeRec_of (X₀.keeps F.keep) hcd) (hbind _ _ _ _ ?_)
  refine wpAny_newFunctionEnv_cells hk (kindsX hkind _) fun env' he s' x => ?_
  subst he
  refine ⟨hlim.keeps x.toInCall.keep, codeC_func ?_⟩
  obtain ⟨h₁, tk, rfl, _⟩ := x.done
  have hk₁ := x.toInCall.keep
  obtain ⟨cells, NC, Y⟩ := Cl.news (h₀ := s.heap) (Nat.le_refl _) fun n c hm => ⟨x.cell n c (lookup_of_mem_nodup (cellsFrom_names scope.names 0 (s.heap.objs.size + 1) [] [] rfl ▸ hnd) hm), x.above n c hm⟩
  refine wpC_mono (h _ s.heap.objs.size h₁ tk cells FG ⟨x.toInCall.ns, fun b o e => hk₁ b o (of_hideAll _ e), Nat.le_of_eq (hideAll_size _ _)⟩ (fun p hp => ?_) Y BG (X₀.keeps st) (T.keeps st) (fun p hp => Heap.lt_size (N p hp).1)) (fun fl s' hl => lv _ _ hl) fun _ _ y => y
  rcases List.mem_append.mp hp with hp | hp
  · refine ⟨(NC p hp).1, (NC p hp).2.1, ?_⟩
    cases q : (hideAll s.heap (news.map (·.1))).get? p.1 with
    | none => rfl
    | some o => have := of_hideAll _ q; rw [(NC p hp).2.2] at this; cases this
  · exact ⟨hk₁ _ _ (N p hp).1, Nat.ne_of_lt (Heap.lt_size (N p hp).1), hideAll_none _ (List.mem_map_of_mem hp)⟩
end

end

/-! part Comp -/
section
open PySem.Calls
section
variable {M : Model} {A : Around} {E : Value → Shared → Prop} {s : Shared} {env : Env}
theorem wpC_attempt {α : Type} {m : Sem α} {Q : Except Value α → Shared → Prop} (h : wpC M A m (fun a s' => Q (.ok a) s') (fun e s' => Q (.error e) s') s) : wpC M A m.attempt Q E s :=
  fun Γ p hΓ hc => by rw [Sem.wp_attempt]; exact h Γ p hΓ hc
def compPostC (M : Model) (A : Around) (E : Value → Shared → Prop) (use : Option (Value → Sem Unit)) (Q : Value → Shared → Prop) (acc : Value) (C : Addr) (r : Result) (s' : Shared) : Prop :=
  match r, use with
  | .ok _, none => ∃ m, s'.heap.Ns C m ∧ ∀ h', Heap.SameBut C s'.heap h' → Q acc { s' with heap := h' }
  | .ok _, some u => wpAny M A (u acc) (fun _ s'' => ∃ m, s''.heap.Ns C m ∧ ∀ h', Heap.SameBut C s''.heap h' → Q .none { s'' with heap := h' }) E s'
  | .error _, _ => False
theorem standIfC {α : Type} {c : Prop} [Decidable c] {pos : Pos} {k : PUnit → Sem α} {Q : α → Shared → Prop} (h : wpC M A (k ()) Q E s) :
    wpC M A (if c then (standAt pos >>= k) else k ()) Q E s := by
  split
  · exact wpC_seq (wpAny_standAt h)
  · exact h
theorem compFreeC {e : Expr} {scope : Scope} {pos : Pos} {newAcc first : Sem Value} {g : Comprehension} {gs : List Comprehension} {cl : List (Str × Addr)} {use : Option (Value → Sem Unit)}
    {Q : Value → Shared → Prop}
    (hcl : clausesOf e = g :: gs) (hs : ∀ x, foldedSetIterable g.iter env x = pure x) (hclos : closureFor scope env = pure cl)
    (hkind : scope.kind = .function) (hnames : ∀ x ∈ scope.names, x.2 = .local → scope.names.lookup x.1 = some .local)
    (h : wpAny M A first (fun x s₁ => wpAny M A (pyIter x) (fun it s₂ => wpAny M A newAcc (fun acc s₃ =>
      wpAny M A (newFunctionEnv scope env.globals cl [] env.qual none .none (some env)) (fun cenv s₄ =>
        codeC M A (.compStart e 0 it acc { cenv with scope := relabel scope env }) (compPostC M A E use Q acc cenv.locals) s₄) E s₃) E s₂) E s₁) E s) :
    wpC M A (comprehension e scope env pos newAcc false first use) Q E s := by
  unfold comprehension
  rw [hclos, hcl]
  refine wpC_seq (wpAny_mono h (fun x s₁ h₁ => wpC_seq (wpAny_standAt (wpC_seq (wpAny_of_eq (hs x) (wpC_seq (wpAny_holding (wpAny_mono h₁ (fun it s₂ h₂ =>
    standIfC (wpC_seq (wpAny_mono h₂ (fun acc s₃ h₃ => wpC_seq (wpAny_pure (wpC_seq (wpAny_mono h₃ (fun cenv s₄ h₄ => ?_) fun _ _ h' => h')))) fun _ _ h' => h')))
      fun _ _ h' => h'))))))) fun _ _ h' => h')
  dsimp only
  have hv : ∀ x ∈ (scope.names.filter fun x => (x.2 == .local || x.2 == .cell) && x.1 != (".0" : Str)).reverse, x.2 = .local →
      Env.kindOf { cenv with scope := relabel scope env } x.1 = some .local := fun x hx hl => lookup_relabel_local (hnames x (List.mem_filter.mp (List.mem_reverse.mp hx)).1 hl)
  have hv' : ∀ x ∈ (scope.names.filter fun x => (x.2 == .local || x.2 == .cell) && x.1 != (".0" : Str)).reverse.drop 1 ++ (scope.names.filter fun x => (x.2 == .local || x.2 == .cell) && x.1 != (".0" : Str)).reverse.take 1,
      x.2 = .local → Env.kindOf { cenv with scope := relabel scope env } x.1 = some .local := fun x hx hl => by
    rcases List.mem_append.mp hx with h1 | h1
    · exact hv x (List.mem_of_mem_drop h1) hl
    · exact hv x (List.mem_of_mem_take h1) hl
  refine wpC_holding (wpC_bind (wpC_attempt (wpC_holding (wpC_run (codeC_mono ((mark_none A).symm ▸ h₄) fun r s' hr => ?_)))))
  cases r with
  | ok f =>
    cases use with
    | none =>
      obtain ⟨m, hn, hr⟩ := hr
      exact wpC_seq (wpAny_holding (wpAny_comp_letGo (cenv := { cenv with scope := relabel scope env }) hkind _ s' m hv hn fun h' m' _ hs' => wpC_pure (hr h' hs')))
    | some u =>
      refine wpC_seq (wpAny_rule (wpC_seq (wpAny_holding (wpAny_mono hr (fun _ s'' hr' => ?_) fun _ _ h' => h'))))
      obtain ⟨m, hn, hr'⟩ := hr'
      exact wpC_seq (wpAny_comp_letGo (cenv := { cenv with scope := relabel scope env }) hkind _ s'' m hv' hn fun h' m' _ hs' => wpC_pure (hr' h' hs'))
  | error x => exact (by cases use <;> exact hr : False).elim
end
section
variable {prog : Program} {w : World} {A : Around} {E : Value → Shared → Prop} {R : Result → Shared → Prop} {s : Shared} {env : Env}
theorem compStartC {elt target iter ifs gens scope pos it acc} {d : Nat} (hg : gens[d]? = some ⟨target, iter, ifs, 0⟩)
    (h0 : codeC (model prog w) A (.compLoop (.ListComp elt gens scope pos) d it acc env) R s)
    (h : wpAny (model prog w) A (pyIter it) (fun it' s' => codeC (model prog w) A (.compLoop (.ListComp elt gens scope pos) d it' acc env) R s') (fun _ _ => False) s) :
    codeC (model prog w) A (.compStart (.ListComp elt gens scope pos) d it acc env) R s := by
  refine codeC_of_tree rfl ?_
  rw [Around.under_of_weight rfl]
  show wpC _ A ((compStart (.ListComp elt gens scope pos) d it acc env).onRaise (fun x => do noteFrame x env; standAt theWindowsPlace)) _ _ s
  refine wpC_onRaise ?_
  unfold compStart
  have e : (clausesOf (.ListComp elt gens scope pos))[d]? = some ⟨target, iter, ifs, 0⟩ := hg
  rw [e]
  show wpC _ _ (ask >>= _) _ _ s
  refine wpC_seq (wpAny_askSetting ?_)
  by_cases hc : w.params.followText "comprehension-iter-twice" = true
  · refine cast (congrArg (fun t => wpC (model prog w) A t _ _ s) (if_pos hc).symm) ?_
    exact wpC_pure ⟨rfl, h0⟩
  · refine cast (congrArg (fun t => wpC (model prog w) A t _ _ s) (if_neg hc).symm) ?_
    refine wpC_seq (wpAny_rule ?_)
    show wpC _ _ (standAt iter.pos >>= fun _ => pyIter it >>= _) _ _ s
    refine wpC_seq (wpAny_standAt (wpC_seq (wpAny_mono h (fun it' s' h' => wpC_pure ⟨rfl, h'⟩) fun _ _ z => z)))
/-- one turn of the only clause of a comprehension -/
theorem turnC1 {elt target iter : Expr} {scope : Scope} {pos : Pos} {it acc : Value} {P : Shared → Prop}
    (h : wpAny (model prog w) A (pyNext it) (fun r s₁ => ∃ v, r = some v ∧ wpAny (model prog w) A (assign target env v) (fun _ s₂ => wpC (model prog w) A (eval elt env) (fun x s₃ =>
      wpAny (model prog w) A (call (.builtin "list.append") [acc, x]) (fun _ s₄ => P s₄) (fun _ _ => False) s₃) (fun _ _ => False) s₂) (fun _ _ => False) s₁) (fun _ _ => False) s)
    (ht : ∀ v, letOwnedTupleGo target it v = pure () := by intro _; rfl) :
    wpC (model prog w) A (compTurn (.ListComp elt [⟨target, iter, [], 0⟩] scope pos) 0 it acc env) (fun fin s' => fin = .again (.compLoop (.ListComp elt [⟨target, iter, [], 0⟩] scope pos) 0 it acc env) ∧ P s') (fun _ _ => False) s := by
  rw [compTurn_list1]
  refine wpC_seq (wpAny_standAt (wpC_seq (wpAny_mono h (fun r s₁ h₁ => ?_) fun _ _ z => z)))
  obtain ⟨v, rfl, h₁⟩ := h₁
  refine wpC_seq (wpAny_of_eq (ht v) ?_)
  exact wpC_seq (wpAny_mono h₁ (fun _ s₂ h₂ => wpC_bind (wpC_bind (wpC_mono h₂ (fun x s₃ h₃ => wpC_seq (wpAny_mono h₃
      (fun _ s₄ h₄ => wpC_pure (wpC_pure ⟨rfl, h₄⟩)) fun _ _ h' => h')) fun _ _ h' => h'))) fun _ _ h' => h')
theorem lastC1 {elt target iter : Expr} {scope : Scope} {pos : Pos} {it acc : Value} {P : Shared → Prop}
    (h : wpAny (model prog w) A (pyNext it) (fun r s₁ => r = none ∧ P s₁) (fun _ _ => False) s) :
    wpC (model prog w) A (compTurn (.ListComp elt [⟨target, iter, [], 0⟩] scope pos) 0 it acc env) (fun fin s' => fin = .done .next ∧ P s') (fun _ _ => False) s := by
  rw [compTurn_list1]
  refine wpC_seq (wpAny_standAt (wpC_seq (wpAny_mono h (fun r s₁ h₁ => ?_) fun _ _ z => z)))
  obtain ⟨rfl, h₁⟩ := h₁
  exact wpC_pure ⟨rfl, h₁⟩
theorem compLoopC {elt gens scope pos it acc} {d n : Nat} (J : Nat → Shared → Prop) (h0 : J 0 s)
    (turn : ∀ i s, i < n → J i s → wpC (model prog w) A (compTurn (.ListComp elt gens scope pos) d it acc env) (fun fin s' => fin = .again (.compLoop (.ListComp elt gens scope pos) d it acc env) ∧ J (i + 1) s') (fun _ _ => False) s)
    (last : ∀ s, J n s → wpC (model prog w) A (compTurn (.ListComp elt gens scope pos) d it acc env) (fun fin s' => fin = .done .next ∧ R (.ok .next) s') (fun _ _ => False) s) :
    codeC (model prog w) A (.compLoop (.ListComp elt gens scope pos) d it acc env) R s := by
  refine codeC_loop rfl rfl (fun k s => ∃ i, k = n - i ∧ i ≤ n ∧ J i s) (fun k s hI => ?_) n ⟨0, by omega, by omega, h0⟩
  rw [Around.under_of_weight rfl]
  show wpC _ A ((compTurn (.ListComp elt gens scope pos) d it acc env).onRaise (fun x => do noteFrame x env; theTreesLotGoes x)) _ _ s
  refine wpC_onRaise ?_
  obtain ⟨i, rfl, hi, hJ⟩ := hI
  by_cases he : i < n
  · refine wpC_mono (turn i s he hJ) (fun fin s' h => ?_) fun _ _ z => z
    obtain ⟨rfl, hJ'⟩ := h
    exact ⟨rfl, n - (i + 1), by omega, i + 1, rfl, by omega, hJ'⟩
  · have e : i = n := by omega
    subst e
    refine wpC_mono (last s hJ) (fun fin s' h => ?_) fun _ _ z => z
    obtain ⟨rfl, hR⟩ := h
    exact hR
end

end

/-! part Ring -/
section
/-! The plain law of the ring: what a ring with two counts holds, as a queue. -/
def RingIs (ring : Array UInt8) (sz rc wc : Int) (q : List Int) : Prop :=
  (q.length : Int) = wc - rc ∧ (ring.size : Int) = sz ∧ ∀ i : Nat, i < q.length → ((ring.getD ((rc + i).fmod sz).toNat 0).toNat : Int) = q.getD i 0
theorem fmod_pos {a b : Int} (h : 0 < b) : 0 ≤ a.fmod b ∧ a.fmod b < b := ⟨Int.fmod_nonneg_of_pos a h, Int.fmod_lt_of_pos a h⟩
theorem fmod_apart {a b n : Int} (hn : 0 < n) (h1 : a < b) (h2 : b < a + n) : a.fmod n ≠ b.fmod n := by
  rw [Int.fmod_eq_emod_of_nonneg a (by omega), Int.fmod_eq_emod_of_nonneg b (by omega)]
  intro e
  have h := Int.emod_emod_of_dvd (b - a) (Int.dvd_refl n)
  have h3 : (b - a) % n = 0 := Int.emod_eq_zero_of_dvd (Int.dvd_of_emod_eq_zero (by rw [Int.sub_emod, e]; simp))
  have h4 : (b - a) % n = b - a := Int.emod_eq_of_lt (by omega) (by omega)
  omega
theorem byte_back {x : Int} (h0 : 0 ≤ x) (h1 : x < 256) : (((x.toNat.toUInt8).toNat : Nat) : Int) = x := by
  have : x.toNat < 256 := by omega
  simp only [Nat.toUInt8, UInt8.toNat_ofNat']
  omega
theorem ring_nil {ring : Array UInt8} {sz : Int} (h : (ring.size : Int) = sz) : RingIs ring sz 0 0 [] := ⟨by simp, h, fun i hi => by simp at hi⟩
theorem ring_push {ring : Array UInt8} {sz rc wc x : Int} {q : List Int} (h : RingIs ring sz rc wc q) (h1 : 1 ≤ sz) (hroom : (q.length : Int) < sz) (hx0 : 0 ≤ x) (hx1 : x < 256) :
    RingIs (ring.setIfInBounds (wc.fmod sz).toNat x.toNat.toUInt8) sz rc (wc + 1) (q ++ [x]) := by
  obtain ⟨hl, hs, hv⟩ := h
  have hw := fmod_pos (a := wc) (b := sz) (by omega)
  refine ⟨by rw [List.length_append]; simp only [List.length_singleton]; omega, by rw [Array.size_setIfInBounds]; exact hs, fun i hi => ?_⟩
  rw [List.length_append, List.length_singleton] at hi
  have hi' := fmod_pos (a := rc + i) (b := sz) (by omega)
  by_cases he : i < q.length
  · have hne : (wc.fmod sz).toNat ≠ ((rc + i).fmod sz).toNat := by
      intro e
      exact fmod_apart (a := rc + i) (b := wc) (n := sz) (by omega) (by omega) (by omega) (by omega)
    have e1 : (ring.setIfInBounds (wc.fmod sz).toNat x.toNat.toUInt8).getD ((rc + i).fmod sz).toNat 0 = ring.getD ((rc + i).fmod sz).toNat 0 := by
      rw [Array.getD_eq_getD_getElem?, Array.getD_eq_getD_getElem?, Array.getElem?_setIfInBounds_ne hne]
    rw [e1, hv i he]
    simp [List.getD_eq_getElem?_getD, List.getElem?_append_left he]
  · have ei : (rc + i : Int) = wc := by omega
    have eq : i = q.length := by omega
    rw [ei]
    have e1 : (ring.setIfInBounds (wc.fmod sz).toNat x.toNat.toUInt8).getD (wc.fmod sz).toNat 0 = x.toNat.toUInt8 := by
      have : (wc.fmod sz).toNat < ring.size := by omega
      simp [Array.getD_eq_getD_getElem?, this]
    rw [e1, byte_back hx0 hx1, eq]
    simp [List.getD_eq_getElem?_getD]
theorem ring_head {ring : Array UInt8} {sz rc wc x : Int} {q : List Int} (h : RingIs ring sz rc wc (x :: q)) : ((ring.getD (rc.fmod sz).toNat 0).toNat : Int) = x := by
  have := h.2.2 0 (by simp)
  simpa using this
theorem ring_pop {ring : Array UInt8} {sz rc wc x : Int} {q : List Int} (h : RingIs ring sz rc wc (x :: q)) : RingIs ring sz (rc + 1) wc q := by
  obtain ⟨hl, hs, hv⟩ := h
  refine ⟨by simp at hl; omega, hs, fun i hi => ?_⟩
  have := hv (i + 1) (by simpa using hi)
  have e : (rc + 1 + i : Int) = rc + ((i + 1 : Nat) : Int) := by push_cast; omega
  rw [e, this]
  simp
theorem RingIs.size' {ring : Array UInt8} {sz rc wc : Int} {q : List Int} (h : RingIs ring sz rc wc q) : (ring.size : Int) = sz := h.2.1

end

/-! part Cells -/
section
/-- what a bytes iterator's cell holds -/
def ItO (o : Obj) (b : Array UInt8) (t : Tok) (i : Nat) : Prop := o.cls = .type "bytes_iterator" ∧ o.data = .fields #[.bytes b t, .int i 0]
theorem fr_set {h₀ h h' : Heap} {L I : Addr} {m : Str → Option Value} (F : Fr h₀ L h m) (hs : Heap.SameBut I h h') (hn : I ≠ L) (h0 : h₀.get? I = none) : Fr h₀ L h' m :=
  ⟨F.ns.sameBut hs (Ne.symm hn), fun b ob e => (hs.2 b (fun q => by rw [q, h0] at e; cases e)).trans (F.keep b ob e), F.above⟩
theorem fr_ext {h₀ h h' : Heap} {L I : Addr} {m : Str → Option Value} (F : Fr h₀ L h m) (hs : Heap.ExtBut I h h') (hn : I ≠ L) (h0 : h₀.get? I = none) : Fr h₀ L h' m := by
  obtain ⟨oL, a1, a2, hL, a3⟩ := F.ns
  exact ⟨⟨oL, a1, a2, hs _ _ (Ne.symm hn) hL, a3⟩, fun b ob e => hs b ob (fun q => by rw [q, h0] at e; cases e) (F.keep b ob e), F.above⟩
theorem news_ext {h₀ h h' : Heap} {L I : Addr} {news : List (Addr × Obj)} (N : News h₀ L h news) (hs : Heap.ExtBut I h h') (hn : ∀ z ∈ news, z.1 ≠ I) : News h₀ L h' news :=
  fun p hp => ⟨hs _ _ (hn p hp) (N p hp).1, (N p hp).2⟩
theorem off_map {l l' : List (Addr × Obj)} {I : Addr} (h : ∀ z ∈ l, z.1 ≠ I) (e : l.map (·.1) = l'.map (·.1)) : ∀ z ∈ l', z.1 ≠ I := by
  intro z hz
  have : z.1 ∈ l.map (·.1) := by rw [e]; exact List.mem_map.mpr ⟨z, hz, rfl⟩
  obtain ⟨y, hy, ey⟩ := List.mem_map.mp this
  exact ey ▸ h y hy
theorem news_tail {h₀ h : Heap} {L : Addr} {p : Addr × Obj} {news : List (Addr × Obj)} (N : News h₀ L h (p :: news)) : News h₀ L h news := fun q hq => N q (.tail _ hq)
theorem list_lenN {prog : Program} {w : World} {A : Around} {E : Value → Shared → Prop} {s : Shared} {h₀ : Heap} {L D : Addr} {news : List (Addr × Obj)} {vs : List Value} {ns : List Int} {n : Nat} {Q : Value → Shared → Prop}
    (N : News h₀ L s.heap news) (hm : (D, W.listOf (List.toArray vs) n) ∈ news) (hI : IntsAre vs ns) (hf : ns.length ≤ 1000) (h : Q (.int (ns.length : Nat) (s.toks + 1)) { s with toks := s.toks + 1 + 1 }) :
    wpAny (model prog w) A (PySem.call (.builtin "len") [.ref D]) Q E s := by
  have hl : s.heap.IsList D vs.toArray := News.isList N hm
  have e : vs.toArray.size = ns.length := by simpa using hI.length
  refine Calls.call_len_list hl (by omega) ?_
  rw [e]
  exact h
theorem news_sub {h₀ h : Heap} {L : Addr} {l l' : List (Addr × Obj)} (N : News h₀ L h l') (hs : ∀ z ∈ l, z ∈ l') : News h₀ L h l := fun z hz => N z (hs z hz)
theorem sub_cons {p : Addr × Obj} {l l' : List (Addr × Obj)} (h1 : p ∈ l') (h2 : ∀ z ∈ l, z ∈ l') : ∀ z ∈ p :: l, z ∈ l' := by
  intro z hz
  rcases List.mem_cons.mp hz with rfl | hz
  · exact h1
  · exact h2 z hz
theorem sub_skip {p : Addr × Obj} {l l' : List (Addr × Obj)} (h2 : ∀ z ∈ l, z ∈ l') : ∀ z ∈ l, z ∈ p :: l' := fun z hz => .tail _ (h2 z hz)
theorem sub_nil {l' : List (Addr × Obj)} : ∀ z ∈ ([] : List (Addr × Obj)), z ∈ l' := fun _ h => nomatch h
theorem all_lt {d : Nat} : ∀ {l : List (Addr × Obj)}, AllLt d l → ∀ z ∈ l, @LT.lt Nat _ z.1 d
  | [], _, _, h => nomatch h
  | p :: l, h, z, hz => by
    rcases List.mem_cons.mp hz with rfl | hz
    · exact h.1
    · exact all_lt h.2 z hz
theorem all_lt3 {d : Nat} {a b c : Prop} {l : List (Addr × Obj)} (h : a ∧ b ∧ c ∧ AllLt d l) : ∀ z ∈ l, @LT.lt Nat _ z.1 d := all_lt h.2.2.2
theorem all_lt4 {d : Nat} {a b c e : Prop} {l : List (Addr × Obj)} (h : a ∧ b ∧ c ∧ e ∧ AllLt d l) : ∀ z ∈ l, @LT.lt Nat _ z.1 d := all_lt h.2.2.2.2
theorem off_cons {p : Addr × Obj} {l : List (Addr × Obj)} {x : Addr} (h1 : @Ne Nat p.1 x) (h2 : ∀ z ∈ l, z.1 ≠ x) : ∀ z ∈ p :: l, z.1 ≠ x := by
  intro z hz
  rcases List.mem_cons.mp hz with rfl | hz
  · exact h1
  · exact h2 z hz
/-- the ledger l without its cell p -/
inductive Rem (p : Addr × Obj) : List (Addr × Obj) → List (Addr × Obj) → Prop
  | head {r} : Rem p (p :: r) r
  | tail {q r r'} : Rem p r r' → Rem p (q :: r) (q :: r')
theorem rem_mem {p : Addr × Obj} {l l' : List (Addr × Obj)} (R : Rem p l l') : ∀ z ∈ p :: l', z ∈ l := by
  induction R with
  | head => exact fun z hz => hz
  | tail R ih =>
    intro z hz
    rcases List.mem_cons.mp hz with rfl | hz
    · exact .tail _ (ih _ (.head _))
    rcases List.mem_cons.mp hz with rfl | hz
    · exact .head _
    · exact .tail _ (ih _ (.tail _ hz))
theorem news_rem {h₀ h : Heap} {L : Addr} {p : Addr × Obj} {l l' : List (Addr × Obj)} (N : News h₀ L h l) (R : Rem p l l') : News h₀ L h (p :: l') := news_sub N (rem_mem R)
theorem news_rem2 {h₀ h : Heap} {L : Addr} {p q : Addr × Obj} {l l' l'' : List (Addr × Obj)} (N : News h₀ L h l) (R : Rem p l l') (S : Rem q l' l'') : News h₀ L h (p :: q :: l'') := by
  intro z hz
  rcases List.mem_cons.mp hz with rfl | hz
  · exact N _ (rem_mem R _ (.head _))
  · exact N _ (rem_mem R _ (.tail _ (rem_mem S _ hz)))
theorem news_rem3 {h₀ h : Heap} {L : Addr} {p q r : Addr × Obj} {l l' l'' l3 : List (Addr × Obj)} (N : News h₀ L h l) (R : Rem p l l') (S : Rem q l' l'') (U : Rem r l'' l3) : News h₀ L h (p :: q :: r :: l3) := by
  intro z hz
  rcases List.mem_cons.mp hz with rfl | hz
  · exact N _ (rem_mem R _ (.head _))
  rcases List.mem_cons.mp hz with rfl | hz
  · exact N _ (rem_mem R _ (.tail _ (rem_mem S _ (.head _))))
  · exact N _ (rem_mem R _ (.tail _ (rem_mem S _ (.tail _ (rem_mem U _ hz)))))
/-- two addresses apart, out of omega's sight -/
structure NeA (a b : Nat) : Prop where
  ne : a ≠ b
theorem pickL {zpa zpb : Prop} (zpc : zpa ∧ zpb) : zpa := zpc.1
theorem pickR {zpa zpb : Prop} (zpc : zpa ∧ zpb) : zpb := zpc.2
theorem lt_cline1 {n k a : Nat} (h : n ≤ a) (h2 : a + k < 9900) : n + k < PySem.cLine := by
  have := cLine_is
  omega
theorem lt_cline2 {n k l a : Nat} (h : n ≤ a) (h2 : a + k + l < 9900) : n + k + l < PySem.cLine := by
  have := cLine_is
  omega
theorem wr_le {n : Nat} {ni a len : Int} (h0 : ni = n) (h1 : ni = if a < len then a else len) : (n : Int) ≤ a := by
  rw [← h0, h1]
  split
  · exact Int.le_refl _
  · exact Int.not_lt.mp (by assumption)
theorem wr_a {n : Nat} {rc wc sz : Int} (h : (n : Int) ≤ sz - (wc - rc)) : wc + n - rc ≤ sz := by omega
theorem wr_b {n : Nat} {rc wc sz : Int} (h : (n : Int) ≤ sz - (wc - rc)) (h1 : rc ≤ wc) (h2 : sz ≤ 40) : wc + n ≤ wc + 64 := by omega
theorem wr_c {n : Nat} {rc wc : Int} (h1 : rc ≤ wc) : rc ≤ wc + (n : Int) := by omega
theorem nb3 {a : Int} : a ≤ a + 1 + 1 + 1 := by omega
theorem nb4 {a : Int} : a + 1 + 1 + 1 ≤ a + 4 := by omega
theorem nb5 {a : Int} {n : Nat} : a ≤ a + 1 + (n : Int) := by omega
theorem nb6 {a : Int} {n : Nat} (h : n ≤ 2) : a + 1 + (n : Int) ≤ a + 4 := by omega
theorem nb7 {c r : Int} (h : r ≤ 60) : c + ((r - 0).toNat : Int) ≤ c + 64 := by omega
theorem nb8 {c : Int} {k : Nat} (h : 0 ≤ c) : 0 ≤ c + (k : Int) := Int.add_nonneg h (Int.natCast_nonneg _)
theorem nb9 {rc wc : Int} {n : Nat} (h : (n : Int) ≤ wc - rc) : rc + (n : Int) ≤ wc := by omega
theorem nb10 {rc wc sz : Int} {n : Nat} (h : wc - rc ≤ sz) : wc - (rc + (n : Int)) ≤ sz := by omega
theorem nb11 {r : Int} {b : Nat} (h : r ≤ 60) (hb : 60 ≤ b) : (r - 0).toNat ≤ b := by omega
theorem nb12 {l : Nat} {rc wc sz : Int} (h : (l : Int) = wc - rc) (h2 : wc - rc ≤ sz) : (l : Int) ≤ sz := h ▸ h2
theorem taken_nat {ol : Nat} {a : Int} (h0 : 0 ≤ a) : ∃ n : Nat, (if a < (ol : Int) then a else (ol : Int)) = n ∧ clipAt ol a = n ∧ clipAt ol (if a < (ol : Int) then a else (ol : Int)) = n ∧ n ≤ ol ∧ (n : Int) ≤ a := by
  obtain ⟨k, rfl⟩ := Int.eq_ofNat_of_zero_le h0
  by_cases h : k < ol
  · rw [if_pos (Int.ofNat_lt.mpr h), PySem.clipAt_nat]
    exact ⟨k, rfl, Nat.min_eq_left (Nat.le_of_lt h), Nat.min_eq_left (Nat.le_of_lt h), Nat.le_of_lt h, Int.le_refl _⟩
  · rw [if_neg (fun q => h (Int.ofNat_lt.mp q)), PySem.clipAt_nat, PySem.clipAt_nat]
    exact ⟨ol, rfl, Nat.min_eq_right (Nat.not_lt.mp h), Nat.min_self _, Nat.le_refl _, Int.ofNat_le.mpr (Nat.not_lt.mp h)⟩
theorem tk_n {n l c : Nat} (hc : c = n) (hl : min n l = n) : ((min c l : Nat) : Int) = n := by rw [hc, hl]
theorem tk_eq {n l c : Nat} (hc : c = n) (hl : min n l = n) (h : ((min c l : Nat) : Int) = (l : Int)) : n = l := by
  rw [hc, hl] at h
  exact Int.ofNat.inj h
theorem tk_ne {n l c : Nat} (hc : c = n) (hl : min n l = n) (h : ¬ ((min c l : Nat) : Int) = (l : Int)) : ¬ n = l := fun e => h (by rw [hc, hl, e])
/-- branches that go on alike are joined -/
def JoinQ (h₀ : Heap) (L : Addr) (m : Str → Option Value) (led : List (Addr × Obj)) (P : Prop) (s : Shared) (Q : Flow → Shared → Prop) (fl : Flow) (s' : Shared) : Prop :=
  (fl = .next → P ∧ ∃ h tk, s' = { s with heap := h, toks := tk } ∧ Fr h₀ L h m ∧ News h₀ L h led) ∧ (fl ≠ .next → Q fl s')
theorem merge_if {M : Model} {A : Around} {t : Sem Flow} {Q : Flow → Shared → Prop} {E : Value → Shared → Prop} {s : Shared} {h₀ : Heap} {L : Addr} {m : Str → Option Value} {led : List (Addr × Obj)} {P : Prop} (_ : Fr h₀ L s.heap m) (_ : News h₀ L s.heap led)
    (first : wpAny M A t (JoinQ h₀ L m led P s Q) E s) (rest : ∀ h tk, P → Fr h₀ L h m → News h₀ L h led → Q .next { s with heap := h, toks := tk }) : wpAny M A t Q E s :=
  wpAny_mono first (fun fl s' q => by
    cases fl with
    | next =>
      obtain ⟨p, h, tk, rfl, F, N⟩ := q.1 rfl
      exact rest h tk p F N
    | _ => exact q.2 (by intro x; cases x)) fun _ _ x => x
theorem join_next {h₀ : Heap} {L : Addr} {m : Str → Option Value} {led : List (Addr × Obj)} {P : Prop} {s : Shared} {Q : Flow → Shared → Prop} {h : Heap} {tk : Nat} (F : Fr h₀ L h m) (N : News h₀ L h led) (p : P) : JoinQ h₀ L m led P s Q .next { s with heap := h, toks := tk } :=
  ⟨fun _ => ⟨p, h, tk, rfl, F, N⟩, fun e => absurd rfl e⟩
theorem join_ret {h₀ : Heap} {L : Addr} {m : Str → Option Value} {led : List (Addr × Obj)} {P : Prop} {s s' : Shared} {Q : Flow → Shared → Prop} {v : Value} (q : Q (.ret v) s') : JoinQ h₀ L m led P s Q (.ret v) s' :=
  ⟨fun e => (nomatch e), fun _ => q⟩
abbrev pdO (w : World) (id sz : Int) (r : Addr) (k1 k2 k3 k4 k5 k6 k7 t1 t2 : Tok) (vr vw : Value) (ro wo : Bool) : Obj := dictOf [⟨PyData.keyHash w.params (Str.ofString "ident"), .str (Str.ofString "ident") k1, .int id t1⟩, ⟨PyData.keyHash w.params (Str.ofString "size"), .str (Str.ofString "size") k2, .int sz t2⟩, ⟨PyData.keyHash w.params (Str.ofString "ring"), .str (Str.ofString "ring") k3, .ref r⟩, ⟨PyData.keyHash w.params (Str.ofString "read_count"), .str (Str.ofString "read_count") k4, vr⟩, ⟨PyData.keyHash w.params (Str.ofString "write_count"), .str (Str.ofString "write_count") k5, vw⟩, ⟨PyData.keyHash w.params (Str.ofString "read_open"), .str (Str.ofString "read_open") k6, .bool ro⟩, ⟨PyData.keyHash w.params (Str.ofString "write_open"), .str (Str.ofString "write_open") k7, .bool wo⟩] 7
abbrev tdO (w : World) (tsz made : Int) (j1 j2 j3 u1 u2 : Tok) (tp : Addr) : Obj := dictOf [⟨PyData.keyHash w.params (Str.ofString "size"), .str (Str.ofString "size") j1, .int tsz u1⟩, ⟨PyData.keyHash w.params (Str.ofString "made"), .str (Str.ofString "made") j2, .int made u2⟩, ⟨PyData.keyHash w.params (Str.ofString "pipes"), .str (Str.ofString "pipes") j3, .ref tp⟩] 3
theorem news_rem2D {prog : Program} {w : World} {h₀ h : Heap} {L od q : Addr} {oo qo : Obj} {v1 v3 v4 : Value} {l l1 l2 : List (Addr × Obj)} (N : News h₀ L h l) (R1 : Rem (od, oo) l l1)
    (_ : oo.IsDictOf (PySem.strKind prog w) [(Str.ofString "size", v1), (Str.ofString "queue", .ref q), (Str.ofString "reads", v3), (Str.ofString "writes", v4)]) (R2 : Rem (q, qo) l1 l2) : News h₀ L h ((od, oo) :: (q, qo) :: l2) := news_rem2 N R1 R2

end

/-! part ExtB -/
section
open PySem.Calls
theorem ints_by : ∀ (l : List Value) (ns : List Int), l.length = ns.length → (∀ (j : Nat) (v : Value), l[j]? = some v → ∃ n t, ns[j]? = some n ∧ v = Value.int n t) → IntsAre l ns
  | [], [], _, _ => .nil
  | v :: l, n :: ns, e, h => by
    obtain ⟨n', t, h1, rfl⟩ := h 0 v rfl
    cases h1
    exact .cons n t (ints_by l ns (by simpa using e) fun j v hj => h (j + 1) v hj)
theorem ints_walk {prog : Program} {w : World} {A : Around} (hh : A.handled = none) (I : Addr) (b : Array UInt8) (t : Tok) (ns : List Int) :
    Walks prog w A I [I] [I] (ns.length + b.size) (fun i v => ∃ n t, (ns ++ KBw.bInts b)[i]? = some n ∧ v = Value.int n t) (fun i h => ns.length ≤ i ∧ KBw.IsBytesIter h I b t (i - ns.length)) where
  sub := fun _ hb => hb
  frame := fun i h h' st hk => ⟨st.1, (KBw.walks (prog := prog) (w := w) hh I b t).frame _ h h' st.2 hk⟩
  item := fun i s Q E hi st hQ => (KBw.walks (prog := prog) (w := w) hh I b t).item (i - ns.length) s Q E (by have := st.1; omega) st.2 fun v h' tk hP st' hs => hQ v h' tk (by
      obtain ⟨c, u, hc, rfl⟩ := hP
      exact ⟨_, u, by rw [List.getElem?_append_right st.1]; exact KBw.ints_get hc, rfl⟩) ⟨by have := st.1; omega, by rw [show i + 1 - ns.length = i - ns.length + 1 by have := st.1; omega]; exact st'⟩ hs
  done := fun s Q E st hQ => (KBw.walks (prog := prog) (w := w) hh I b t).done s Q E (by have := st.2; rw [Nat.add_sub_cancel_left] at this; exact this) hQ
  self := fun i s Q E st hQ => (KBw.walks (prog := prog) (w := w) hh I b t).self _ s Q E st.2 hQ
theorem ext_bytes {prog : Program} {w : World} {A : Around} {E : Value → Shared → Prop} {s : Shared} {h₀ : Heap} {L q : Addr} {m : Str → Option Value} {rest : List (Addr × Obj)} {qv : List Value} {nq : Nat} {qn ks : List Int} {b : Array UInt8} {t : Tok}
    {Q : Value → Shared → Prop} (hh : A.handled = none) (F : Fr h₀ L s.heap m) (N : News h₀ L s.heap ((q, W.listOf qv.toArray nq) :: rest)) (hno : ∀ z ∈ rest, z.1 ≠ q) (hI : IntsAre qv qn) (hk : KBw.bInts b = ks) (hfit : qn.length + ks.length ≤ 1000)
    (h : ∀ h' tk qv' nq', Fr h₀ L h' m → News h₀ L h' ((q, W.listOf (List.toArray qv') nq') :: rest) → IntsAre qv' (qn ++ ks) → Q .none { s with heap := h', toks := tk }) :
    wpAny (model prog w) A (call (.builtin "list.extend") [.ref q, .bytes b t]) Q E s := by
  have hN := N _ (.head _)
  have hsz := KBw.ints_length b
  rw [hk] at hsz
  have hS : s.heap.get? q = some { cls := .type "list", data := .seq qv.toArray nq } := hN.1
  refine wpAny_call (codeAny_call_builtin PySem.F.slot_list_extend.plain PySem.F.entry_list_extend (PySem.F.slot_list_extend.check _ _ _ _ _ _ _ _ (⟨_, hS, rfl⟩ : s.TypeIs (.ref q) "list") (PySem.F.args_list_extend_2 _ _) ?_))
  show wpAny _ A.in1 (Builtin.List.listExtendWith (.ref q) (.bytes b t) .none) _ _ s
  have hSI : q ≠ s.heap.objs.size := Nat.ne_of_lt (Heap.lt_size hS)
  have hSf : q ∉ [s.heap.objs.size] := fun hm => hSI (List.mem_singleton.mp hm)
  unfold Builtin.List.listExtendWith
  refine wpAny_bind (wpAny_typeOf (T := "bytes") (v := .bytes b t) rfl ?_)
  have h1 : Builtin.List.listSameRef (.ref q) (.bytes b t) = false := rfl
  have h2 : (Value.type "bytes" == Value.type "list") = false := by decide
  have h3 : (Value.type "bytes" == Value.type "tuple") = false := by decide
  simp only [h1, h2, h3, Bool.or_false, Bool.false_eq_true, if_false]
  refine wpAny_bind (KBw.pyIter_bytes ?_)
  refine wpAny_bind (wpAny_holding ?_)
  unfold Builtin.List.listLengthHint
  refine wpAny_bind (wpAny_specialOf (T := "bytes") (v := .bytes b t) rfl FB.slot_bytes_len.lookup ?_)
  wp_delta
  refine wpAny_bind (wpAny_isInstance (T := "bytes") (v := .bytes b t) (b := true) rfl (by rw [isSubtype_type]; kernel_rfl) ?_)
  show wpAny _ _ (typeOf (Value.bytes b t) >>= _) _ _ _
  refine wpAny_bind (wpAny_typeOf (T := "bytes") (v := .bytes b t) rfl ?_)
  refine wpAny_pure ?_
  rw [if_neg (by decide)]
  have W := ints_walk (prog := prog) (w := w) (A := A.in1) hh s.heap.objs.size b t qn
  have hqn : qv.length = qn.length := hI.length
  refine wpAny_pure ⟨plainId_quiet PySem.F.plain_extend_loop _, codeAny_extend_loopS W.toS (by rw [sizeLine_eq]; omega) q hSf _ b.size qn.length _ qv.toArray _ (by omega) (by omega) ⟨Nat.le_refl _, by rw [Nat.sub_self]; exact ⟨_, Heap.get?_push_size _ rfl, rfl, rfl⟩⟩ (Heap.get?_push_of_some _ hS) ⟨by simpa using hqn, ?_⟩ fun s' acc' c' hm hS' hacc => ?_⟩
  · intro j v hj
    have hj' : qv[j]? = some v := by simpa using hj
    have hlt : j < qn.length := by rw [← hqn]; exact (List.getElem?_eq_some_iff.mp hj').1
    obtain ⟨u, hx⟩ := hI.get j qn[j] (by simp [hlt])
    rw [hj'] at hx
    exact ⟨qn[j], u, by rw [List.getElem?_append_left hlt]; simp [hlt], by simpa using hx⟩
  · rw [Moved.eq_with hm]
    have keep : ∀ a o, a ≠ q → s.heap.get? a = some o → s'.heap.get? a = some o := fun a o ha e => hm.heap a o (fun hmem => by
      rcases List.mem_cons.mp hmem with e' | hmem
      · exact ha e'
      · exact absurd (Heap.lt_size e) (by rw [List.mem_singleton.mp hmem]; exact Nat.lt_irrefl _)) (Heap.get?_push_of_some _ e)
    refine h s'.heap s'.toks acc'.toList c' (fr_ext F (fun a o ha e => keep a o ha e) hN.2.1 hN.2.2) ?_ ?_
    · intro z hz
      rcases List.mem_cons.mp hz with rfl | hz
      · exact ⟨by simpa using hS', hN.2⟩
      · exact ⟨keep _ _ (hno z hz) (N z (.tail _ hz)).1, (N z (.tail _ hz)).2⟩
    · subst hk
      refine ints_by _ _ ?_ fun j v hj => hacc.2 j v (by simpa using hj)
      have := hacc.1
      simp only [Array.length_toList, List.length_append]
      omega
theorem news_swap {h₀ h : Heap} {L : Addr} {p q : Addr × Obj} {l : List (Addr × Obj)} (N : News h₀ L h (p :: q :: l)) : News h₀ L h (q :: p :: l) := by
  intro z hz
  rcases List.mem_cons.mp hz with rfl | hz
  · exact N _ (.tail _ (.head _))
  rcases List.mem_cons.mp hz with rfl | hz
  · exact N _ (.head _)
  · exact N _ (.tail _ (.tail _ hz))
theorem ext_bytes2 {prog : Program} {w : World} {A : Around} {E : Value → Shared → Prop} {s : Shared} {h₀ : Heap} {L q : Addr} {m : Str → Option Value} {p : Addr × Obj} {rest : List (Addr × Obj)} {qv : List Value} {nq : Nat} {qn ks : List Int} {b : Array UInt8} {t : Tok}
    {Q : Value → Shared → Prop} (hh : A.handled = none) (F : Fr h₀ L s.heap m) (N : News h₀ L s.heap (p :: (q, W.listOf qv.toArray nq) :: rest)) (hp : p.1 ≠ q) (hno : ∀ z ∈ rest, z.1 ≠ q) (hI : IntsAre qv qn) (hk : KBw.bInts b = ks) (hfit : qn.length + ks.length ≤ 1000)
    (h : ∀ h' tk qv' nq', Fr h₀ L h' m → News h₀ L h' (p :: (q, W.listOf (List.toArray qv') nq') :: rest) → IntsAre qv' (qn ++ ks) → Q .none { s with heap := h', toks := tk }) :
    wpAny (model prog w) A (call (.builtin "list.extend") [.ref q, .bytes b t]) Q E s :=
  ext_bytes hh F (news_swap N) (fun z hz => by rcases List.mem_cons.mp hz with rfl | hz; exact hp; exact hno z hz) hI hk hfit fun h' tk qv' nq' F' N' hI' => h h' tk qv' nq' F' (news_swap N') hI'

end

/-! part TupEq -/
section
section
open PySem.MeetsSeq PySem.SeqAt
theorem eqGives_bytes (a b : Array UInt8) (t u : Tok) : EqGives (.bytes a t) (.bytes b u) (a.toList == b.toList) := by
  intro prog w A E s Q h
  unfold eqBool
  refine wpAny_holding ?_
  refine wpAny_ite_split (fun hab => ?_) (fun hab => ?_)
  · have e : a = b := by have := eq_of_beq hab; injection this
    subst e
    exact wpAny_bind (wpAny_rule (wpAny_pure (by simpa using h)))
  · exact wpAny_bind (richCompare_gives (typeIs_bytes s a t) (typeIs_bytes s b u) FB.slot_bytes_eq FB.entry_bytes_eq (FB.args_bytes_eq_2 _ _) (gives_bytes_eq a b t u) (by simp [Made.takes]) (wpAny_truthy_bool h))
theorem News.isTup {h₀ h : Heap} {L a : Addr} {news : List (Addr × Obj)} {items : Array Value} (N : News h₀ L h news) (hm : (a, { cls := .type "tuple", data := .seq items }) ∈ news) : h.IsTuple a items :=
  ⟨_, (N _ hm).1, rfl, _, rfl⟩
variable {prog : Program} {w : World} {A : Around} {E : Value → Shared → Prop} {s : Shared} {h₀ : Heap} {L : Addr} {news : List (Addr × Obj)}
theorem tup_eqBI {D D2 : Addr} {a b : Array UInt8} {i j : Int} {ta tb tc td : Tok} {Q : Value → Shared → Prop} (N : News h₀ L s.heap news)
    (m1 : (D, { cls := .type "tuple", data := .seq #[.bytes a ta, .int i tb] }) ∈ news) (m2 : (D2, { cls := .type "tuple", data := .seq #[.bytes b tc, .int j td] }) ∈ news) (hu : A.units < cLine)
    (h : Q (.bool (a.toList == b.toList && i == j)) s) : wpAny (model prog w) A (compareOp .Eq (.ref D) (.ref D2)) Q E s := by
  refine eq_tupleAt (e := fun k => if k = 0 then a.toList == b.toList else i == j) (News.isTup N m1) (News.isTup N m2) hu (fun k h1 h2 => ?_) ?_
  · match k, h1, h2 with
    | 0, _, _ => exact (eqGives_bytes a b ta tc).at _ _
    | 1, _, _ => exact (EqGives.int i j tb td).at _ _
    | k + 2, h1, _ => exact absurd h1 (by simp)
  · have e : ((List.range (min 2 2)).all (fun k => if k = 0 then a.toList == b.toList else i == j) && ((2 : Nat) == 2)) = (a.toList == b.toList && i == j) := by
      simp [List.range_succ]
    exact cast (congrArg (fun z => Q (.bool z) s) e.symm) h
end
theorem news_rem6 {h₀ h : Heap} {L : Addr} {p1 p2 p3 p4 p5 p6 : Addr × Obj} {l l1 l2 l3 l4 l5 l6 : List (Addr × Obj)} (N : News h₀ L h l) (R1 : Rem p1 l l1) (R2 : Rem p2 l1 l2) (R3 : Rem p3 l2 l3) (R4 : Rem p4 l3 l4) (R5 : Rem p5 l4 l5) (R6 : Rem p6 l5 l6) :
    News h₀ L h (p1 :: p2 :: p3 :: p4 :: p5 :: p6 :: l6) := by
  have N3 := news_rem3 N R1 R2 R3
  intro z hz
  rcases List.mem_cons.mp hz with rfl | hz
  · exact N3 _ (.head _)
  rcases List.mem_cons.mp hz with rfl | hz
  · exact N3 _ (.tail _ (.head _))
  rcases List.mem_cons.mp hz with rfl | hz
  · exact N3 _ (.tail _ (.tail _ (.head _)))
  exact news_rem3 (news_tail (news_tail (news_tail N3))) R4 R5 R6 z hz
theorem pick01 {r : Int} (h0 : 0 ≤ r) (h1 : r < 2) : ([0, 1] : List Int).getD r.toNat 0 = 0 ∨ ([0, 1] : List Int).getD r.toNat 0 = 1 := by
  have : r = 0 ∨ r = 1 := by omega
  rcases this with rfl | rfl
  · exact .inl rfl
  · exact .inr rfl

end

/-! part Tups -/
section
section
open PySem.MeetsSeq PySem.SeqAt PySem.SeqRoads2
/-- the tuple that a channel is told by -/
def tupO (k : Int × Int) (a b c : Tok) : Obj := { cls := .type "tuple", data := .seq #[.str (Str.ofString "pipe") a, .int k.1 b, .int k.2 c] }
/-- the list vs of the told channels ks, their cells in the ledger -/
inductive TC (nw : List (Addr × Obj)) : List (Int × Int) → List Value → Prop
  | nil : TC nw [] []
  | snoc {ks vs k D a b c} : TC nw ks vs → (D, tupO k a b c) ∈ nw → TC nw (ks ++ [k]) (vs ++ [.ref D])
theorem TC.mono {nw nw' : List (Addr × Obj)} {ks : List (Int × Int)} {vs : List Value} (h : TC nw ks vs) (hs : ∀ z ∈ nw, z ∈ nw') : TC nw' ks vs := by
  induction h with
  | nil => exact .nil
  | snoc _ hm ih => exact .snoc ih (hs _ hm)
theorem TC.length {nw : List (Addr × Obj)} {ks : List (Int × Int)} {vs : List Value} (h : TC nw ks vs) : vs.length = ks.length := by
  induction h with
  | nil => rfl
  | snoc _ _ ih => simp [ih]
theorem TC.get {nw : List (Addr × Obj)} {ks : List (Int × Int)} {vs : List Value} (h : TC nw ks vs) : ∀ (j : Nat) (v : Value), vs[j]? = some v → ∃ k D a b c, ks[j]? = some k ∧ v = .ref D ∧ (D, tupO k a b c) ∈ nw := by
  induction h with
  | nil => intro j v hj; simp at hj
  | @snoc ks vs k D a b c h hm ih =>
    intro j v hj
    rcases Nat.lt_trichotomy j vs.length with h1 | h1 | h1
    · rw [List.getElem?_append_left h1] at hj
      obtain ⟨k', D', a', b', c', e1, e2, e3⟩ := ih j v hj
      exact ⟨k', D', a', b', c', by rw [List.getElem?_append_left (by rw [← h.length]; exact h1)]; exact e1, e2, e3⟩
    · subst h1
      simp at hj
      exact ⟨k, D, a, b, c, by rw [h.length]; simp, hj.symm, hm⟩
    · rw [List.getElem?_eq_none (by simp; omega)] at hj
      cases hj
variable {prog : Program} {w : World} {A : Around} {E : Value → Shared → Prop} {s : Shared} {h₀ : Heap} {L : Addr} {news : List (Addr × Obj)}
theorem all3 (e : Nat → Bool) : (List.range (min 3 3)).all e = (e 0 && (e 1 && e 2)) := by simp [List.range_succ]
theorem tup_eqAt {D D2 : Addr} {k k2 : Int × Int} {a b c a2 b2 c2 : Tok} (N : News h₀ L s.heap news) (m1 : (D, tupO k a b c) ∈ news) (m2 : (D2, tupO k2 a2 b2 c2) ∈ news) (hu : A.units < cLine) :
    EqAt A s (.ref D) (.ref D2) (k == k2) := by
  by_cases hD : D = D2
  · subst hD
    have e := (N _ m1).1.symm.trans (N _ m2).1
    injection e with e
    unfold tupO at e
    simp only [Obj.mk.injEq, Data.seq.injEq, true_and, and_true] at e
    simp at e
    have ek : k = k2 := Prod.ext e.2.1.1 e.2.2.1
    subst ek
    simpa using EqAt.same (A := A) (s := s) (.ref D)
  · have R := RcAt.tuples (A := A) (s := s) (l := D) (b := D2) (e := fun j => if j = 0 then true else if j = 1 then k.1 == k2.1 else k.2 == k2.2) (News.isTup N m1) (News.isTup N m2) hu (fun j h1 h2 => by
      match j, h1, h2 with
      | 0, _, _ => exact by simpa using (eqGives_str (Str.ofString "pipe") (Str.ofString "pipe") a a2).at A.in1 s
      | 1, _, _ => exact (EqGives.int k.1 k2.1 b b2).at _ _
      | 2, _, _ => exact (EqGives.int k.2 k2.2 c c2).at _ _
      | j + 3, h1, _ => exact absurd h1 (by simp))
    refine EqAt.of_refs hD (cast (congrArg (fun z => RcAt A s (.ref D) (.ref D2) z) ?_) R)
    show ((List.range (min 3 3)).all _ && (3 == 3)) = (k == k2)
    rw [all3]
    obtain ⟨i, j⟩ := k
    obtain ⟨i2, j2⟩ := k2
    rw [Bool.eq_iff_iff]
    simp
/-- two told lists of the same channels are equal -/
theorem told_eq {D D2 : Addr} {ks : List (Int × Int)} {vs vs2 : List Value} {n n2 : Nat} {Q : Value → Shared → Prop} (N : News h₀ L s.heap news) (h1 : TC news ks vs) (h2 : TC news ks vs2) (m1 : (D, W.listOf vs.toArray n) ∈ news) (m2 : (D2, W.listOf vs2.toArray n2) ∈ news)
    (hu : A.units + 2 < cLine) (h : Q (.bool true) s) : wpAny (model prog w) A (compareOp .Eq (.ref D) (.ref D2)) Q E s := by
  refine eq_listAt (e := fun _ => true) (News.isList N m1) (News.isList N m2) (by simp [h1.length, h2.length]) (by omega) (fun j a b => ?_) (cast (congrArg (fun z => Q (.bool z) s) (List.all_eq_true.mpr fun _ _ => rfl).symm) h)
  obtain ⟨k, X, x1, x2, x3, e1, e2, e3⟩ := h1.get j vs[j] (by simp [List.getElem?_eq_getElem (by simpa using a)])
  obtain ⟨k', Y, y1, y2, y3, f1, f2, f3⟩ := h2.get j vs2[j] (by simp [List.getElem?_eq_getElem (by simpa using b)])
  rw [e1] at f1
  cases f1
  have := tup_eqAt (A := A.in1) N e3 f3 (by simp only [units_in1]; omega)
  simpa [e2, f2] using this
/-- a told channel is not among the earlier ones -/
theorem told_in {D : Addr} {ks : List (Int × Int)} {vs : List Value} {n j : Nat} {v : Value} {Q : Value → Shared → Prop} (N : News h₀ L s.heap news) (h1 : TC news ks vs) (hnd : ks.Nodup) (m1 : (D, W.listOf (vs.take j).toArray n) ∈ news) (hv : vs[j]? = some v)
    (hu : A.units + 2 < cLine) (h : Q (.bool false) s) : wpAny (model prog w) A (compareOp .In v (.ref D)) Q E s := by
  obtain ⟨k, X, x1, x2, x3, e1, rfl, e3⟩ := h1.get j v hv
  refine in_listAt (e := fun _ => false) (News.isList N m1) (fun y hy => ?_) ?_
  · have hy' : y ∈ vs.take j := by simpa using hy
    obtain ⟨i, hi, ei⟩ := List.mem_iff_getElem.mp hy'
    have hij : i < j := by rw [List.length_take] at hi; omega
    have hvi : vs[i]? = some y := by
      rw [List.getElem_take] at ei
      rw [← ei]
      exact List.getElem?_eq_getElem _
    obtain ⟨k', Y, y1, y2, y3, f1, rfl, f3⟩ := h1.get i y hvi
    have hne : k' ≠ k := fun e => by
      subst e
      have li : i < ks.length := (List.getElem?_eq_some_iff.mp f1).1
      have lj : j < ks.length := (List.getElem?_eq_some_iff.mp e1).1
      have e2 : ks[i] = ks[j] := by
        rw [(List.getElem?_eq_some_iff.mp f1).2, (List.getElem?_eq_some_iff.mp e1).2]
      exact absurd ((List.getElem_inj hnd).mp e2) (by omega)
    have := tup_eqAt (A := A.in1) N f3 e3 (by simp only [units_in1]; omega)
    rw [beq_eq_false_iff_ne.mpr hne] at this
    exact this
  · exact cast (congrArg (fun z => Q (.bool z) s) (show ((vs.take j).toArray.any fun _ => false) = false by simp).symm) h
end

end

/-! part Net -/
section
section
open PySem.Calls LCg
variable {prog : Program} {w : World} {A : Around} {E : Value → Shared → Prop} {s : Shared} {h₀ : Heap} {L : Addr} {m : Str → Option Value} {env : Env}
/-- the accumulator and the block's own namespace are made -/
theorem comp_setup {scope : Scope} {cl : List (Str × Addr)} {news : List (Addr × Obj)} {K : Value → Env → Shared → Prop} (hcell : ∀ y ∈ scope.names, y.2 ≠ .cell) (hkind : scope.kind = .function)
    (F : Fr h₀ L s.heap m) (N : News h₀ L s.heap news)
    (k : ∀ D C h tk m' oC, Fr h₀ L h m → News h₀ L h ((C, oC) :: (D, lst []) :: news) → NsObj oC m' → (∀ b o, s.heap.get? b = some o → h.get? b = some o) →
      (∀ b, @LT.lt Nat _ b s.heap.objs.size → @Ne Nat b C ∧ @Ne Nat b D) → @Ne Nat C D → K (.ref D) (compEnvC scope cl C env) { s with heap := h, toks := tk }) :
    wpAny (model prog w) A (newList []) (fun acc s₃ => wpAny (model prog w) A (newFunctionEnv scope env.globals cl [] env.qual none .none (some env)) (fun cenv s₄ => K acc { cenv with scope := relabel scope env } s₄) E s₃) E s := by
  refine wpAny_newObj_type (wpAny_newFunctionEnv hcell (by intro y hy; simp at hy) (fun h₁ hn hs => ?_) hkind)
  dsimp only at hn hs ⊢
  generalize hH : s.heap.push { cls := .type "list", dict := none, data := .seq ([] : List Value).toArray } = H at hn hs ⊢
  have hC : H.objs.size = s.heap.objs.size + 1 := by rw [← hH, Heap.size_push]
  have below : ∀ b, @LT.lt Nat _ b s.heap.objs.size → @Ne Nat b H.objs.size ∧ @Ne Nat b s.heap.objs.size := fun b hb => ⟨by rw [hC]; exact Nat.ne_of_lt (Nat.lt_succ_of_lt hb), Nat.ne_of_lt hb⟩
  have hDC : @Ne Nat s.heap.objs.size H.objs.size := by rw [hC]; exact Nat.ne_of_lt (Nat.lt_succ_self _)
  have old : ∀ b o, s.heap.get? b = some o → h₁.get? b = some o := fun b o e => hs.extBut b o (below b (Heap.lt_size e)).1 (Heap.get?_push_of_some _ (hH ▸ Heap.get?_push_of_some _ e))
  have acc : h₁.get? s.heap.objs.size = some (lst []) := hs.extBut _ _ hDC (Heap.get?_push_of_some _ (hH ▸ Heap.get?_push_size _ rfl))
  have none₀ : ∀ a, s.heap.objs.size ≤ a → h₀.get? a = none := fun a ha => by
    cases e : h₀.get? a with
    | none => rfl
    | some o' => exact absurd (Heap.lt_size (F.keep a o' e)) (Nat.not_lt.mpr ha)
  obtain ⟨oC, eC, nC⟩ := ns_obj hn
  have hL : @LT.lt Nat _ L s.heap.objs.size := F.ns.lt
  refine k _ _ h₁ _ _ oC (F.keeps old) (fun p hp => ?_) nC old below (Ne.symm hDC)
  rcases List.mem_cons.mp hp with rfl | hp
  · exact ⟨eC, Ne.symm (below L hL).1, none₀ _ (by rw [hC]; exact Nat.le_succ _)⟩
  rcases List.mem_cons.mp hp with rfl | hp
  · exact ⟨acc, Ne.symm (below L hL).2, none₀ _ (Nat.le_refl _)⟩
  exact ⟨old _ _ (N p hp).1, (N p hp).2⟩
/-- the next item of the iterator I, bound to x in the block's namespace C -/
theorem comp_next {I C : Addr} {fp : List Addr} {n i : Nat} {P : Nat → Value → Prop} {St : Nat → Heap → Prop} {x : Str} {px : Pos} {m' : Str → Option Value} {oC : Obj} {news : List (Addr × Obj)} {cenv : Env} {Q : Shared → Prop}
    (Wk : Walks prog w A I fp [I] n P St) (hIo : ∀ i h, St i h → ∃ o, h.get? I = some o) (hi : i < n) (hst : St i s.heap) (F : Fr h₀ L s.heap m) (N : News h₀ L s.heap ((C, oC) :: news)) (hns : NsObj oC m')
    (hIL : L ≠ I) (hI₀ : h₀.get? I = none) (hIC : @Ne Nat C I) (hCf : C ∉ fp) (offI : ∀ p ∈ news, p.1 ≠ I) (offC : ∀ p ∈ news, p.1 ≠ C)
    (hx : cenv.kindOf x = some .local) (hl : cenv.locals = C) (hp : (cenv.scope.kind == .class || (cenv.scope.kind == .module && cenv.locals != cenv.globals)) = false)
    (k : ∀ v h tk oI oC', P i v → St (i + 1) h → NsObj oC' (fun y => if y = x then some v else m' y) → Fr h₀ L h m → News h₀ L h ((I, oI) :: (C, oC') :: news) → Q { s with heap := h, toks := tk }) :
    wpAny (model prog w) A (pyNext (.ref I)) (fun r s₁ => ∃ v, r = some v ∧ wpAny (model prog w) A (assign (.Name x px) cenv v) (fun _ s₂ => Q s₂) (fun _ _ => False) s₁) (fun _ _ => False) s := by
  subst hl
  refine Wk.item i _ _ _ hi hst fun v h₁ tk₁ hP hst₁ hk₁ => ⟨v, rfl, ?_⟩
  have hC := N _ (.head _)
  have hn : s.heap.Ns cenv.locals m' := hns.ns hC.1
  refine wpAny_assign_Name (wpAny_storeName_local hx (hn.at' fun o e => hk₁ _ o (by simpa using hIC) e) (fun h₂ hn₂ hs₂ => ?_) hp)
  have hst₂ : St (i + 1) h₂ := Wk.frame _ _ _ hst₁ fun b hb o e => hs₂.extBut b o (fun q => hCf (q ▸ hb)) e
  obtain ⟨oI, eI⟩ := hIo _ _ hst₂
  obtain ⟨oC', eC, nC⟩ := ns_obj hn₂
  refine k v h₂ _ oI oC' hP hst₂ nC ((fr_but F hk₁ hIL hI₀).change hs₂ hC.2.1 hC.2.2) fun p hp => ?_
  rcases List.mem_cons.mp hp with rfl | hp
  · exact ⟨eI, Ne.symm hIL, hI₀⟩
  rcases List.mem_cons.mp hp with rfl | hp
  · exact ⟨eC, hC.2⟩
  have z := N p (.tail _ hp)
  exact ⟨hs₂.extBut _ _ (offC p hp) (hk₁ _ _ (by simpa using offI p hp) z.1), z.2⟩
theorem comp_last {I : Addr} {fp : List Addr} {n : Nat} {P : Nat → Value → Prop} {St : Nat → Heap → Prop} {news : List (Addr × Obj)} {Q : Shared → Prop}
    (Wk : Walks prog w A I fp [I] n P St) (hst : St n s.heap) (F : Fr h₀ L s.heap m) (N : News h₀ L s.heap news) (hIL : L ≠ I) (hI₀ : h₀.get? I = none) (offI : ∀ p ∈ news, p.1 ≠ I)
    (k : ∀ h tk, Fr h₀ L h m → News h₀ L h news → Q { s with heap := h, toks := tk }) :
    wpAny (model prog w) A (pyNext (.ref I)) (fun r s₁ => r = none ∧ Q s₁) (fun _ _ => False) s :=
  Wk.done _ _ _ hst fun h tk hk => ⟨rfl, k h tk (fr_but F hk hIL hI₀) (news_but N hk offI)⟩
theorem off3_of {I C D : Addr} {news : List (Addr × Obj)} (a : ∀ p ∈ news, p.1 ≠ I) (b : ∀ p ∈ news, p.1 ≠ C) (c : ∀ p ∈ news, p.1 ≠ D) : Off3 I C D news := Off3.of fun p hp => ⟨a p hp, b p hp, c p hp⟩
/-- the accumulator takes one more -/
theorem comp_push {I C D : Addr} {oI oC : Obj} {ys : List Value} {y : Value} {news : List (Addr × Obj)} {Q : Shared → Prop} (F : Fr h₀ L s.heap m) (N : News h₀ L s.heap ((I, oI) :: (C, oC) :: (D, lst ys) :: news)) (off : Off3 I C D news)
    (hID : @Ne Nat I D) (hCD : @Ne Nat C D) (hsz : ys.length ≤ sizeLine) (k : ∀ h, Fr h₀ L h m → News h₀ L h ((I, oI) :: (C, oC) :: (D, lst (ys ++ [y])) :: news) → Q { s with heap := h }) :
    wpAny (model prog w) A (call (.builtin "list.append") [.ref D, y]) (fun _ s₄ => Q s₄) (fun _ _ => False) s := by
  have zD := N _ (.tail _ (.tail _ (.head _)))
  refine append_at (hsz := by rw [List.size_toArray]; exact hsz) zD.1 fun h₅ hs₅ hD₅ => k h₅ (F.change hs₅ zD.2.1 zD.2.2) fun p hp => ?_
  rcases List.mem_cons.mp hp with rfl | hp
  · exact ⟨hs₅.extBut _ _ hID (N _ (.head _)).1, (N _ (.head _)).2⟩
  rcases List.mem_cons.mp hp with rfl | hp
  · exact ⟨hs₅.extBut _ _ hCD (N _ (.tail _ (.head _))).1, (N _ (.tail _ (.head _))).2⟩
  rcases List.mem_cons.mp hp with rfl | hp
  · exact ⟨hD₅.trans (congrArg some (lst_snoc ys y)), zD.2⟩
  have z := N p (.tail _ (.tail _ (.tail _ hp)))
  exact ⟨hs₅.extBut _ _ (off.mem p hp).2.2 z.1, z.2⟩
/-- what one evaluation of the element hands on -/
def EltDone (h₀ : Heap) (L : Addr) (m : Str → Option Value) (s : Shared) (I C D : Addr) (oI oC oD : Obj) (T : List (Addr × Obj) → Prop) (s' : Shared) : Prop :=
  ∃ h' tk' nw', s' = { s with heap := h', toks := tk' } ∧ Fr h₀ L h' m ∧ News h₀ L h' ((I, oI) :: (C, oC) :: (D, oD) :: nw') ∧ Off3 I C D nw' ∧ T nw'
/-- a block of one clause, over clean contexts, with an invariant of the accumulator and the ledger -/
theorem blockC1 {elt iter : Expr} {x : Str} {px : Pos} {scope : Scope} {cl : List (Str × Addr)} {pos : Pos} {I : Addr} {fp : List Addr} {n : Nat} {P : Nat → Value → Prop} {St : Nat → Heap → Prop} {T : Nat → List Value → List (Addr × Obj) → Prop} {news : List (Addr × Obj)}
    {RR : Value → Addr → Result → Shared → Prop}
    (Wk : Walks prog w A I fp [I] n P St) (hsz : n ≤ sizeLine) (hIo : ∀ i h, St i h → ∃ o, h.get? I = some o)
    (hSt' : ∀ i h h' o nw ys, St (i + 1) h → h.get? I = some o → h'.get? I = some o → News h₀ L h' nw → T (i + 1) ys nw → St (i + 1) h')
    (hcell : ∀ y ∈ scope.names, y.2 ≠ .cell) (hkind : scope.kind = .function) (hx : scope.names.lookup x = some .local) (hst : St 0 s.heap) (hfp : ∀ b ∈ fp, @LT.lt Nat _ b s.heap.objs.size)
    (F : Fr h₀ L s.heap m) (N : News h₀ L s.heap news) (hIL : L ≠ I) (hI₀ : h₀.get? I = none) (off : ∀ p ∈ news, p.1 ≠ I) (hT : T 0 [] news)
    (step : ∀ i ys nw v oI C oC D m₂ h tk, i < n → T i ys nw → P i v → NsObj oC m₂ → m₂ x = some v → Fr h₀ L h m → News h₀ L h ((I, oI) :: (C, oC) :: (D, lst ys) :: nw) → Off3 I C D nw → (@Ne Nat I C ∧ @Ne Nat I D ∧ @Ne Nat C D) →
      wpC (model prog w) A (eval elt (compEnvC scope cl C env)) (fun y => EltDone h₀ L m { s with heap := h, toks := tk } I C D oI oC (lst ys) (T (i + 1) (ys ++ [y]))) (fun _ _ => False) { s with heap := h, toks := tk })
    (fin : ∀ D C h tk m' ys nw, T n ys nw → Fr h₀ L h m → News h₀ L h ((D, lst ys) :: nw) → (∀ p ∈ nw, p.1 ≠ D) → h.Ns C m' → h₀.get? C = none → C ≠ L → @Ne Nat C D → (∀ p ∈ nw, p.1 ≠ C) → RR (.ref D) C (.ok .next) { s with heap := h, toks := tk }) :
    wpAny (model prog w) A (newList []) (fun acc s₃ => wpAny (model prog w) A (newFunctionEnv scope env.globals cl [] env.qual none .none (some env)) (fun cenv s₄ =>
      codeC (model prog w) A (.compStart (.ListComp elt [⟨.Name x px, iter, [], 0⟩] scope pos) 0 (.ref I) acc { cenv with scope := relabel scope env }) (RR acc cenv.locals) s₄) E s₃) E s := by
  refine comp_setup (K := fun acc cenv s₄ => codeC (model prog w) A (.compStart (.ListComp elt [⟨.Name x px, iter, [], 0⟩] scope pos) 0 (.ref I) acc cenv) (RR acc cenv.locals) s₄) hcell hkind F N fun D C h tk m' oC F' N' nC old below hCD => ?_
  have hIf : I ∈ fp := Wk.sub I (List.mem_singleton.mpr rfl)
  have hCI : @Ne Nat C I := Ne.symm (below I (hfp I hIf)).1
  have hDI : @Ne Nat D I := Ne.symm (below I (hfp I hIf)).2
  have hCf : C ∉ fp := fun hm => (below C (hfp C hm)).1 rfl
  have hst₁ : St 0 h := Wk.frame _ _ _ hst fun b _ o e => old b o e
  have offC₀ : ∀ p ∈ news, p.1 ≠ C := fun p hp => (below _ (Heap.lt_size (N p hp).1)).1
  have offD₀ : ∀ p ∈ news, p.1 ≠ D := fun p hp => (below _ (Heap.lt_size (N p hp).1)).2
  have loop : codeC (model prog w) A (.compLoop (.ListComp elt [⟨.Name x px, iter, [], 0⟩] scope pos) 0 (.ref I) (.ref D) (compEnvC scope cl C env)) (RR (.ref D) C) { s with heap := h, toks := tk } := by
    refine compLoopC (n := n) (fun i s' => ∃ h' tk' ys nw oC m', s' = { s with heap := h', toks := tk' } ∧ ys.length = i ∧ St i h' ∧ Fr h₀ L h' m ∧ NsObj oC m' ∧ News h₀ L h' ((C, oC) :: (D, lst ys) :: nw) ∧ Off3 I C D nw ∧ T i ys nw)
      ⟨h, tk, [], news, oC, m', rfl, rfl, hst₁, F', nC, N', off3_of off offC₀ offD₀, hT⟩ ?_ ?_
    · rintro i s' hi ⟨h', tk', ys, nw, oC', m'', rfl, hyl, hst', F'', nC', N'', o3, hT'⟩
      refine turnC1 ?_
      refine comp_next (s := { s with heap := h', toks := tk' }) Wk hIo hi hst' F'' N'' nC' hIL hI₀ hCI hCf ?_ ?_ (lookup_relabel_local hx) rfl (by simp [compEnvC, relabel, hkind]) ?_
      · intro p hp
        rcases List.mem_cons.mp hp with rfl | hp
        · exact hDI
        · exact (o3.mem p hp).1
      · intro p hp
        rcases List.mem_cons.mp hp with rfl | hp
        · exact Ne.symm hCD
        · exact (o3.mem p hp).2.1
      intro v h₁ tk₁ oI oC₁ hP hst₁ nC₁ F₁ N₁
      refine wpC_mono (step i ys nw v oI C oC₁ D _ h₁ tk₁ hi hT' hP nC₁ (by simp) F₁ N₁ o3 ⟨Ne.symm hCI, Ne.symm hDI, hCD⟩) (fun y s₃ h₃ => ?_) fun _ _ e => e
      obtain ⟨h₃, tk₃, nw', rfl, F₃, N₃, o3', hT₃⟩ := h₃
      refine comp_push (s := { s with heap := h₃, toks := tk₃ }) F₃ N₃ o3' (Ne.symm hDI) hCD (by rw [hyl]; exact Nat.le_trans (Nat.le_of_lt hi) hsz) fun h₄ F₄ N₄ => ?_
      have N₅ : News h₀ L h₄ nw' := fun p hp => N₄ p (.tail _ (.tail _ (.tail _ hp)))
      exact ⟨h₄, tk₃, ys ++ [y], nw', oC₁, _, rfl, by rw [List.length_append, hyl]; rfl, hSt' i _ _ _ _ _ hst₁ (N₁ _ (.head _)).1 (N₄ _ (.head _)).1 N₅ hT₃, F₄, nC₁, fun p hp => N₄ p (.tail _ hp), o3', hT₃⟩
    · rintro s' ⟨h', tk', ys, nw, oC', m'', rfl, hyl, hst', F'', nC', N'', o3, hT'⟩
      refine lastC1 ?_
      refine comp_last (s := { s with heap := h', toks := tk' }) Wk hst' F'' N'' hIL hI₀ ?_ fun h₂ tk₂ F₂ N₂ => ?_
      · intro p hp
        rcases List.mem_cons.mp hp with rfl | hp
        · exact hCI
        rcases List.mem_cons.mp hp with rfl | hp
        · exact hDI
        · exact (o3.mem p hp).1
      exact fin D C h₂ tk₂ m'' ys nw hT' F₂ (fun p hp => N₂ p (.tail _ hp)) (fun p hp => (o3.mem p hp).2.2) (nC'.ns (N₂ _ (.head _)).1) (N₂ _ (.head _)).2.2 (N₂ _ (.head _)).2.1 hCD (fun p hp => (o3.mem p hp).2.1)
  exact compStartC (d := 0) rfl loop (Wk.self 0 _ _ _ hst₁ loop)
/-- the end of a block whose list is the expression's value -/
theorem finE {T : List Value → List (Addr × Obj) → Prop} {Q : Value → Shared → Prop} {D C : Addr} {h : Heap} {tk : Nat} {m' : Str → Option Value} {ys : List Value} {nw : List (Addr × Obj)} (hT : T ys nw) (F : Fr h₀ L h m) (N : News h₀ L h ((D, lst ys) :: nw)) (o1 : ∀ p ∈ nw, p.1 ≠ D)
    (hn : h.Ns C m') (hC₀ : h₀.get? C = none) (hCL : C ≠ L) (hCD : @Ne Nat C D) (offC : ∀ p ∈ nw, p.1 ≠ C)
    (k : ∀ D h tk ys nw, T ys nw → Fr h₀ L h m → News h₀ L h ((D, lst ys) :: nw) → (∀ p ∈ nw, p.1 ≠ D) → Q (.ref D) { s with heap := h, toks := tk }) :
    compPostC (model prog w) A E none Q (.ref D) C (.ok .next) { s with heap := h, toks := tk } := by
  refine ⟨m', hn, fun h'' hs'' => k D h'' tk ys nw hT (F.change hs'' hCL hC₀) (fun p hp => ?_) o1⟩
  refine ⟨hs''.extBut _ _ ?_ (N p hp).1, (N p hp).2⟩
  rcases List.mem_cons.mp hp with rfl | hp
  · exact Ne.symm hCD
  · exact offC p hp
/-- the end of a block whose list is bound to a local name -/
theorem finA {T : List Value → List (Addr × Obj) → Prop} {y : Str} {py : Pos} {Q : Shared → Prop} {D C : Addr} {h : Heap} {tk : Nat} {m' : Str → Option Value} {ys : List Value} {nw : List (Addr × Obj)} (hT : T ys nw) (F : Fr h₀ L h m) (N : News h₀ L h ((D, lst ys) :: nw)) (o1 : ∀ p ∈ nw, p.1 ≠ D)
    (hn : h.Ns C m') (hC₀ : h₀.get? C = none) (hCL : C ≠ L) (hCD : @Ne Nat C D) (offC : ∀ p ∈ nw, p.1 ≠ C) (hLe : env.locals = L)
    (hy : env.kindOf y = some .local) (hp : (env.scope.kind == .class || (env.scope.kind == .module && env.locals != env.globals)) = false)
    (k : ∀ D h tk ys nw, T ys nw → Fr h₀ L h (fun z => if z = y then some (.ref D) else m z) → News h₀ L h ((D, lst ys) :: nw) → (∀ p ∈ nw, p.1 ≠ D) → Q { s with heap := h, toks := tk }) :
    compPostC (model prog w) A E (some (assign (.Name y py) env)) (fun _ s' => Q s') (.ref D) C (.ok .next) { s with heap := h, toks := tk } := by
  subst hLe
  show wpAny _ A (assign (.Name y py) env (.ref D)) _ _ _
  refine wpAny_assign_Name (wpAny_storeName_local hy F.ns (fun h₂ hn₂ hs₂ => ?_) hp)
  have hL₀ : h₀.get? env.locals = none := Heap.get?_none_of_le F.above
  have F₂ : Fr h₀ env.locals h₂ (fun z => if z = y then some (.ref D) else m z) := ⟨hn₂, fun b o e => hs₂.extBut b o (fun q => by rw [q, hL₀] at e; cases e) (F.keep b o e), F.above⟩
  refine ⟨m', hn.sameBut hs₂ hCL, fun h'' hs'' => k D h'' _ ys nw hT (F₂.change hs'' hCL hC₀) (fun p hp => ?_) o1⟩
  have z : h₂.get? p.1 = some p.2 := hs₂.extBut _ _ (N p hp).2.1 (N p hp).1
  refine ⟨hs''.extBut _ _ ?_ z, (N p hp).2⟩
  rcases List.mem_cons.mp hp with rfl | hp
  · exact Ne.symm hCD
  · exact offC p hp
/-- one turn of the first of two clauses -/
theorem turnC2 {elt t1 i1 t2 i2 : Expr} {scope : Scope} {pos : Pos} {it acc : Value} {P : Shared → Prop}
    (h : wpAny (model prog w) A (pyNext it) (fun r s₁ => ∃ v, r = some v ∧ wpAny (model prog w) A (assign t1 env v) (fun _ s₂ => wpAny (model prog w) A (eval i2 env) (fun x s₃ =>
      wpAny (model prog w) A (pyIter x) (fun it2 s₄ => codeC (model prog w) A (.compStart (.ListComp elt [⟨t1, i1, [], 0⟩, ⟨t2, i2, [], 0⟩] scope pos) 1 it2 acc env) (fun r s' => r = .ok .next ∧ P s') s₄) (fun _ _ => False) s₃) (fun _ _ => False) s₂) (fun _ _ => False) s₁) (fun _ _ => False) s)
    (ht : ∀ v, letOwnedTupleGo t1 it v = pure () := by intro _; rfl) (hf : ∀ x, foldedSetIterable i2 env x = pure x := by intro _; rfl) :
    wpC (model prog w) A (compTurn (.ListComp elt [⟨t1, i1, [], 0⟩, ⟨t2, i2, [], 0⟩] scope pos) 0 it acc env) (fun fin s' => fin = .again (.compLoop (.ListComp elt [⟨t1, i1, [], 0⟩, ⟨t2, i2, [], 0⟩] scope pos) 0 it acc env) ∧ P s') (fun _ _ => False) s := by
  have e : compTurn (.ListComp elt [⟨t1, i1, [], 0⟩, ⟨t2, i2, [], 0⟩] scope pos) 0 it acc env = (standAt i1.pos >>= fun _ => pyNext it >>= fun r => match r with
      | none => pure (.done .next)
      | some v => letOwnedTupleGo t1 it v >>= fun _ => assign t1 env v >>= fun _ =>
        eval i2 env >>= fun x => standAt i2.pos >>= fun _ => foldedSetIterable i2 env x >>= fun x => holding [x] (pyIter x) >>= fun it2 =>
          runOwn (.compStart (.ListComp elt [⟨t1, i1, [], 0⟩, ⟨t2, i2, [], 0⟩] scope pos) 1 it2 acc env) env >>= fun _ =>
          again (.compLoop (.ListComp elt [⟨t1, i1, [], 0⟩, ⟨t2, i2, [], 0⟩] scope pos) 0 it acc env)) := by rfl
  rw [e]
  refine wpC_seq (wpAny_standAt (wpC_seq (wpAny_mono h (fun r s₁ h₁ => ?_) fun _ _ z => z)))
  obtain ⟨v, rfl, h₁⟩ := h₁
  refine wpC_seq (wpAny_of_eq (ht v) ?_)
  refine wpC_seq (wpAny_mono h₁ (fun _ s₂ h₂ => wpC_seq (wpAny_mono h₂ (fun x s₃ h₃ => wpC_seq (wpAny_standAt (wpC_seq (wpAny_of_eq (hf x) (wpC_seq (wpAny_holding (wpAny_mono h₃ (fun it2 s₄ h₄ => ?_) fun _ _ h' => h'))))))) fun _ _ h' => h')) fun _ _ h' => h')
  refine wpC_bind (runOwnC (codeC_mono h₄ fun r s' hr => ?_))
  obtain ⟨rfl, hP⟩ := hr
  exact wpC_pure ⟨rfl, hP⟩
/-- one turn of the second of two clauses -/
theorem turnC2b {elt t1 i1 t2 i2 : Expr} {scope : Scope} {pos : Pos} {it acc : Value} {P : Shared → Prop}
    (h : wpAny (model prog w) A (pyNext it) (fun r s₁ => ∃ v, r = some v ∧ wpAny (model prog w) A (assign t2 env v) (fun _ s₂ => wpC (model prog w) A (eval elt env) (fun x s₃ =>
      wpAny (model prog w) A (call (.builtin "list.append") [acc, x]) (fun _ s₄ => P s₄) (fun _ _ => False) s₃) (fun _ _ => False) s₂) (fun _ _ => False) s₁) (fun _ _ => False) s)
    (ht : ∀ v, letOwnedTupleGo t2 it v = pure () := by intro _; rfl) :
    wpC (model prog w) A (compTurn (.ListComp elt [⟨t1, i1, [], 0⟩, ⟨t2, i2, [], 0⟩] scope pos) 1 it acc env) (fun fin s' => fin = .again (.compLoop (.ListComp elt [⟨t1, i1, [], 0⟩, ⟨t2, i2, [], 0⟩] scope pos) 1 it acc env) ∧ P s') (fun _ _ => False) s := by
  have e : compTurn (.ListComp elt [⟨t1, i1, [], 0⟩, ⟨t2, i2, [], 0⟩] scope pos) 1 it acc env = (standAt i2.pos >>= fun _ => pyNext it >>= fun r => match r with
      | none => pure (.done .next)
      | some v => letOwnedTupleGo t2 it v >>= fun _ => assign t2 env v >>= fun _ =>
        (eval elt env >>= fun x => call (.builtin "list.append") [acc, x] >>= fun _ => pure ()) >>= fun _ =>
          again (.compLoop (.ListComp elt [⟨t1, i1, [], 0⟩, ⟨t2, i2, [], 0⟩] scope pos) 1 it acc env)) := by rfl
  rw [e]
  refine wpC_seq (wpAny_standAt (wpC_seq (wpAny_mono h (fun r s₁ h₁ => ?_) fun _ _ z => z)))
  obtain ⟨v, rfl, h₁⟩ := h₁
  refine wpC_seq (wpAny_of_eq (ht v) ?_)
  exact wpC_seq (wpAny_mono h₁ (fun _ s₂ h₂ => wpC_bind (wpC_bind (wpC_mono h₂ (fun x s₃ h₃ => wpC_seq (wpAny_mono h₃
      (fun _ s₄ h₄ => wpC_pure (wpC_pure ⟨rfl, h₄⟩)) fun _ _ h' => h')) fun _ _ h' => h'))) fun _ _ h' => h')
theorem lastC2 {elt t1 i1 t2 i2 : Expr} {scope : Scope} {pos : Pos} {it acc : Value} {P : Shared → Prop}
    (h : wpAny (model prog w) A (pyNext it) (fun r s₁ => r = none ∧ P s₁) (fun _ _ => False) s) :
    wpC (model prog w) A (compTurn (.ListComp elt [⟨t1, i1, [], 0⟩, ⟨t2, i2, [], 0⟩] scope pos) 0 it acc env) (fun fin s' => fin = .done .next ∧ P s') (fun _ _ => False) s := by
  have e : compTurn (.ListComp elt [⟨t1, i1, [], 0⟩, ⟨t2, i2, [], 0⟩] scope pos) 0 it acc env = (standAt i1.pos >>= fun _ => pyNext it >>= fun r => match r with
      | none => pure (.done .next)
      | some v => letOwnedTupleGo t1 it v >>= fun _ => assign t1 env v >>= fun _ =>
        eval i2 env >>= fun x => standAt i2.pos >>= fun _ => foldedSetIterable i2 env x >>= fun x => holding [x] (pyIter x) >>= fun it2 =>
          runOwn (.compStart (.ListComp elt [⟨t1, i1, [], 0⟩, ⟨t2, i2, [], 0⟩] scope pos) 1 it2 acc env) env >>= fun _ =>
          again (.compLoop (.ListComp elt [⟨t1, i1, [], 0⟩, ⟨t2, i2, [], 0⟩] scope pos) 0 it acc env)) := by rfl
  rw [e]
  refine wpC_seq (wpAny_standAt (wpC_seq (wpAny_mono h (fun r s₁ h₁ => ?_) fun _ _ z => z)))
  obtain ⟨rfl, h₁⟩ := h₁
  exact wpC_pure ⟨rfl, h₁⟩
theorem lastC2b {elt t1 i1 t2 i2 : Expr} {scope : Scope} {pos : Pos} {it acc : Value} {P : Shared → Prop}
    (h : wpAny (model prog w) A (pyNext it) (fun r s₁ => r = none ∧ P s₁) (fun _ _ => False) s) :
    wpC (model prog w) A (compTurn (.ListComp elt [⟨t1, i1, [], 0⟩, ⟨t2, i2, [], 0⟩] scope pos) 1 it acc env) (fun fin s' => fin = .done .next ∧ P s') (fun _ _ => False) s := by
  have e : compTurn (.ListComp elt [⟨t1, i1, [], 0⟩, ⟨t2, i2, [], 0⟩] scope pos) 1 it acc env = (standAt i2.pos >>= fun _ => pyNext it >>= fun r => match r with
      | none => pure (.done .next)
      | some v => letOwnedTupleGo t2 it v >>= fun _ => assign t2 env v >>= fun _ =>
        (eval elt env >>= fun x => call (.builtin "list.append") [acc, x] >>= fun _ => pure ()) >>= fun _ =>
          again (.compLoop (.ListComp elt [⟨t1, i1, [], 0⟩, ⟨t2, i2, [], 0⟩] scope pos) 1 it acc env)) := by rfl
  rw [e]
  refine wpC_seq (wpAny_standAt (wpC_seq (wpAny_mono h (fun r s₁ h₁ => ?_) fun _ _ z => z)))
  obtain ⟨rfl, h₁⟩ := h₁
  exact wpC_pure ⟨rfl, h₁⟩
/-- one turn of a clause whose only test says no -/
theorem turnCF {elt target iter ct : Expr} {scope : Scope} {pos : Pos} {it acc : Value} {P : Shared → Prop}
    (h : wpAny (model prog w) A (pyNext it) (fun r s₁ => ∃ v, r = some v ∧ wpAny (model prog w) A (assign target env v) (fun _ s₂ => wpC (model prog w) A (isTrue ct env (eval ct env)) (fun ok s₃ => ok = false ∧ P s₃) (fun _ _ => False) s₂) (fun _ _ => False) s₁) (fun _ _ => False) s)
    (ht : ∀ v, letOwnedTupleGo target it v = pure () := by intro _; rfl) :
    wpC (model prog w) A (compTurn (.ListComp elt [⟨target, iter, [ct], 0⟩] scope pos) 0 it acc env) (fun fin s' => fin = .again (.compLoop (.ListComp elt [⟨target, iter, [ct], 0⟩] scope pos) 0 it acc env) ∧ P s') (fun _ _ => False) s := by
  rw [compTurn_list]
  refine wpC_seq (wpAny_standAt (wpC_seq (wpAny_mono h (fun r s₁ h₁ => ?_) fun _ _ z => z)))
  obtain ⟨v, rfl, h₁⟩ := h₁
  refine wpC_seq (wpAny_of_eq (ht v) ?_)
  refine wpC_seq (wpAny_mono h₁ (fun _ s₂ h₂ => ?_) fun _ _ h' => h')
  simp only [List.forIn_cons, List.forIn_nil, if_true]
  refine wpC_bind (wpC_bind (wpC_bind (wpC_mono h₂ (fun ok s₃ h₃ => ?_) fun _ _ h' => h')))
  obtain ⟨rfl, h₃⟩ := h₃
  exact wpC_pure (wpC_pure (wpC_pure ⟨rfl, h₃⟩))
theorem lastCF {elt target iter ct : Expr} {scope : Scope} {pos : Pos} {it acc : Value} {P : Shared → Prop}
    (h : wpAny (model prog w) A (pyNext it) (fun r s₁ => r = none ∧ P s₁) (fun _ _ => False) s) :
    wpC (model prog w) A (compTurn (.ListComp elt [⟨target, iter, [ct], 0⟩] scope pos) 0 it acc env) (fun fin s' => fin = .done .next ∧ P s') (fun _ _ => False) s := by
  rw [compTurn_list]
  refine wpC_seq (wpAny_standAt (wpC_seq (wpAny_mono h (fun r s₁ h₁ => ?_) fun _ _ z => z)))
  obtain ⟨rfl, h₁⟩ := h₁
  exact wpC_pure ⟨rfl, h₁⟩
/-- a block of two clauses over clean contexts: the outer iterator I, the inner list made anew at each turn -/
theorem blockC2 {elt i1 i2 : Expr} {x x2 : Str} {px px2 : Pos} {scope : Scope} {cl : List (Str × Addr)} {pos : Pos} {I : Addr} {fp : List Addr} {n n2 : Nat} {P V2 : Nat → Value → Prop} {St : Nat → Heap → Prop} {T : Nat → Nat → List Value → List (Addr × Obj) → Prop} {news : List (Addr × Obj)}
    {RR : Value → Addr → Result → Shared → Prop}
    (Wk : Walks prog w A I fp [I] n P St) (hh : A.handled = none) (hIo : ∀ i h, St i h → ∃ o, h.get? I = some o)
    (hSt' : ∀ i h h' o nw ys, St (i + 1) h → h.get? I = some o → h'.get? I = some o → News h₀ L h' nw → T (i + 1) 0 ys nw → St (i + 1) h')
    (hcell : ∀ y ∈ scope.names, y.2 ≠ .cell) (hkind : scope.kind = .function) (hx : scope.names.lookup x = some .local) (hx2 : scope.names.lookup x2 = some .local) (hxx : x ≠ x2) (hst : St 0 s.heap) (hfp : ∀ b ∈ fp, @LT.lt Nat _ b s.heap.objs.size)
    (F : Fr h₀ L s.heap m) (N : News h₀ L s.heap news) (hIL : L ≠ I) (hI₀ : h₀.get? I = none) (off : ∀ p ∈ news, p.1 ≠ I) (hT : T 0 0 [] news)
    (hTn : ∀ i ys nw, T i n2 ys nw → T (i + 1) 0 ys nw) (hTl : ∀ i j ys nw, T i j ys nw → ys.length ≤ sizeLine)
    (hf2 : ∀ C y, foldedSetIterable i2 (compEnvC scope cl C env) y = pure y)
    (inner : ∀ i ys nw v oI C oC D m₂ h tk, i < n → T i 0 ys nw → P i v → NsObj oC m₂ → m₂ x = some v → Fr h₀ L h m → News h₀ L h ((I, oI) :: (C, oC) :: (D, lst ys) :: nw) → Off3 I C D nw → (@Ne Nat I C ∧ @Ne Nat I D ∧ @Ne Nat C D) →
      wpAny (model prog w) A (eval i2 (compEnvC scope cl C env)) (fun v2 s' => ∃ h' tk' D2 its2 k2, v2 = .ref D2 ∧ s' = { s with heap := h', toks := tk' } ∧ its2.size = n2 ∧ (∀ (j : Nat) u, its2[j]? = some u → V2 j u) ∧ Fr h₀ L h' m ∧ News h₀ L h' ((D2, W.listOf its2 k2) :: (I, oI) :: (C, oC) :: (D, lst ys) :: nw) ∧
        (∀ p ∈ (I, oI) :: (C, oC) :: (D, lst ys) :: nw, p.1 ≠ D2)) (fun _ _ => False) { s with heap := h, toks := tk })
    (step : ∀ i j ys nw v v2 I2 oI2 D2 oD2 oI C oC D m₂ h tk, i < n → j < n2 → T i j ys nw → P i v → V2 j v2 → NsObj oC m₂ → m₂ x = some v → m₂ x2 = some v2 → Fr h₀ L h m → News h₀ L h ((I2, oI2) :: (D2, oD2) :: (I, oI) :: (C, oC) :: (D, lst ys) :: nw) →
      wpC (model prog w) A (eval elt (compEnvC scope cl C env)) (fun y s' => ∃ h' tk' nw', s' = { s with heap := h', toks := tk' } ∧ Fr h₀ L h' m ∧ News h₀ L h' ((I2, oI2) :: (D2, oD2) :: (I, oI) :: (C, oC) :: (D, lst ys) :: nw') ∧
        (∀ p ∈ nw', p ∈ nw ∨ (@Ne Nat p.1 I2 ∧ @Ne Nat p.1 D2 ∧ @Ne Nat p.1 I ∧ @Ne Nat p.1 C ∧ @Ne Nat p.1 D)) ∧ T i (j + 1) (ys ++ [y]) nw') (fun _ _ => False) { s with heap := h, toks := tk })
    (fin : ∀ D C h tk m' ys nw, T n 0 ys nw → Fr h₀ L h m → News h₀ L h ((D, lst ys) :: nw) → (∀ p ∈ nw, p.1 ≠ D) → h.Ns C m' → h₀.get? C = none → C ≠ L → @Ne Nat C D → (∀ p ∈ nw, p.1 ≠ C) → RR (.ref D) C (.ok .next) { s with heap := h, toks := tk }) :
    wpAny (model prog w) A (newList []) (fun acc s₃ => wpAny (model prog w) A (newFunctionEnv scope env.globals cl [] env.qual none .none (some env)) (fun cenv s₄ =>
      codeC (model prog w) A (.compStart (.ListComp elt [⟨.Name x px, i1, [], 0⟩, ⟨.Name x2 px2, i2, [], 0⟩] scope pos) 0 (.ref I) acc { cenv with scope := relabel scope env }) (RR acc cenv.locals) s₄) E s₃) E s := by
  refine comp_setup (K := fun acc cenv s₄ => codeC (model prog w) A (.compStart (.ListComp elt [⟨.Name x px, i1, [], 0⟩, ⟨.Name x2 px2, i2, [], 0⟩] scope pos) 0 (.ref I) acc cenv) (RR acc cenv.locals) s₄) hcell hkind F N fun D C h tk m' oC F' N' nC old below hCD => ?_
  have hIf : I ∈ fp := Wk.sub I (List.mem_singleton.mpr rfl)
  have hCI : @Ne Nat C I := Ne.symm (below I (hfp I hIf)).1
  have hDI : @Ne Nat D I := Ne.symm (below I (hfp I hIf)).2
  have hCf : C ∉ fp := fun hm => (below C (hfp C hm)).1 rfl
  have hst₁ : St 0 h := Wk.frame _ _ _ hst fun b _ o e => old b o e
  have offC₀ : ∀ p ∈ news, p.1 ≠ C := fun p hp => (below _ (Heap.lt_size (N p hp).1)).1
  have offD₀ : ∀ p ∈ news, p.1 ≠ D := fun p hp => (below _ (Heap.lt_size (N p hp).1)).2
  have loop : codeC (model prog w) A (.compLoop (.ListComp elt [⟨.Name x px, i1, [], 0⟩, ⟨.Name x2 px2, i2, [], 0⟩] scope pos) 0 (.ref I) (.ref D) (compEnvC scope cl C env)) (RR (.ref D) C) { s with heap := h, toks := tk } := by
    refine compLoopC (n := n) (fun i s' => ∃ h' tk' ys nw oC m', s' = { s with heap := h', toks := tk' } ∧ St i h' ∧ Fr h₀ L h' m ∧ NsObj oC m' ∧ News h₀ L h' ((C, oC) :: (D, lst ys) :: nw) ∧ Off3 I C D nw ∧ T i 0 ys nw)
      ⟨h, tk, [], news, oC, m', rfl, hst₁, F', nC, N', off3_of off offC₀ offD₀, hT⟩ ?_ ?_
    · rintro i s' hi ⟨h', tk', ys, nw, oC', m'', rfl, hst', F'', nC', N'', o3, hT'⟩
      refine turnC2 ?_ (hf := hf2 C)
      refine comp_next (s := { s with heap := h', toks := tk' }) Wk hIo hi hst' F'' N'' nC' hIL hI₀ hCI hCf ?_ ?_ (lookup_relabel_local hx) rfl (by simp [compEnvC, relabel, hkind]) ?_
      · intro p hp
        rcases List.mem_cons.mp hp with rfl | hp
        · exact hDI
        · exact (o3.mem p hp).1
      · intro p hp
        rcases List.mem_cons.mp hp with rfl | hp
        · exact Ne.symm hCD
        · exact (o3.mem p hp).2.1
      intro v h₁ tk₁ oI oC₁ hP hst₁ nC₁ F₁ N₁
      refine wpAny_mono (inner i ys nw v oI C oC₁ D _ h₁ tk₁ hi hT' hP nC₁ (by simp) F₁ N₁ o3 ⟨Ne.symm hCI, Ne.symm hDI, hCD⟩) (fun v2 s₃ h₃ => ?_) fun _ _ e => e
      obtain ⟨h₃, tk₃, D2, its2, k2, rfl, rfl, hsz2, hV2, F₃, N₃, offD2⟩ := h₃
      have hl2 : h₃.IsList D2 its2 := News.isList N₃ (.head _)
      refine wpAny_pyIter_list hl2 ?_
      have hlt2 : @LT.lt Nat _ D2 h₃.objs.size := Heap.lt_size (N₃ _ (.head _)).1
      have up : ∀ b o, h₃.get? b = some o → (h₃.push { cls := .type "list_iterator", data := .fields #[.ref D2, .int 0 0] }).get? b = some o := fun b o e => Heap.get?_push_of_some _ e
      have F₄ := F₃.keeps up
      have N₄ := News.grown N₃ up
      have W2 := Walks.list (prog := prog) (w := w) (A := A) hh h₃.objs.size D2 (Nat.ne_of_lt hlt2) its2
      have offI2 : ∀ p ∈ (D2, W.listOf its2 k2) :: (I, oI) :: (C, oC₁) :: (D, lst ys) :: nw, p.1 ≠ h₃.objs.size := fun p hp => Nat.ne_of_lt (Heap.lt_size (N₃ p hp).1)
      have hI2₀ : h₀.get? h₃.objs.size = none := by
        cases e : h₀.get? h₃.objs.size with
        | none => rfl
        | some o' => exact absurd (Heap.lt_size (F₃.keep _ _ e)) (Nat.lt_irrefl _)
      have hLI2 : L ≠ h₃.objs.size := Nat.ne_of_lt F₃.ns.lt
      have hnm : ∀ b, b ≠ D2 → b ≠ h₃.objs.size → b ∉ [h₃.objs.size, D2] := fun b a c hm => by
        rcases List.mem_cons.mp hm with e | hm
        · exact c e
        · exact a (List.mem_singleton.mp hm)
      have loop2 : codeC (model prog w) A (.compLoop (.ListComp elt [⟨.Name x px, i1, [], 0⟩, ⟨.Name x2 px2, i2, [], 0⟩] scope pos) 1 (.ref h₃.objs.size) (.ref D) (compEnvC scope cl C env))
          (fun r s' => r = .ok .next ∧ ∃ h' tk' ys nw oC m', s' = { s with heap := h', toks := tk' } ∧ St (i + 1) h' ∧ Fr h₀ L h' m ∧ NsObj oC m' ∧ News h₀ L h' ((C, oC) :: (D, lst ys) :: nw) ∧ Off3 I C D nw ∧ T (i + 1) 0 ys nw)
          { s with heap := h₃.push { cls := .type "list_iterator", data := .fields #[.ref D2, .int 0 0] }, toks := tk₃ } := by
        refine compLoopC (n := its2.size) (fun j s' => ∃ h' tk' ys nw oC m', s' = { s with heap := h', toks := tk' } ∧ (h'.IsListIter h₃.objs.size D2 j ∧ h'.IsList D2 its2) ∧ Fr h₀ L h' m ∧ NsObj oC m' ∧ m' x = some v ∧
            News h₀ L h' ((C, oC) :: (D2, W.listOf its2 k2) :: (I, oI) :: (D, lst ys) :: nw) ∧ Off3 I C D nw ∧ (∀ p ∈ nw, p.1 ≠ D2 ∧ p.1 ≠ h₃.objs.size) ∧ T i j ys nw)
          ⟨_, tk₃, ys, nw, oC₁, _, rfl, ⟨⟨_, Heap.get?_push_size _ rfl, rfl, rfl⟩, hl2.push _⟩, F₄, nC₁, by simp, news_sub N₄ (fun z hz => by
            simp only [List.mem_cons] at hz ⊢
            rcases hz with e | e | e | e | e <;> simp [e]), o3, fun p hp => ⟨offD2 p (.tail _ (.tail _ (.tail _ hp))), offI2 p (.tail _ (.tail _ (.tail _ (.tail _ hp))))⟩, hT'⟩ ?_ ?_
        · rintro j s' hj ⟨h', tk', ys', nw', oC', m3, rfl, hst2, F5, nC5, hv, N5, o35, offs, hT5⟩
          refine turnC2b ?_
          have hCD2 : @Ne Nat C D2 := offD2 (C, oC₁) (.tail _ (.head _))
          have hID2 : @Ne Nat I D2 := offD2 (I, oI) (.head _)
          have hDD2 : @Ne Nat D D2 := offD2 (D, lst ys) (.tail _ (.tail _ (.head _)))
          have hCI2 : @Ne Nat C h₃.objs.size := offI2 (C, oC₁) (.tail _ (.tail _ (.head _)))
          have hII2 : @Ne Nat I h₃.objs.size := offI2 (I, oI) (.tail _ (.head _))
          have hDI2 : @Ne Nat D h₃.objs.size := offI2 (D, lst ys) (.tail _ (.tail _ (.tail _ (.head _))))
          refine comp_next (s := { s with heap := h', toks := tk' }) W2 (fun _ _ st => by obtain ⟨o, e, _⟩ := st.1; exact ⟨o, e⟩) hj hst2 F5 N5 nC5 hLI2 hI2₀ hCI2 (hnm C hCD2 hCI2) ?_ ?_ (lookup_relabel_local hx2) rfl (by simp [compEnvC, relabel, hkind]) ?_
          · intro p hp
            rcases List.mem_cons.mp hp with rfl | hp
            · exact Nat.ne_of_lt hlt2
            rcases List.mem_cons.mp hp with rfl | hp
            · exact hII2
            rcases List.mem_cons.mp hp with rfl | hp
            · exact hDI2
            · exact (offs p hp).2
          · intro p hp
            rcases List.mem_cons.mp hp with rfl | hp
            · exact Ne.symm hCD2
            rcases List.mem_cons.mp hp with rfl | hp
            · exact Ne.symm hCI
            rcases List.mem_cons.mp hp with rfl | hp
            · exact Ne.symm hCD
            · exact (o35.mem p hp).2.1
          intro v2 h6 tk6 oI2 oC6 hP2 hst6 nC6 F6 N6
          refine wpC_mono (step i j ys' nw' v v2 h₃.objs.size oI2 D2 (W.listOf its2 k2) oI C oC6 D _ h6 tk6 hi (hsz2 ▸ hj) hT5 hP (hV2 j v2 hP2) nC6 (by simp only [if_neg hxx]; exact hv) (by simp) F6 (news_sub N6 (fun z hz => by
            simp only [List.mem_cons] at hz ⊢
            rcases hz with e | e | e | e | e | e <;> simp [e]))) (fun y s7 h7 => ?_) fun _ _ e => e
          obtain ⟨h7, tk7, nw7, rfl, F7, N7, offs7, hT7⟩ := h7
          have o37 : Off3 I C D nw7 := Off3.of fun p hp => by
            rcases offs7 p hp with hm | ⟨_, _, a, b, c⟩
            · exact o35.mem p hm
            · exact ⟨a, b, c⟩
          have offs' : ∀ p ∈ nw7, p.1 ≠ D2 ∧ p.1 ≠ h₃.objs.size := fun p hp => by
            rcases offs7 p hp with hm | ⟨a, b, _⟩
            · exact offs p hm
            · exact ⟨b, a⟩
          have zD := N7 _ (.tail _ (.tail _ (.tail _ (.tail _ (.head _)))))
          refine append_at (hsz := by rw [List.size_toArray]; exact hTl _ _ _ _ hT5) zD.1 fun h8 hs8 hD8 => ?_
          have keep : ∀ b o, @Ne Nat b D → h7.get? b = some o → h8.get? b = some o := fun b o hb e => hs8.extBut b o hb e
          have eI2 := keep _ _ (Ne.symm hDI2) (N7 _ (.head _)).1
          have eD2 := keep _ _ (Ne.symm hDD2) (N7 _ (.tail _ (.head _))).1
          have N8 : News h₀ L h8 ((C, oC6) :: (D2, W.listOf its2 k2) :: (I, oI) :: (D, lst (ys' ++ [y])) :: nw7) := fun p hp => by
            rcases List.mem_cons.mp hp with rfl | hp
            · have z := N7 (C, oC6) (.tail _ (.tail _ (.tail _ (.head _))))
              exact ⟨keep _ _ hCD z.1, z.2⟩
            rcases List.mem_cons.mp hp with rfl | hp
            · exact ⟨eD2, (N7 _ (.tail _ (.head _))).2⟩
            rcases List.mem_cons.mp hp with rfl | hp
            · have z := N7 (I, oI) (.tail _ (.tail _ (.head _)))
              exact ⟨keep _ _ (Ne.symm hDI) z.1, z.2⟩
            rcases List.mem_cons.mp hp with rfl | hp
            · exact ⟨hD8.trans (congrArg some (lst_snoc ys' y)), zD.2⟩
            have z := N7 p (.tail _ (.tail _ (.tail _ (.tail _ (.tail _ hp)))))
            exact ⟨keep _ _ (o37.mem p hp).2.2 z.1, z.2⟩
          refine ⟨h8, tk7, ys' ++ [y], nw7, oC6, _, rfl, ⟨?_, News.isList N8 (.tail _ (.head _))⟩, F7.change hs8 zD.2.1 zD.2.2, nC6, by simp only [if_neg hxx]; exact hv, N8, o37, offs', hT7⟩
          obtain ⟨o', q, r⟩ := hst6.1
          rw [(N6 _ (.head _)).1] at q
          cases q
          exact ⟨_, eI2, r⟩
        · rintro s' ⟨h', tk', ys', nw', oC', m3, rfl, hst2, F5, nC5, hv, N5, o35, offs, hT5⟩
          refine lastC2b ?_
          refine comp_last (s := { s with heap := h', toks := tk' }) W2 hst2 F5 N5 hLI2 hI2₀ ?_ fun h6 tk6 F6 N6 => ?_
          · intro p hp
            rcases List.mem_cons.mp hp with rfl | hp
            · exact offI2 (C, oC₁) (.tail _ (.tail _ (.head _)))
            rcases List.mem_cons.mp hp with rfl | hp
            · exact Nat.ne_of_lt hlt2
            rcases List.mem_cons.mp hp with rfl | hp
            · exact offI2 (I, oI) (.tail _ (.head _))
            rcases List.mem_cons.mp hp with rfl | hp
            · exact offI2 (D, lst ys) (.tail _ (.tail _ (.tail _ (.head _))))
            · exact (offs p hp).2
          rw [hsz2] at hT5
          have N7 : News h₀ L h6 ((C, oC') :: (D, lst ys') :: nw') := news_sub N6 (fun z hz => by
            simp only [List.mem_cons] at hz ⊢
            rcases hz with e | e | e <;> simp [e])
          exact ⟨rfl, h6, tk6, ys', nw', oC', m3, rfl, hSt' i _ _ _ _ _ hst₁ (N₁ _ (.head _)).1 (N6 _ (.tail _ (.tail _ (.head _)))).1 (fun p hp => N7 p (.tail _ (.tail _ hp))) (hTn _ _ _ hT5), F6, nC5, N7, o35, hTn _ _ _ hT5⟩
      exact compStartC (d := 1) rfl loop2 (W2.self 0 _ _ _ ⟨⟨_, Heap.get?_push_size _ rfl, rfl, rfl⟩, hl2.push _⟩ loop2)
    · rintro s' ⟨h', tk', ys, nw, oC', m'', rfl, hst', F'', nC', N'', o3, hT'⟩
      refine lastC2 ?_
      refine comp_last (s := { s with heap := h', toks := tk' }) Wk hst' F'' N'' hIL hI₀ ?_ fun h₂ tk₂ F₂ N₂ => ?_
      · intro p hp
        rcases List.mem_cons.mp hp with rfl | hp
        · exact hCI
        rcases List.mem_cons.mp hp with rfl | hp
        · exact hDI
        · exact (o3.mem p hp).1
      exact fin D C h₂ tk₂ m'' ys nw hT' F₂ (fun p hp => N₂ p (.tail _ hp)) (fun p hp => (o3.mem p hp).2.2) (nC'.ns (N₂ _ (.head _)).1) (N₂ _ (.head _)).2.2 (N₂ _ (.head _)).2.1 hCD (fun p hp => (o3.mem p hp).2.1)
  exact compStartC (d := 0) rfl loop (Wk.self 0 _ _ _ hst₁ loop)
/-- a block of one clause whose test says no at every turn: the list stays empty -/
theorem blockCF {elt iter ct : Expr} {x : Str} {px : Pos} {scope : Scope} {cl : List (Str × Addr)} {pos : Pos} {I : Addr} {fp : List Addr} {n : Nat} {P : Nat → Value → Prop} {St : Nat → Heap → Prop} {T : List (Addr × Obj) → Prop} {news : List (Addr × Obj)}
    {RR : Value → Addr → Result → Shared → Prop}
    (Wk : Walks prog w A I fp [I] n P St) (hIo : ∀ i h, St i h → ∃ o, h.get? I = some o)
    (hSt' : ∀ i h h' o nw, St (i + 1) h → h.get? I = some o → h'.get? I = some o → News h₀ L h' nw → T nw → St (i + 1) h')
    (hcell : ∀ y ∈ scope.names, y.2 ≠ .cell) (hkind : scope.kind = .function) (hx : scope.names.lookup x = some .local) (hst : St 0 s.heap) (hfp : ∀ b ∈ fp, @LT.lt Nat _ b s.heap.objs.size)
    (F : Fr h₀ L s.heap m) (N : News h₀ L s.heap news) (hIL : L ≠ I) (hI₀ : h₀.get? I = none) (off : ∀ p ∈ news, p.1 ≠ I) (hT : T news)
    (step : ∀ i nw v oI C oC D m₂ h tk, i < n → T nw → P i v → NsObj oC m₂ → m₂ x = some v → Fr h₀ L h m → News h₀ L h ((I, oI) :: (C, oC) :: (D, lst []) :: nw) → Off3 I C D nw → (@Ne Nat I C ∧ @Ne Nat I D ∧ @Ne Nat C D) →
      wpC (model prog w) A (isTrue ct (compEnvC scope cl C env) (eval ct (compEnvC scope cl C env))) (fun ok s' => ok = false ∧ EltDone h₀ L m { s with heap := h, toks := tk } I C D oI oC (lst []) T s') (fun _ _ => False) { s with heap := h, toks := tk })
    (fin : ∀ D C h tk m' nw, T nw → Fr h₀ L h m → News h₀ L h ((D, lst []) :: nw) → (∀ p ∈ nw, p.1 ≠ D) → h.Ns C m' → h₀.get? C = none → C ≠ L → @Ne Nat C D → (∀ p ∈ nw, p.1 ≠ C) → RR (.ref D) C (.ok .next) { s with heap := h, toks := tk }) :
    wpAny (model prog w) A (newList []) (fun acc s₃ => wpAny (model prog w) A (newFunctionEnv scope env.globals cl [] env.qual none .none (some env)) (fun cenv s₄ =>
      codeC (model prog w) A (.compStart (.ListComp elt [⟨.Name x px, iter, [ct], 0⟩] scope pos) 0 (.ref I) acc { cenv with scope := relabel scope env }) (RR acc cenv.locals) s₄) E s₃) E s := by
  refine comp_setup (K := fun acc cenv s₄ => codeC (model prog w) A (.compStart (.ListComp elt [⟨.Name x px, iter, [ct], 0⟩] scope pos) 0 (.ref I) acc cenv) (RR acc cenv.locals) s₄) hcell hkind F N fun D C h tk m' oC F' N' nC old below hCD => ?_
  have hIf : I ∈ fp := Wk.sub I (List.mem_singleton.mpr rfl)
  have hCI : @Ne Nat C I := Ne.symm (below I (hfp I hIf)).1
  have hDI : @Ne Nat D I := Ne.symm (below I (hfp I hIf)).2
  have hCf : C ∉ fp := fun hm => (below C (hfp C hm)).1 rfl
  have hst₁ : St 0 h := Wk.frame _ _ _ hst fun b _ o e => old b o e
  have offC₀ : ∀ p ∈ news, p.1 ≠ C := fun p hp => (below _ (Heap.lt_size (N p hp).1)).1
  have offD₀ : ∀ p ∈ news, p.1 ≠ D := fun p hp => (below _ (Heap.lt_size (N p hp).1)).2
  have loop : codeC (model prog w) A (.compLoop (.ListComp elt [⟨.Name x px, iter, [ct], 0⟩] scope pos) 0 (.ref I) (.ref D) (compEnvC scope cl C env)) (RR (.ref D) C) { s with heap := h, toks := tk } := by
    refine compLoopC (n := n) (fun i s' => ∃ h' tk' nw oC m', s' = { s with heap := h', toks := tk' } ∧ St i h' ∧ Fr h₀ L h' m ∧ NsObj oC m' ∧ News h₀ L h' ((C, oC) :: (D, lst []) :: nw) ∧ Off3 I C D nw ∧ T nw)
      ⟨h, tk, news, oC, m', rfl, hst₁, F', nC, N', off3_of off offC₀ offD₀, hT⟩ ?_ ?_
    · rintro i s' hi ⟨h', tk', nw, oC', m'', rfl, hst', F'', nC', N'', o3, hT'⟩
      refine turnCF ?_
      refine comp_next (s := { s with heap := h', toks := tk' }) Wk hIo hi hst' F'' N'' nC' hIL hI₀ hCI hCf ?_ ?_ (lookup_relabel_local hx) rfl (by simp [compEnvC, relabel, hkind]) ?_
      · intro p hp
        rcases List.mem_cons.mp hp with rfl | hp
        · exact hDI
        · exact (o3.mem p hp).1
      · intro p hp
        rcases List.mem_cons.mp hp with rfl | hp
        · exact Ne.symm hCD
        · exact (o3.mem p hp).2.1
      intro v h₁ tk₁ oI oC₁ hP hst₁ nC₁ F₁ N₁
      refine wpC_mono (step i nw v oI C oC₁ D _ h₁ tk₁ hi hT' hP nC₁ (by simp) F₁ N₁ o3 ⟨Ne.symm hCI, Ne.symm hDI, hCD⟩) (fun ok s₃ h₃ => ?_) fun _ _ e => e
      obtain ⟨rfl, h₃, tk₃, nw', rfl, F₃, N₃, o3', hT₃⟩ := h₃
      refine ⟨rfl, ?_⟩
      have N₅ : News h₀ L h₃ nw' := fun p hp => N₃ p (.tail _ (.tail _ (.tail _ hp)))
      exact ⟨h₃, tk₃, nw', oC₁, _, rfl, hSt' i _ _ _ _ hst₁ (N₁ _ (.head _)).1 (N₃ _ (.head _)).1 N₅ hT₃, F₃, nC₁, fun p hp => N₃ p (.tail _ hp), o3', hT₃⟩
    · rintro s' ⟨h', tk', nw, oC', m'', rfl, hst', F'', nC', N'', o3, hT'⟩
      refine lastCF ?_
      refine comp_last (s := { s with heap := h', toks := tk' }) Wk hst' F'' N'' hIL hI₀ ?_ fun h₂ tk₂ F₂ N₂ => ?_
      · intro p hp
        rcases List.mem_cons.mp hp with rfl | hp
        · exact hCI
        rcases List.mem_cons.mp hp with rfl | hp
        · exact hDI
        · exact (o3.mem p hp).1
      exact fin D C h₂ tk₂ m'' nw hT' F₂ (fun p hp => N₂ p (.tail _ hp)) (fun p hp => (o3.mem p hp).2.2) (nC'.ns (N₂ _ (.head _)).1) (N₂ _ (.head _)).2.2 (N₂ _ (.head _)).2.1 hCD (fun p hp => (o3.mem p hp).2.1)
  exact compStartC (d := 0) rfl loop (Wk.self 0 _ _ _ hst₁ loop)
/-- a list comprehension as an expression, over clean contexts -/
theorem evalLCC {elt t iter : Expr} {ifs : List Expr} {rest : List Comprehension} {scope : Scope} {pos : Pos} {cl : List (Str × Addr)} {Q : Value → Shared → Prop} (hclos : closureFor scope env = pure cl) (hkind : scope.kind = .function)
    (hnames : ∀ z ∈ scope.names, z.2 = .local → scope.names.lookup z.1 = some .local) (hs : ∀ x, foldedSetIterable iter env x = pure x)
    (h : wpAny (model prog w) A (eval iter env) (fun x s₁ => wpAny (model prog w) A (pyIter x) (fun it s₂ => wpAny (model prog w) A (newList []) (fun acc s₃ => wpAny (model prog w) A (newFunctionEnv scope env.globals cl [] env.qual none .none (some env)) (fun cenv s₄ =>
      codeC (model prog w) A (.compStart (.ListComp elt (⟨t, iter, ifs, 0⟩ :: rest) scope pos) 0 it acc { cenv with scope := relabel scope env }) (compPostC (model prog w) A E none Q acc cenv.locals) s₄) E s₃) E s₂) E s₁) E s) :
    wpC (model prog w) A (eval (.ListComp elt (⟨t, iter, ifs, 0⟩ :: rest) scope pos) env) Q E s := by
  rw [eval_ListComp]
  exact compFreeC (use := none) rfl hs hclos hkind hnames h
/-- a list comprehension bound to a local name, over clean contexts -/
theorem asgLCC {elt t iter : Expr} {ifs : List Expr} {rest : List Comprehension} {scope : Scope} {pos spos : Pos} {cl : List (Str × Addr)} {y : Str} {py : Pos} {Q : Flow → Shared → Prop}
    (hsw : swapsWith (.ListComp elt (⟨t, iter, ifs, 0⟩ :: rest) scope pos) (some (.Name y py)) spos.line env = pure true) (hclos : closureFor scope env = pure cl) (hkind : scope.kind = .function)
    (hnames : ∀ z ∈ scope.names, z.2 = .local → scope.names.lookup z.1 = some .local) (hs : ∀ x, foldedSetIterable iter env x = pure x)
    (h : wpAny (model prog w) A (eval iter env) (fun x s₁ => wpAny (model prog w) A (pyIter x) (fun it s₂ => wpAny (model prog w) A (newList []) (fun acc s₃ => wpAny (model prog w) A (newFunctionEnv scope env.globals cl [] env.qual none .none (some env)) (fun cenv s₄ =>
      codeC (model prog w) A (.compStart (.ListComp elt (⟨t, iter, ifs, 0⟩ :: rest) scope pos) 0 it acc { cenv with scope := relabel scope env }) (compPostC (model prog w) A E (some (assign (.Name y py) env)) (fun _ s' => Q .next s') acc cenv.locals) s₄) E s₃) E s₂) E s₁) E s) :
    wpC (model prog w) A (exec (.Assign [.Name y py] (.ListComp elt (⟨t, iter, ifs, 0⟩ :: rest) scope pos) spos) env) Q E s := by
  rw [exec_Assign_Name_used _ _ _ _ hsw]
  refine wpC_seq (wpAny_standAt (wpC_bind ?_))
  show wpC _ A (do let _ ← comprehension (.ListComp elt (⟨t, iter, ifs, 0⟩ :: rest) scope pos) scope env _ (newList []) false (eval iter env) (some (assign (.Name y py) env))) _ _ s
  exact wpC_bind (wpC_mono (compFreeC (use := some (assign (.Name y py) env)) (Q := fun _ s' => Q .next s') rfl hs hclos hkind hnames h) (fun _ s' hq => wpC_pure (wpC_pure hq)) fun _ _ e => e)
end
section
variable {M : Model} {A : Around} {E : Value → Shared → Prop} {s : Shared} {env : Env}
/-- x and y, as a value, over clean contexts -/
theorem andVC {x y : Expr} {pos : Pos} {Q : Value → Shared → Prop}
    (h : wpC M A (eval x env) (fun v s₁ => wpAny M A (truthy v) (fun t s₂ => if t then wpC M A (eval y env) Q E s₂ else Q v s₂) E s₁) E s) : wpC M A (eval (.BoolOp .And [x, y] pos) env) Q E s := by
  show wpC M A (boolOp pos .And [eval x env, eval y env]) Q E s
  unfold boolOp
  refine wpC_bind (wpC_mono h (fun v s₁ h₁ => wpC_seq (wpAny_standAt (wpC_seq (wpAny_holding (wpAny_mono h₁ (fun t s₂ h₂ => ?_) fun _ _ x => x))))) fun _ _ x => x)
  cases t
  · exact wpC_pure h₂
  · exact h₂
end

end

/-! part Bad -/
section
section
open PySem.Calls PyProof.V PySem.Spec
variable {M : Model} {A : Around} {E : Value → Shared → Prop} {s' : Shared} {base g : Heap} {outer : List Env} {L a e t : Addr} {m : Str → Option Value} {name : Str} {scope : Scope} {cd : Value} {Q : Unit → Shared → Prop} {news : List (Addr × Obj)}
/-- a made exception, its fields stored already, leaves the first frame -/
theorem leave_raiseD {cls : Value} {vs : List Value} {ob : Obj} (K : Below A base outer g) (F : Fr g L s'.heap m) (N : News g L s'.heap ((e, ob) :: (t, { cls := .type "tuple", data := .seq vs.toArray }) :: news))
    (hoe : ∀ q ∈ news, q.1 ≠ e) (hot : ∀ q ∈ news, q.1 ≠ t) (hc : ob.cls = cls) (hd : ob.data = .fields #[.ref t, .none, .none, .none, .bool false, .none])
    (hQ : ∀ h' t, RaisedS base g outer e cls t vs news h' → RaisedK base outer e cls t vs news h' → g.UpToSlots h' → Q () { s' with heap := h' }) (hk : scope.kind = .function := by rfl) :
    wpAny M (A.deeper (envOf name scope L a cd)) (leaving (envOf name scope L a cd) (.ref e)) Q E s' := by
  have K' := K.push (name := name) (a := a) (cd := cd) F hk
  have ze := N _ (.head _)
  have zt := N _ (.tail _ (.head _))
  have e0 : base.get? e = none := fresh_of_stays K.stays ze.2.2
  have t0 : base.get? t = none := fresh_of_stays K.stays zt.2.2
  have hin : ∀ env ∈ (envOf name scope L a cd :: outer), ∀ b, env.frame = some b → b ∈ e :: t :: (envOf name scope L a cd :: outer).filterMap (·.frame) := fun env he b hb => .tail _ (.tail _ (List.mem_filterMap.mpr ⟨env, he, hb⟩))
  have nf : ∀ b o, g.get? b = none → b ∈ (envOf name scope L a cd :: outer).filterMap (·.frame) → b ≠ L → s'.heap.get? b = some o → False := fun b o hg hm hL _ => by
    obtain ⟨env, he, hf⟩ := List.mem_filterMap.mp hm
    rcases List.mem_cons.mp he with rfl | he
    · exact hL (Option.some.inj hf).symm
    · obtain ⟨o, ho, _⟩ := (K.frames.mem (List.mem_filterMap.mpr ⟨env, he, hf⟩)).2
      rw [hg] at ho
      cases ho
  have st : base.StaysIn (hideAll s'.heap (e :: t :: (envOf name scope L a cd :: outer).filterMap (·.frame))) := fun b o q => hideAll_get _ (K'.stays b o q) fun hm => by
    rcases List.mem_cons.mp hm with rfl | hm
    · rw [e0] at q; cases q
    rcases List.mem_cons.mp hm with rfl | hm
    · rw [t0] at q; cases q
    rw [(K'.frames.mem hm).1] at q; cases q
  have hl : ∀ q ∈ news, (hideAll s'.heap (e :: t :: (envOf name scope L a cd :: outer).filterMap (·.frame))).get? q.1 = some q.2 ∧ g.get? q.1 = none ∧ base.get? q.1 = none := fun q hq => by
    have zq := N q (.tail _ (.tail _ hq))
    refine ⟨hideAll_get _ zq.1 fun hm => ?_, zq.2.2, fresh_of_stays K.stays zq.2.2⟩
    rcases List.mem_cons.mp hm with hm | hm
    · exact hoe q hq hm
    rcases List.mem_cons.mp hm with hm | hm
    · exact hot q hq hm
    exact nf _ _ zq.2.2 hm zq.2.1 zq.1
  have sg : ∀ b o, g.get? b = some o → b ∉ outer.filterMap (·.frame) → (hideAll s'.heap (e :: t :: (envOf name scope L a cd :: outer).filterMap (·.frame))).get? b = some o := fun b o q nm => hideAll_get _ (F.keep b o q) fun hm => by
    rcases List.mem_cons.mp hm with rfl | hm
    · rw [ze.2.2] at q; cases q
    rcases List.mem_cons.mp hm with rfl | hm
    · rw [zt.2.2] at q; cases q
    rcases kts_mem hm with z | z
    · rw [z, kts_self F] at q; cases q
    · exact nm z
  have tup : s'.heap.TupAt t vs := ⟨_, _, zt.1, rfl, rfl⟩
  subst hc
  refine wpAny_leaving_firstW (a0 := .ref t) K'.stack (funFrames_hide K'.frames hin) rfl ze.1 (fun b o hb => of_hideAll _ hb) (hideAll_none _ (.head _)) hd rfl rfl fun h' hL => ?_
  obtain ⟨k1, ⟨_, _, k2⟩, k3, k4⟩ := hL
  have R : RaisedS base g outer e ob.cls t vs news h' := ⟨⟨_, st, sg, hl, ⟨k1, hideAll_none _ (.head _), k2, k3⟩, hideAll_none _ (.tail _ (.head _))⟩, tup.of_slots k4⟩
  exact hQ h' t R R.toK ((Heap.UpToSlots.of_keeps F.keep).trans k4)
end

end

/-! part Law0 -/
section
section
open PySem.Calls
/-- the law's own call, its locals captured, in clean contexts; nothing is raised out of it -/
theorem call_cellsClean {prog : Program} {w : World} {A : Around} {R : Result → Shared → Prop} {s : Shared} {name : Str} {params : Arguments} {body : List Stmt} {scope : Scope}
    {pm cd doc : Value} {a : Addr} {o : Obj} {args : List Value} {binds : List (Str × Value)}
    (hroom : A.depth < recursionLimit) (ho : s.heap.get? a = some o) (hdata : o.data = .func (Calls.docDef name params body scope pm cd doc)) (hlim : s.heap.NoLimit) (hcd : s.heap.CodeRec cd name)
    (hbind : bindArgs (Calls.docDef name params body scope pm cd doc) ⟨args, []⟩ = pure binds)
    (hkind : ∀ x ∈ binds, scope.names.lookup x.1 = some .local ∨ (scope.names.lookup x.1 = some .cell ∧ ((cellsFrom (s.heap.objs.size + 1) scope.names []).lookup x.1).isSome = true))
    (hnd : ((cellsFrom 0 scope.names []).map (·.1)).Nodup)
    (h : ∀ h₁ tk cells, Fr s.heap s.heap.objs.size h₁ (bindL (envOfC name scope s.heap.objs.size a cd).kindOf binds fun _ => none) → News s.heap s.heap.objs.size h₁ cells →
      CellsAre (bindC (envOfC name scope s.heap.objs.size a cd).kindOf binds fun _ => none) (cellsFrom (s.heap.objs.size + 1) scope.names []) cells →
      wpC (model prog w) (A.deeper (envOfC name scope s.heap.objs.size a cd)) (execs body (envOfC name scope s.heap.objs.size a cd))
        (fun f s' => R (.ok (.ret (match f with | .ret v => v | _ => .none))) s') (fun _ _ => False) { s with heap := h₁, toks := tk })
    (hco : scope.isCoroutine = false := by rfl) (hgen : scope.isGenerator = false := by rfl) (hk : scope.kind = .function := by rfl) :
    codeC (model prog w) A (.call (.ref a) ⟨args, []⟩) R s := by
  refine callC_def hroom ho hdata hco hgen rfl hcd (wpAny_of_eq hbind ?_)
  refine wpAny_newFunctionEnv_cells hk hkind fun env' he s' x => ?_
  subst he
  refine ⟨hlim.keeps x.toInCall.keep, codeC_func ?_⟩
  obtain ⟨h₁, tk, rfl, _⟩ := x.done
  have hk₁ := x.toInCall.keep
  obtain ⟨cells, NC, Y⟩ := Cl.news (h₀ := s.heap) (Nat.le_refl _) fun n c hm => ⟨x.cell n c (lookup_of_mem_nodup (cellsFrom_names scope.names 0 (s.heap.objs.size + 1) [] [] rfl ▸ hnd) hm), x.above n c hm⟩
  exact h h₁ tk cells ⟨x.toInCall.ns, fun b o e => hk₁ b o e, Nat.le_refl _⟩ NC Y
theorem enter_callC {M : Model} {A : Around} {s : Shared} {f : Value} {pos : List Value} {kw : List (Str × Value)} {c : ClaimW} {cl : Str → Option Addr} {mean : ExcName → Option Value} {args : List WData} {s₁ : Shared}
    (h : codeC M A (.call f ⟨pos, kw⟩) (GoodWG c cl mean args s₁) s) : wpC M A (PySem.call f pos kw) (fun v s' => GoodWG c cl mean args s₁ (.ok (.ret v)) s') (fun e s' => GoodWG c cl mean args s₁ (.error e) s') s :=
  wpC_call (codeC_mono h fun res s' g => by rcases g.1 with ⟨v, _, _, rfl, _⟩ | ⟨e, _, _, rfl, _⟩ <;> exact g)
end
section
variable {M : Model} {A : Around} {E : Value → Shared → Prop} {s : Shared} {env : Env}
/-- a tuple display whose first item asks for clean contexts -/
theorem tupleC1 {e : Expr} {es : List Expr} {k : Nat} {pos : Pos} {Q : Value → Shared → Prop}
    (h : wpC M A (eval e env) (fun v s₁ => wpAny M A (spliced (backTo pos (starEach es env))) (fun vs s₂ => wpAny M A (newTuple (v :: vs)) Q E s₂) E s₁) E s)
    (hs : starEach (e :: es) env = (false, eval e env) :: starEach es env := by rfl) : wpC M A (eval (.Tuple (e :: es) k pos) env) Q E s := by
  refine tupleC (e := e) rfl ?_
  rw [hs]
  show wpC M A (spliced ((false, eval e env) :: backTo pos (starEach es env))) _ E s
  rw [spliced]
  refine wpC_bind (wpC_mono h (fun v s₁ h₁ => ?_) fun _ _ x => x)
  simp only [Bool.false_eq_true, if_false]
  exact wpC_seq (wpAny_pure (wpC_seq (wpAny_holding (wpAny_mono h₁ (fun vs s₂ h₂ => wpC_pure h₂) fun _ _ x => x))))
end

end

/-! part Pipes -/
section
/-- one pipe of the law with its book: addresses, counters, ring, queue -/
structure PS where
  (x d r od q : Addr)
  (oo : Obj)
  (id rc wc : Int)
  (ro wo : Bool)
  (ring : Array UInt8)
  (k1 k2 k3 k4 k5 k6 k7 t1 t2 t4 t5 tz : Tok)
  (qv : List Value)
  (qn : List Int)
  (nq : Nat)
abbrev PS.pd (w : World) (sz : Int) (p : PS) : Obj := pdO w p.id sz p.r p.k1 p.k2 p.k3 p.k4 p.k5 p.k6 p.k7 p.t1 p.t2 (.int p.rc p.t4) (.int p.wc p.t5) p.ro p.wo
/-- the channels of the pipes, in the order in which they are told -/
noncomputable def keysOf : List PS → List (Int × Int)
  | [] => []
  | p :: ps => (p.id, 0) :: (p.id, 1) :: keysOf ps
theorem keysOf_length : ∀ ps : List PS, (keysOf ps).length = 2 * ps.length
  | [] => rfl
  | p :: ps => by simp only [keysOf, List.length_cons, keysOf_length ps]; omega
theorem keysOf_get : ∀ (ps : List PS) (i j : Nat) (p : PS), ps[i]? = some p → j < 2 → (keysOf ps)[2 * i + j]? = some (p.id, (j : Int))
  | [], i, j, p, h, _ => by simp at h
  | q :: ps, 0, j, p, h, hj => by
    simp at h
    subst h
    match j, hj with
    | 0, _ => rfl
    | 1, _ => rfl
  | q :: ps, i + 1, j, p, h, hj => by
    have e : 2 * (i + 1) + j = (2 * i + j) + 1 + 1 := by omega
    rw [e]
    simp only [keysOf, List.getElem?_cons_succ]
    exact keysOf_get ps i j p (by simpa using h) hj
theorem keysOf_mem : ∀ (ps : List PS) (k : Int × Int), k ∈ keysOf ps → k.1 ∈ ps.map (·.id)
  | [], _, h => nomatch h
  | p :: ps, k, h => by
    simp only [keysOf, List.mem_cons] at h
    rcases h with rfl | rfl | h
    · simp
    · simp
    · exact List.mem_cons_of_mem _ (keysOf_mem ps k h)
theorem keysOf_nodup : ∀ ps : List PS, (ps.map (·.id)).Nodup → (keysOf ps).Nodup
  | [], _ => List.nodup_nil
  | p :: ps, h => by
    rw [List.map_cons, List.nodup_cons] at h
    have ih := keysOf_nodup ps h.2
    simp only [keysOf, List.nodup_cons, List.mem_cons, not_or]
    refine ⟨⟨by simp, fun hm => h.1 (keysOf_mem ps _ hm)⟩, fun hm => h.1 (keysOf_mem ps _ hm), ih⟩
theorem news_two {h₀ h : Heap} {L : Addr} {a b : Addr × Obj} {nw : List (Addr × Obj)} (N : News h₀ L h nw) (ha : a ∈ nw) (hb : b ∈ nw) : News h₀ L h (a :: b :: nw) := by
  intro z hz
  rcases List.mem_cons.mp hz with rfl | hz
  · exact N _ ha
  rcases List.mem_cons.mp hz with rfl | hz
  · exact N _ hb
  exact N z hz
theorem get_ex {l : List Value} {i n : Nat} (h : l.length = n) (hi : i < n) : ∃ v, l[i]? = some v := ⟨_, List.getElem?_eq_getElem (by rw [h]; exact hi)⟩

end

/-! part Bad2 -/
section
section
variable {M : Model} {A : Around} {E : Value → Shared → Prop} {s : Shared} {env : Env}
/-- an own exception, made and filled, that may be raised -/
def RaisableD (E : Value → Shared → Prop) (v : Value) (s : Shared) : Prop :=
  ∃ e t C dx sl nm q N bs bm hdct sn sub ab col dd k0 k1 k2 k3 k5 newId, v = .ref e ∧ s.heap.get? C = some (excClassObj nm q C N bs bm hdct sn sub ab col dd k0 k1 k2 k3 k5 newId) ∧ bm.contains (.type "BaseException") = true ∧
    s.heap.get? e = some { cls := .ref C, dict := dx, data := .fields #[.ref t, .none, .none, .none, .bool false, .none], slots := sl } ∧ E (.ref e) s
theorem Raise_newD {e : Expr} {pos : Pos} {Q : Flow → Shared → Prop} (hh : A.handled = none)
    (h : wpAny M A (eval e env) (RaisableD E) E s) : wpAny M A (exec (.Raise (some e) none pos) env) Q E s := by
  show wpAny M A (do standAt pos; raiseStmt env (some (do let v ← eval e env; standAt pos; pure v)) none) Q E s
  refine wpAny_bind (wpAny_standAt ?_)
  unfold raiseStmt
  dsimp only
  refine wpAny_bind (wpAny_bind (wpAny_mono h (fun v s₁ h₁ => wpAny_bind (wpAny_standAt (wpAny_pure ?_))) fun _ _ x => x))
  obtain ⟨e, t, C, dx, sl, nm, q, N, bs, bm, hdct, sn, sub, ab, col, dd, k0, k1, k2, k3, k5, newId, rfl, hC, hbase, he, hE⟩ := h₁
  have hcB : (Value.ref C :: bm).contains (.type "BaseException") = true := by rw [List.contains_cons, hbase, Bool.or_true]
  obtain ⟨hp, g, d, tk, os⟩ := s₁
  repeat (first | with_reducible refine wpAny_loadPart_at he ?_ | with_reducible refine wpAny_loadPart_at hC ?_ | (with_reducible refine wpAny_isSubtype_exc hC ?_; rw [hcB]) | wp_step)
  exact wpAny_raiseNew_none hh hE
end
section
open PyProof.V PySem.Spec
variable {prog : Program} {w : World} {A : Around} {E : Value → Shared → Prop} {R : Result → Shared → Prop} {h : Heap} {g : Array GenState} {d : Drawn} {t : Nat} {os : OsState}
variable {nm q : Str} {C N : Addr} {bs bm bmN : List Value} {hdct : Bool} {sn : List Str} {sub : List Value} {ab : Bool} {col : Option Bool} {dd : Option Addr} {k0 k1 k2 k3 k5 : Option Value} {Bn newId inN : String} {K : Frag} {fI : Addr}
set_option maxHeartbeats 4000000 in
/-- an own exception class called that has an __init__ of its own, or an own parent's -/
theorem call_exc_own {rest : List Value} {Q : Value → Shared → Prop} (X : K.In h) (hC : h.get? C = some (excClassObj nm q C N bs bm hdct sn sub ab col dd k0 k1 k2 k3 k5 newId)) (Fn : ExcBaseFacts Bn newId inN bmN)
    (hcB : (Value.ref C :: bm).contains (.type Bn) = true) (hcA : (Value.ref C :: bm).contains (.type "AttributeError") = false) (hcN : (Value.ref C :: bm).contains (.type "NameError") = false)
    (hi : findIn K (.ref C) "__init__" = some (some (.ref fI))) (hf : typeIn K (.ref fI) = some (.type "function")) (hrest : rest.length ≤ sizeLine)
    (hq : ∀ h' e, Heap.MadeExcOf h h' e (.ref C) rest →
      wpAny (model prog w) (A.under (.builtin "type.__call__" ⟨.ref C :: rest, []⟩)) (call (.ref fI) (.ref e :: rest)) (fun r s' => r = .none ∧ Q (.ref e) s') E ⟨h', g, d, t, os⟩) :
    wpAny (model prog w) A (call (.ref C) rest) Q E ⟨h, g, d, t, os⟩ := by
  have f1 := tc_lookup
  have f2 := tc_bind (.ref C)
  have hT : (⟨h, g, d, t, os⟩ : Shared).TypeIs (.ref C) "type" := ⟨_, hC, rfl⟩
  refine wpAny_call (codeAny_of_tree ?_)
  show wpAny _ _ (callAny (.ref C) _) _ _ _
  repeat (any_goals (first | assumption | with_reducible refine wpAny_loadPart_at hC ?_ | wp_step))
  refine ⟨rfl, ?_⟩
  refine codeAny_call_builtin_at (Code.quiet_builtin _ (by decide +kernel)) entry_typeCall (wpAny_check_type_call_sub hC ?_)
  repeat (first | with_reducible refine wpAny_loadPart_at hC ?_ | with_reducible refine wpAny_madeBy_exc hC ?_ | wp_step)
  refine codeAny_call_builtin_code (Code.quiet_builtin _ Fn.quiet) ?_
  have hstar := Fn.noStar
  simp only [checkBuiltinCall, Fn.newKind, Fn.newSplit, Fn.newRow]
  repeat (first | refine wpAny_loadPart_at hC ?_ | (refine wpAny_isSubtype_exc hC ?_; rw [hcB]) | refine wpAny_staticBase_exc hC ?_ | refine wpAny_madeBy_exc hC ?_ | simp only [bne_self_eq_false, Bool.false_eq_true, if_false] | wp_step)
  have hends := Fn.ends
  refine PySem.codeAny_builtinAt Fn.entry ?_
  unfold Builtin.«BaseException.__new__»
  refine PySem.wpAt_bind ?_
  show PySem.wpAt _ _ _ (stack >>= _) _ _ _
  refine PySem.wpAt_bind (PySem.wpAt_stack fun p below => PySem.wpAt_of_wpAny ?_)
  wp_walk
  refine PySem.wpAt_of_wpAny ?_
  rw [Fn.owner]
  repeat (first | with_reducible refine wpAny_madeHere_exc Fn.canon hC ?_ | with_reducible refine wpAny_loadPart_at hC ?_ | (with_reducible refine wpAny_isSubtype_exc hC ?_; first | rw [hcB] | rw [hcA] | rw [hcN]) | wp_step)
  have kp : ∀ b o, h.get? b = some o → ((h.push { cls := .type "tuple", data := .seq rest.toArray }).push { cls := .ref C, data := .fields #[.ref h.objs.size, .none, .none, .none, .bool false, .none] }).get? b = some o :=
    fun b o e => Heap.get?_push_of_some _ (Heap.get?_push_of_some _ e)
  have hC₁ := kp _ _ hC
  have hget : ((h.push { cls := .type "tuple", data := .seq rest.toArray }).push
      { cls := .ref C, data := .fields #[.ref h.objs.size, .none, .none, .none, .bool false, .none] }).get? (h.objs.size + 1) = some
      { cls := .ref C, data := .fields #[.ref h.objs.size, .none, .none, .none, .bool false, .none] } := by heap_get
  have hcC : (Value.ref C :: bm).contains (.ref C) = true := by simp
  have i1 : Looks (model prog w) _ (typeLookup (.ref C) "__init__") (some (.ref fI)) := looks_findIn (X.keeps kp) hi
  have b1 := fun self => bind_fn (M := model prog w) (X.keeps kp) self hf
  show wpAny _ _ (isSubtype (.ref C) (.ref C)) _ _ ⟨(h.push { cls := .type "tuple", data := .seq rest.toArray }).push { cls := .ref C, data := .fields #[.ref h.objs.size, .none, .none, .none, .bool false, .none] }, g, d, t, os⟩
  refine wpAny_isSubtype_exc hC₁ ?_
  rw [hcC]
  simp only [Bool.not_true, Bool.false_eq_true, if_false]
  rw [Heap.size_push]
  have t1 : Looks (model prog w) ((h.push { cls := .type "tuple", data := .seq rest.toArray }).push { cls := .ref C, data := .fields #[.ref h.objs.size, .none, .none, .none, .bool false, .none] }) (typeOf (.ref (h.objs.size + 1))) (.ref C) := (Looks.ld hget).andThen .now
  have i2 : Looks (model prog w) ((h.push { cls := .type "tuple", data := .seq rest.toArray }).push { cls := .ref C, data := .fields #[.ref h.objs.size, .none, .none, .none, .bool false, .none] }) (specialOf (.ref (h.objs.size + 1)) (Str.ofString "__init__")) (some (.ref fI)) := t1.andThen i1
  refine wpAny_bind ?_
  refine wpAny_holding ?_
  unfold callSpecial?
  refine wpAny_bind (i2.at ?_)
  refine wpAny_holding (wpAny_bind ((b1 _).at (wpAny_bind (wpAny_mono (hq _ (h.objs.size + 1) ⟨kp, Heap.get?_none_of_le (Nat.le_succ _), h.objs.size, hget, Heap.get?_none_of_le (Nat.le_refl _), ?_⟩) (fun r s' hr => ?_) fun _ _ x => x))))
  · exact Heap.get?_push_of_some _ (Heap.get?_push_at rfl rfl)
  · obtain ⟨rfl, hQ⟩ := hr
    exact wpAny_pure (wpAny_pure hQ)
end
section
open PySem.Calls
variable {prog : Program} {w : World} {A₀ A : Around} {base h₀ : Heap} {L f : Addr} {m mg mb : Str → Option Value} {s : Shared} {K : Frag} {news : List (Addr × Obj)} {p : Program} {loose : List Str} {mean : ExcName → Option Value} {R : Result → Shared → Prop}
  {oc : Value} {od : Option Addr} {osl : Array (Option Value)} {name qual : Str} {params : Arguments} {body : List Stmt} {scope : Scope} {dV kV doc pm cdv ct : Value} {an : Option Addr} {args : Args} {binds : List (Str × Value)} {ev : Env}
/-- a def that catches, called from the law's own frame, its locals captured or not -/
theorem code_defS0X (B : Below A₀ base [] h₀) (F : Fr h₀ L s.heap m) (X₀ : K.In h₀) (N : News h₀ L s.heap news) (T : Top p loose mean mg mb h₀) (hA : A.frames = some [ev]) (hf : ev.frame = some L) (hke : ev.scope.kind = .function)
    (ho : K.lookup f = some ⟨oc, od, .func (fnOf name qual params body scope dV kV doc pm an cdv ct), osl⟩) (hcd : codeIn K cdv qual = true) (hroom : A.depth < recursionLimit)
    (hbind : BindsTo s (fnOf name qual params body scope dV kV doc pm an cdv ct) args binds) (hloc : ∀ y ∈ binds, scope.names.lookup y.1 = some .local)
    (h : ∀ g L' h₁, Fr h₀ L g m → Fr g L' h₁ (fun y => binds.reverse.lookup y) → News g L' h₁ news → Below A base [ev] g → K.In g → Top p loose mean mg mb g → KtsDicts ([ev].filterMap (·.frame)) g →
      wpAny (model prog w) (A.deeper (envOf qual scope L' f cdv)) (execs body (envOf qual scope L' f cdv))
        (fun fl s' => LeaveS0 ([ev].filterMap (·.frame)) h₀ L m g R (match fl with | .ret v => v | _ => .none) s')
        (fun e s' => wpAny (model prog w) (A.deeper (envOf qual scope L' f cdv)) (leaving (envOf qual scope L' f cdv) e) (fun _ s'' => R (.error e) s'') (fun e' s'' => R (.error e') s'') s')
        { s with heap := h₁, toks := s.toks + binds.length })
    (hco : scope.isCoroutine = false) (hgen : scope.isGenerator = false) (hk : scope.kind = .function)
    (hcell : ∀ x ∈ scope.names, x.2 ≠ .cell) : codeAny (model prog w) A (.call (.ref f) args) R s := by
  have X := X₀.keeps F.keep
  refine codeAny_call_def (fd := fnOf name qual params body scope dV kV doc pm an cdv ct) (body := body) (binds := binds) hroom (X _ _ ho) rfl (T.nolimit.keeps F.keep) (codeRec_of X hcd) rfl hbind hcell hloc (fun h₁ hns hk₁ => ?_) hco hgen hk
  have nm : ∀ b o, h₀.get? b = some o → b ∉ news.map (·.1) := fun b o e q => by
    obtain ⟨p, hp, rfl⟩ := List.mem_map.mp q
    rw [(N p hp).2.2] at e
    cases e
  have st : h₀.StaysIn (hideAll s.heap (news.map (·.1))) := fun b o e => hideAll_get _ (F.keep b o e) (nm b o e)
  obtain ⟨oL, es, ep, hL, hLd, hLk, hLf⟩ := F.ns
  have nL : L ∉ news.map (·.1) := fun q => by
    obtain ⟨p, hp, e⟩ := List.mem_map.mp q
    exact (N p hp).2.1 e
  have hLg := hideAll_get (news.map (·.1)) hL nL
  have nL₀ : h₀.get? L = none := kts_self F
  have fr1 : ∀ b, b ∈ [ev].filterMap (·.frame) → b = L := fun b hb => by
    obtain ⟨env, he, hb⟩ := List.mem_filterMap.mp hb
    rw [List.mem_singleton.mp he, hf] at hb
    exact (Option.some.inj hb).symm
  have B₂ : Below A base [ev] (hideAll s.heap (news.map (·.1))) := ⟨hA, fun b o e => st b o (B.stays b o e), ⟨(by rw [hke]; decide), ⟨L, oL, hf, fresh_of_stays B.stays nL₀, hLg, fun vs q => by rw [hLd] at q; cases q⟩, trivial⟩⟩
  refine wpAny_mono (h _ s.heap.objs.size h₁ ⟨⟨oL, es, ep, hLg, hLd, hLk, hLf⟩, st, F.above⟩ ⟨hns, fun b o e => hk₁ b o (of_hideAll _ e), Nat.le_of_eq (hideAll_size _ _)⟩
    (fun p hp => ⟨hk₁ _ _ (N p hp).1, Nat.ne_of_lt (Heap.lt_size (N p hp).1), hideAll_none _ (List.mem_map_of_mem hp)⟩) B₂ (X₀.keeps st) (T.keeps st) (fun b hb => by
      rw [fr1 b hb]
      exact ⟨oL, es, ep, hLg, hLd⟩)) (fun fl s' hl => ?_) fun _ _ y => y
  obtain ⟨g', L', m', news', T', F', N', k⟩ := hl
  obtain ⟨sl, hs⟩ := T'.up hLg
  refine k ⟨⟨_, es, ep, F'.keep _ _ hs, hLd, hLk, hLf⟩, fun b o e => F'.keep b o (T'.other b o (st b o e) (fun q => by
    rw [fr1 b q, nL₀] at e
    cases e)), F.above⟩ fun p hp => ⟨(N' p hp).1, fun q => ?_, ?_⟩
  · have := (N' p hp).2.2
    rw [q, hs] at this
    cases this
  · cases q : h₀.get? p.1 with
    | none => rfl
    | some o =>
      obtain ⟨sl', hs'⟩ := T'.up (st _ _ q)
      have := (N' p hp).2.2
      rw [hs'] at this
      cases this
end
def badIn (K : Frag) (C : Addr) (T newId : String) : Bool := match K.lookup C with
  | some ⟨.type "type", _, .cls cd, sl⟩ => (match cd.mro, sl.toList with
    | .ref C' :: bm, [_, _, _, _, some (.builtin n), _] => C' == C && !cd.hasDel && n == newId && bm.contains (.type T) && !(bm.contains (.type "AttributeError")) && !(bm.contains (.type "NameError"))
    | _, _ => false)
  | _ => false
theorem bad_cls {K : Frag} {h : Heap} {C : Addr} {T newId : String} (X : K.In h) (q : badIn K C T newId = true) : ∃ nm qn N bs bm hdct sn sub ab col dd k0 k1 k2 k3 k5,
    h.get? C = some (excClassObj nm qn C N bs bm hdct sn sub ab col dd k0 k1 k2 k3 k5 newId) ∧ (Value.ref C :: bm).contains (.type T) = true ∧ (Value.ref C :: bm).contains (.type "AttributeError") = false ∧ (Value.ref C :: bm).contains (.type "NameError") = false := by
  unfold badIn at q
  split at q
  · rename_i dd cd sl ho
    split at q
    · rename_i C' bm k0 k1 k2 k3 n k5 hm hs
      simp only [Bool.and_eq_true, beq_iff_eq, Bool.not_eq_true'] at q
      obtain ⟨⟨⟨⟨⟨rfl, hdel⟩, rfl⟩, hb⟩, ha⟩, hn⟩ := q
      obtain ⟨nm, bs, mro, ns, qn, hd, sn, sub, ab, col, del⟩ := cd
      dsimp only at hm hdel
      subst hm hdel
      have hsl : sl = #[k0, k1, k2, k3, some (.builtin n), k5] := by
        obtain ⟨l⟩ := sl
        simp only at hs
        rw [hs]
      subst hsl
      exact ⟨nm, qn, ns, bs, bm, hd, sn, sub, ab, col, dd, k0, k1, k2, k3, k5, X _ _ ho, by rw [List.contains_cons, hb, Bool.or_true], by rw [List.contains_cons, ha]; rfl, by rw [List.contains_cons, hn]; rfl⟩
    · cases q
  · cases q
section
variable {prog : Program} {w : World} {A : Around} {E : Value → Shared → Prop} {s : Shared} {h₀ : Heap} {L e : Addr} {m : Str → Option Value} {news : List (Addr × Obj)}
variable {nm q : Str} {C N : Addr} {bs bm bmB : List Value} {hdct : Bool} {sn : List Str} {sub : List Value} {ab : Bool} {col : Option Bool} {dd : Option Addr} {k0 k1 k2 k3 k5 : Option Value} {B nid newId initId : String}
set_option maxHeartbeats 2000000 in
/-- a built-in exception's __init__, called on an own class's object: its arguments are stored anew -/
theorem exc_init_call {t : Addr} {rest : List Value} {Q : Value → Shared → Prop} (Fn : ExcBaseFacts B nid initId bmB) (hC : s.heap.get? C = some (excClassObj nm q C N bs bm hdct sn sub ab col dd k0 k1 k2 k3 k5 newId)) (hcB : (Value.ref C :: bm).contains (.type B) = true)
    (F : Fr h₀ L s.heap m) (Nw : News h₀ L s.heap ((e, { cls := .ref C, data := .fields #[.ref t, .none, .none, .none, .bool false, .none] }) :: news)) (hoe : ∀ z ∈ news, z.1 ≠ e) (hrest : rest.length ≤ sizeLine)
    (k : ∀ t' h', Fr h₀ L h' m → News h₀ L h' ((e, { cls := .ref C, data := .fields #[.ref t', .none, .none, .none, .bool false, .none] }) :: (t', { cls := .type "tuple", data := .seq rest.toArray }) :: news) → (∀ z ∈ news, z.1 ≠ t') → @Ne Nat t' e → Q .none { s with heap := h' }) :
    wpAny (model prog w) A (call (.builtin initId) (.ref e :: rest)) Q E s := by
  have ze := Nw _ (.head _)
  obtain ⟨h, g, d, tk, os⟩ := s
  have he := ze.1
  have hshort := Fn.noStar
  refine wpAny_call (codeAny_call_builtin Fn.init.plain Fn.initEntry ?_)
  simp only [checkBuiltinCall, Fn.initKind, Fn.initSplit, Fn.initRow]
  repeat (first | with_reducible refine wpAny_loadPart_at he ?_ | with_reducible refine wpAny_loadPart_at hC ?_ | (with_reducible refine wpAny_isSubtype_exc hC ?_; rw [hcB]) | wp_step)
  refine wpAny_onRaise ?_
  rw [show ∀ (a b : String) (n : Nat), Bind.check ⟨.positional, "*", B, .self, [⟨"args", .varPos, false⟩]⟩ a b n (List.map (fun x => x.fst) ({ pos := Value.ref e :: rest } : Args).kw) = pure () from
    fun a b n => check_star_args _ _ _ _ _ _]
  refine wpAny_pure ?_
  wp_walk
  have hnew : ∀ b o, h.get? b = some o → (h.push { cls := .type "tuple", data := .seq rest.toArray }).get? b = some o := fun b o q => Heap.get?_push_of_some _ q
  have F1 := F.keeps hnew
  have N1 := News.grown Nw hnew

  have hs : Heap.SameBut e (h.push { cls := .type "tuple", data := .seq rest.toArray }) ((h.push { cls := .type "tuple", data := .seq rest.toArray }).update e (Obj.mapFields fun x => x.setIfInBounds 0 (.ref h.objs.size))) := Heap.SameBut.update ..
  have he2 := Heap.get?_update_self (Obj.mapFields fun x => x.setIfInBounds 0 (.ref h.objs.size)) (hnew _ _ he) rfl
  have ht : (h.push { cls := .type "tuple", data := .seq rest.toArray }).get? h.objs.size = some { cls := .type "tuple", data := .seq rest.toArray } := Heap.get?_push_size _ rfl
  have lte : @LT.lt Nat _ e h.objs.size := Heap.lt_size he
  have htn : h₀.get? h.objs.size = none := by
    cases q : h₀.get? h.objs.size with
    | none => rfl
    | some o' => exact absurd (Heap.lt_size (F.keep _ _ q)) (Nat.lt_irrefl _)
  refine k h.objs.size _ (F1.change hs ze.2.1 ze.2.2) (fun p hp => ?_) (fun z hz => Nat.ne_of_lt (Heap.lt_size (Nw z (.tail _ hz)).1)) (Nat.ne_of_gt lte)
  rcases List.mem_cons.mp hp with rfl | hp
  · exact ⟨he2, ze.2⟩
  rcases List.mem_cons.mp hp with rfl | hp
  · exact ⟨hs.extBut _ _ (Nat.ne_of_gt lte) ht, Ne.symm (Nat.ne_of_lt F.ns.lt), htn⟩
  · exact ⟨hs.extBut _ _ (hoe p hp) (N1 p (.tail _ hp)).1, (N1 p (.tail _ hp)).2⟩
end
noncomputable def overVal : List Value → Bool
  | .ref _ :: r => overVal r
  | l => l == [.type "ValueError", .type "Exception", .type "BaseException", .type "object"]
theorem overVal_cases : ∀ {l : List Value}, overVal l = true → (∃ c r, l = .ref c :: r ∧ overVal r = true) ∨ l = [.type "ValueError", .type "Exception", .type "BaseException", .type "object"]
  | .ref c :: r, h => .inl ⟨c, r, rfl, h⟩
  | [], h => .inr (by simpa [overVal] using h)
  | .type n :: r, h => .inr (by simpa [overVal] using h)
  | .none :: r, h => .inr (by simpa [overVal] using h)
  | .bool b :: r, h => .inr (by simpa [overVal] using h)
  | .int n t :: r, h => .inr (by simpa [overVal] using h)
  | .str x t :: r, h => .inr (by simpa [overVal] using h)
  | .builtin i :: r, h => .inr (by simpa [overVal] using h)
  | v :: r, h => by
    cases v <;> first | exact .inl ⟨_, _, rfl, h⟩ | exact .inr (by simpa [overVal] using h)
theorem refuse_val (self : Value) : ∀ (l : List Value), overVal l = true → refuseLoop self "__setattr__" l = pure ()
  | l, e => by
    rcases overVal_cases e with ⟨c, r, rfl, h⟩ | rfl
    · rw [refuseLoop_ref]; exact refuse_val self r h
    · exact PySem.F.store_ValueError.passes self
theorem overVal_has : ∀ (l : List Value), overVal l = true → l.contains (.type "object") = true
  | l, e => by
    rcases overVal_cases e with ⟨c, r, rfl, h⟩ | rfl
    · rw [List.contains_cons, overVal_has r h, Bool.or_true]
    · decide +kernel
section
variable {prog : Program} {w : World} {A : Around} {E : Value → Shared → Prop} {R : Result → Shared → Prop} {s : Shared} {K : Frag} {x C L : Addr} {h₀ : Heap} {m : Str → Option Value} {news : List (Addr × Obj)} {cd : ClassData}
theorem osa_openV {ox : Obj} {od : Option Obj} {name : Str} {tk : Tok} {v : Value} (X : K.In s.heap) (I : InstAt s.heap x ox C od) (hc : clsIn K C = some cd) (ho : overVal cd.mro = true) (ht : findIn K (.ref C) name = some none)
    (h : ∀ b, wpAny (model prog w) A.in1 (Builtin.ObjectAttr.storeInOwnDict (.ref x) (.ref C) (.str name tk) name v b)
      (fun fin s' => match fin with | .done f => R (.ok f) s' | .again c' => c'.quiet = true ∧ codeAny (model prog w) A c' R s') (fun e s' => R (.error e) s') s) :
    codeAny (model prog w) A (.call (.builtin "object.__setattr__") ⟨[.ref x, .str name tk, v], []⟩) R s := by
  have SF := PySem.F.store_object
  have ne : cd.mro.isEmpty = false := by cases q : cd.mro with | nil => rw [q] at ho; cases ho | cons _ _ => rfl
  have sub : Looks (model prog w) s.heap (isInstance (.ref x) (.type "object")) true := I.type.andThen (looks_mroIn X (by unfold mroIn; rw [hc, Option.bind_some, if_neg (by rw [ne]; decide), overVal_has _ ho]))
  refine codeAny_call_builtin SF.slot.plain SF.entry (@check_slot (model prog w) _ _ s "object.__setattr__" "object" "__setattr__" (.ref x) [.str name tk, v] [] _ SF.kind SF.split sub (SF.args (.ref x) (.str name tk) v) ?_)
  have hm : Looks (model prog w) s.heap (mroOf (.ref C)) cd.mro := (looks_clsIn X hc).andThen .now
  rw [osa_eq, refuse_eq]
  refine wpAny_bind (wpAny_bind (I.type.here (wpAny_bind (hm.here ?_))))
  rw [refuse_val _ _ ho]
  refine wpAny_pure (wpAny_bind (I.type.here (wpAny_bind ((looks_findIn X ht).here (wpAny_bind (wpAny_pure ?_))))))
  exact h _
set_option maxHeartbeats 2000000 in
/-- the first field stored on an own exception: its dict is made -/
theorem set_first {dat : Data} {sl : Array (Option Value)} {name : Str} {v : Value} {Q : Unit → Shared → Prop} (X : K.In s.heap) (F : Fr h₀ L s.heap m) (Nw : News h₀ L s.heap ((x, { cls := .ref C, data := dat, slots := sl }) :: news)) (hox : ∀ z ∈ news, z.1 ≠ x)
    (hdat : (∃ vs, dat = .fields vs)) (hc : clsIn K C = some cd) (hd : cd.hasDict = true) (ho : overVal cd.mro = true)
    (hs : findIn K (.ref C) "__setattr__" = some (some (.builtin "object.__setattr__"))) (ht : findIn K (.ref C) name = some none)
    (k : ∀ dx h' tk, Fr h₀ L h' m → News h₀ L h' ((x, { cls := .ref C, dict := some dx, data := dat, slots := sl }) :: news) → Q () { s with heap := h', toks := tk }) :
    wpAny (model prog w) A (setAttr (.ref x) name v) Q E s := by
  have zx := Nw _ (.head _)
  obtain ⟨vs, rfl⟩ := hdat
  have hx := zx.1
  have I : InstAt s.heap x { cls := .ref C, data := .fields vs, slots := sl } C none := ⟨hx, rfl, rfl, trivial⟩
  refine set_plain X I hs (osa_openV (s := { s with toks := s.toks + 1 }) X I hc ho ht fun b => ?_)
  obtain ⟨h, g, d, t, os⟩ := s
  show wpAny _ _ _ _ _ ⟨h, g, d, t + 1, os⟩
  refine wpAny_bind (wpAny_pure (wpAny_bind (wpAny_bind (wpAny_loadPart hx (wpAny_bind ((looks_clsIn X hc).here (s := ⟨h, g, d, t + 1, os⟩) ?_))))))
  rw [hd]
  have hx₁ : (h.push { cls := .type "dict", data := .dict #[] }).get? x = some { cls := .ref C, data := .fields vs, slots := sl } := Heap.get?_push_of_some _ hx
  have hxs : x ≠ h.objs.size := Nat.ne_of_lt (Heap.lt_size hx)
  dsimp only
  rw [if_neg (by simp), if_neg (by simp [typeHasDict])]
  refine wpAny_bind (wpAny_alloc' ?_)
  refine wpAny_bind (wpAny_update' hx₁ ?_)
  refine wpAny_pure ?_
  have hgd : ((h.push { cls := .type "dict", data := .dict #[] }).update x fun o => { cls := o.cls, dict := some h.objs.size, data := o.data, slots := o.slots }).get? h.objs.size
      = some { cls := .type "dict", data := .dict #[] } :=
    (Heap.get?_update_ne _ _ _ _ hxs.symm).trans (Heap.get?_push_at rfl rfl)
  have hnd : ((h.push { cls := .type "dict", data := .dict #[] }).update x fun o => { cls := o.cls, dict := some h.objs.size, data := o.data, slots := o.slots }).Ns h.objs.size (fun _ => none) :=
    ⟨_, #[], _, hgd, rfl, fun e he => absurd he (by simp), fun _ => rfl⟩
  show wpAny _ _ (Builtin.ObjectAttr.storeInDict h.objs.size (.str name t) name v) _ _ _
  unfold Builtin.ObjectAttr.storeInDict Builtin.ObjectAttr.newKeyGuard
  refine wpAny_bind (wpAny_pure (wpAny_bind (wpAny_nsSet1 (Heap.Ns1.of_empty hnd) fun h' hn' hs => ?_)))
  obtain ⟨oD, esD, epD, hoD, hdD, hcD⟩ := hn'.count (Within.cons name v Within.nil)
  refine wpAny_bind (wpAny_lookBehind hoD (by rw [hdD]; exact pastItsLine_dict (Nat.le_trans hcD (by rw [List.length_cons, List.length_nil, sizeLine_eq]; omega))) ?_)
  have hL : @LT.lt Nat _ L h.objs.size := F.ns.lt
  have ke : ∀ b ob, @LT.lt Nat _ b h.objs.size → b ≠ x → h.get? b = some ob → h'.get? b = some ob := fun b ob hb hbx e =>
    (hs.2 b (Nat.ne_of_lt hb)).trans ((Heap.get?_update_ne _ _ _ _ hbx).trans (Heap.get?_push_of_some _ e))
  have hx' : h'.get? x = some { cls := .ref C, dict := some h.objs.size, data := .fields vs, slots := sl } := (hs.2 x hxs).trans (Heap.get?_update_self _ hx₁ rfl)
  have hxL : L ≠ x := Ne.symm zx.2.1
  refine wpAny_pure (k h.objs.size h' _ ⟨F.ns.at' fun o e => ke _ _ hL hxL e, fun b o e => ke _ _ (Heap.lt_size (F.keep _ _ e)) (fun q => by rw [q, zx.2.2] at e; cases e) (F.keep _ _ e), F.above⟩ fun p hp => ?_)
  rcases List.mem_cons.mp hp with rfl | hp
  · exact ⟨hx', zx.2⟩
  · have z := Nw p (.tail _ hp)
    exact ⟨ke _ _ (Heap.lt_size z.1) (hox p hp) z.1, z.2⟩
end

end

/-! part Told -/
section
section
open PySem.Calls LCg
variable {prog : Program} {w : World} {A : Around} {E : Value → Shared → Prop} {s : Shared} {h₀ : Heap} {L : Addr} {m : Str → Option Value} {env : Env}
/-- iterating a list of the ledger -/
theorem iter_list {ax : Addr} {its : Array Value} {k : Nat} {news : List (Addr × Obj)} {Q : Value → Shared → Prop} (hh : A.handled = none) (F : Fr h₀ L s.heap m) (N : News h₀ L s.heap news) (hm : (ax, W.listOf its k) ∈ news)
    (h : ∀ I h', Fr h₀ L h' m → News h₀ L h' news → Walks prog w A I [I, ax] [I] its.size (fun i v => its[i]? = some v) (fun i h => h.IsListIter I ax i ∧ h.IsList ax its) → (h'.IsListIter I ax 0 ∧ h'.IsList ax its) →
      (∀ b ∈ [I, ax], @LT.lt Nat _ b h'.objs.size) → L ≠ I → h₀.get? I = none → (∀ p ∈ news, p.1 ≠ I) → Q (.ref I) { s with heap := h' }) :
    wpAny (model prog w) A (pyIter (.ref ax)) Q E s := by
  have hl : s.heap.IsList ax its := News.isList N hm
  have hlt : @LT.lt Nat _ ax s.heap.objs.size := Heap.lt_size (N _ hm).1
  refine wpAny_pyIter_list hl ?_
  have up : ∀ b o, s.heap.get? b = some o → (s.heap.push { cls := .type "list_iterator", data := .fields #[.ref ax, .int 0 0] }).get? b = some o := fun b o e => Heap.get?_push_of_some _ e
  refine h _ _ (F.keeps up) (News.grown N up) (Walks.list hh s.heap.objs.size ax (Nat.ne_of_lt hlt) its) ⟨⟨_, Heap.get?_push_size _ rfl, rfl, rfl⟩, hl.push _⟩ (fun b hb => ?_) (Nat.ne_of_lt F.ns.lt) ?_ fun p hp => Nat.ne_of_lt (Heap.lt_size (N p hp).1)
  · rw [Heap.size_push]
    rcases List.mem_cons.mp hb with rfl | hb
    · exact Nat.lt_succ_self _
    · rw [List.mem_singleton.mp hb]; exact Nat.lt_succ_of_lt hlt
  · cases e : h₀.get? s.heap.objs.size with
    | none => rfl
    | some o' => exact absurd (Heap.lt_size (F.keep _ _ e)) (Nat.lt_irrefl _)
theorem list_io {ax I : Addr} {its : Array Value} : ∀ (i : Nat) (h : Heap), (h.IsListIter I ax i ∧ h.IsList ax its) → ∃ o, h.get? I = some o := fun _ _ st => by obtain ⟨o, e, _⟩ := st.1; exact ⟨o, e⟩
theorem list_keep {ax I : Addr} {its : Array Value} {k : Nat} (i : Nat) (h h' : Heap) (o : Obj) (nw : List (Addr × Obj)) (st : h.IsListIter I ax i ∧ h.IsList ax its) (e : h.get? I = some o) (e' : h'.get? I = some o) (N : News h₀ L h' nw) (hm : (ax, W.listOf its k) ∈ nw) :
    h'.IsListIter I ax i ∧ h'.IsList ax its := by
  obtain ⟨o', q, r⟩ := st.1
  rw [e] at q
  cases q
  exact ⟨⟨_, e', r⟩, News.isList N hm⟩
/-- the channels of all pipes, told into a list -/
theorem blockTold {elt i1 i2 : Expr} {x x2 : Str} {px px2 : Pos} {scope : Scope} {cl : List (Str × Addr)} {pos : Pos} {I pl : Addr} {np : Nat} {ps : List PS} {news : List (Addr × Obj)} {RR : Value → Addr → Result → Shared → Prop}
    (hh : A.handled = none) (hlen : ps.length ≤ 3) (hpl : (pl, W.listOf (ps.map fun p => Value.ref p.x).toArray np) ∈ news)
    (Wk : Walks prog w A I [I, pl] [I] (ps.map fun p => Value.ref p.x).toArray.size (fun i v => (ps.map fun p => Value.ref p.x).toArray[i]? = some v) (fun i h => h.IsListIter I pl i ∧ h.IsList pl (ps.map fun p => Value.ref p.x).toArray))
    (hst : s.heap.IsListIter I pl 0 ∧ s.heap.IsList pl (ps.map fun p => Value.ref p.x).toArray) (hfp : ∀ b ∈ [I, pl], @LT.lt Nat _ b s.heap.objs.size)
    (F : Fr h₀ L s.heap m) (N : News h₀ L s.heap news) (hIL : L ≠ I) (hI₀ : h₀.get? I = none) (off : ∀ p ∈ news, p.1 ≠ I)
    (hcell : ∀ y ∈ scope.names, y.2 ≠ .cell) (hkind : scope.kind = .function) (hx : scope.names.lookup x = some .local) (hx2 : scope.names.lookup x2 = some .local) (hxx : x ≠ x2)
    (hf2 : ∀ C y, foldedSetIterable i2 (compEnvC scope cl C env) y = pure y)
    (inner : ∀ nw oI C oC D oD m₂ h tk, (∀ z ∈ news, z ∈ nw) → NsObj oC m₂ → Fr h₀ L h m → News h₀ L h ((I, oI) :: (C, oC) :: (D, oD) :: nw) →
      wpAny (model prog w) A (eval i2 (compEnvC scope cl C env)) (fun v2 s' => ∃ h' tk' D2 a b k2, v2 = .ref D2 ∧ s' = { s with heap := h', toks := tk' } ∧ Fr h₀ L h' m ∧ News h₀ L h' ((D2, W.listOf #[.int 0 a, .int 1 b] k2) :: (I, oI) :: (C, oC) :: (D, oD) :: nw) ∧
        (∀ p ∈ (I, oI) :: (C, oC) :: (D, oD) :: nw, p.1 ≠ D2)) (fun _ _ => False) { s with heap := h, toks := tk })
    (step : ∀ (j : Nat) nw (p : PS) t I2 oI2 D2 oD2 oI C oC D oD m₂ h tk, j < 2 → p ∈ ps → (∀ z ∈ news, z ∈ nw) → NsObj oC m₂ → m₂ x = some (.ref p.x) → m₂ x2 = some (.int j t) → Fr h₀ L h m → News h₀ L h ((I2, oI2) :: (D2, oD2) :: (I, oI) :: (C, oC) :: (D, oD) :: nw) →
      wpC (model prog w) A (eval elt (compEnvC scope cl C env)) (fun y s' => ∃ h' tk' Tu a b c, y = .ref Tu ∧ s' = { s with heap := h', toks := tk' } ∧ Fr h₀ L h' m ∧ News h₀ L h' ((Tu, tupO (p.id, (j : Int)) a b c) :: (I2, oI2) :: (D2, oD2) :: (I, oI) :: (C, oC) :: (D, oD) :: nw) ∧
        (∀ z ∈ (I2, oI2) :: (D2, oD2) :: (I, oI) :: (C, oC) :: (D, oD) :: nw, z.1 ≠ Tu)) (fun _ _ => False) { s with heap := h, toks := tk })
    (fin : ∀ D C h tk m' ys cs, TC cs (keysOf ps) ys → (∀ z ∈ cs, ∀ y ∈ news, z.1 ≠ y.1) → Fr h₀ L h m → News h₀ L h ((D, lst ys) :: (cs ++ news)) → (∀ p ∈ cs ++ news, p.1 ≠ D) → h.Ns C m' → h₀.get? C = none → C ≠ L → @Ne Nat C D → (∀ p ∈ cs ++ news, p.1 ≠ C) → RR (.ref D) C (.ok .next) { s with heap := h, toks := tk }) :
    wpAny (model prog w) A (newList []) (fun acc s₃ => wpAny (model prog w) A (newFunctionEnv scope env.globals cl [] env.qual none .none (some env)) (fun cenv s₄ =>
      codeC (model prog w) A (.compStart (.ListComp elt [⟨.Name x px, i1, [], 0⟩, ⟨.Name x2 px2, i2, [], 0⟩] scope pos) 0 (.ref I) acc { cenv with scope := relabel scope env }) (RR acc cenv.locals) s₄) E s₃) E s := by
  have hsz : (ps.map fun p => Value.ref p.x).toArray.size = ps.length := by simp
  refine blockC2 (n2 := 2) (V2 := fun j v => ∃ t, v = .int j t) (T := fun i j ys nw => ∃ cs, nw = cs ++ news ∧ (∀ z ∈ cs, ∀ y ∈ news, z.1 ≠ y.1) ∧ TC cs ((keysOf ps).take (2 * i + j)) ys) Wk hh list_io ?_ hcell hkind hx hx2 hxx hst hfp F N hIL hI₀ off ⟨[], rfl, (fun _ h => nomatch h), .nil⟩ ?_ ?_ hf2 ?_ ?_ ?_
  · rintro i h h' o nw ys st e e' N' ⟨cs, rfl, _⟩
    exact list_keep _ _ _ _ _ st e e' N' (List.mem_append_right _ hpl)
  · rintro i ys nw ⟨cs, e, a, b⟩
    exact ⟨cs, e, a, by rw [show 2 * (i + 1) + 0 = 2 * i + 2 by omega]; exact b⟩
  · rintro i j ys nw ⟨cs, e, a, b⟩
    rw [b.length, List.length_take, keysOf_length, sizeLine_eq]
    omega
  · intro i ys nw v oI C oC D m₂ h tk hi hT hP hC hv F' N' _ _
    refine wpAny_mono (inner nw oI C oC D (lst ys) m₂ h tk (by obtain ⟨cs, rfl, _⟩ := hT; exact fun z hz => List.mem_append_right _ hz) hC F' N') (fun v2 s' h' => ?_) fun _ _ e => e
    obtain ⟨h', tk', D2, a, b, k2, rfl, rfl, F₂, N₂, o2⟩ := h'
    refine ⟨h', tk', D2, _, k2, rfl, rfl, rfl, fun j u hj => ?_, F₂, N₂, o2⟩
    match j, hj with
    | 0, hj => exact ⟨a, by simpa using hj.symm⟩
    | 1, hj => exact ⟨b, by simpa using hj.symm⟩
    | j + 2, hj => simp at hj
  · rintro i j ys nw v v2 I2 oI2 D2 oD2 oI C oC D m₂ h tk hi hj ⟨cs, rfl, hdj, hT⟩ hP ⟨t, rfl⟩ hC hv hv2 F' N'
    rw [hsz] at hi
    have hp : ps[i]? = some ps[i] := List.getElem?_eq_getElem hi
    have hv' : v = .ref (ps[i]).x := by
      have : (ps.map fun p => Value.ref p.x)[i]? = some v := by simpa using hP
      rw [List.getElem?_map, hp] at this
      exact (Option.some.inj this).symm
    subst hv'
    refine wpC_mono (step j (cs ++ news) ps[i] t I2 oI2 D2 oD2 oI C oC D (lst ys) m₂ h tk hj (List.getElem_mem hi) (fun z hz => List.mem_append_right _ hz) hC hv hv2 F' N') (fun y s' h' => ?_) fun _ _ e => e
    obtain ⟨h', tk', Tu, a, b, c, rfl, rfl, F₂, N₂, o2⟩ := h'
    have hk := keysOf_get ps i j _ hp hj
    refine ⟨h', tk', (Tu, tupO (ps[i].id, (j : Int)) a b c) :: (cs ++ news), rfl, F₂, news_sub N₂ (fun z hz => ?_), ?_, (Tu, tupO (ps[i].id, (j : Int)) a b c) :: cs, rfl, ?_, ?_⟩
    · simp only [List.mem_cons] at hz ⊢
      rcases hz with e | e | e | e | e | e | e <;> simp [e]
    · intro z hz
      rcases List.mem_cons.mp hz with rfl | hz
      · exact .inr ⟨Ne.symm (o2 _ (.head _)), Ne.symm (o2 _ (.tail _ (.head _))), Ne.symm (o2 _ (.tail _ (.tail _ (.head _)))), Ne.symm (o2 _ (.tail _ (.tail _ (.tail _ (.head _))))), Ne.symm (o2 _ (.tail _ (.tail _ (.tail _ (.tail _ (.head _))))))⟩
      · exact .inl hz
    · intro z hz y hy
      rcases List.mem_cons.mp hz with rfl | hz
      · exact Ne.symm (o2 _ (.tail _ (.tail _ (.tail _ (.tail _ (.tail _ (List.mem_append_right _ hy)))))))
      · exact hdj z hz y hy
    · rw [show 2 * i + (j + 1) = (2 * i + j) + 1 by omega, List.take_add_one, hk]
      exact .snoc (hT.mono fun z hz => .tail _ hz) (.head _)
  · rintro D C h tk m' ys nw ⟨cs, rfl, hdj, hT⟩ F' N' o1 hn hC₀ hCL hCD offC
    rw [hsz, show 2 * ps.length + 0 = (keysOf ps).length by rw [keysOf_length]; rfl, List.take_length] at hT
    exact fin D C h tk m' ys cs hT hdj F' N' o1 hn hC₀ hCL hCD offC
end
theorem told_led {h₀ h : Heap} {L D : Addr} {cell pl : Addr × Obj} {oD : Obj} {cs rest : List (Addr × Obj)} {ks : List (Int × Int)} {ys : List Value} (N : News h₀ L h ((D, oD) :: (cs ++ cell :: pl :: rest))) (hdj : ∀ z ∈ cs, ∀ y ∈ cell :: pl :: rest, z.1 ≠ y.1) (hT : TC cs ks ys)
    (o1 : ∀ p ∈ cs ++ cell :: pl :: rest, p.1 ≠ D) (hc : ∀ z ∈ pl :: rest, z.1 ≠ cell.1) :
    ∃ rest2, News h₀ L h (cell :: pl :: (D, oD) :: rest2) ∧ TC rest2 ks ys ∧ (∀ z ∈ rest2, z.1 ≠ cell.1) ∧ @Ne Nat D cell.1 ∧ @Ne Nat pl.1 cell.1 ∧ (∀ z ∈ rest, z ∈ rest2) ∧ (∀ z ∈ rest2, z.1 ≠ D) ∧ @Ne Nat pl.1 D ∧ (∀ z ∈ cs, z.1 ≠ pl.1) ∧ (∀ z ∈ rest2, z ∈ cs ∨ z ∈ rest) := by
  refine ⟨cs ++ rest, news_sub N fun z hz => ?_, hT.mono fun z hz => List.mem_append_left _ hz, fun z hz => ?_, Ne.symm (o1 _ (List.mem_append_right _ (.head _))), hc _ (.head _), fun z hz => List.mem_append_right _ hz, fun z hz => ?_, o1 _ (List.mem_append_right _ (.tail _ (.head _))), fun z hz => hdj z hz _ (.tail _ (.head _)), fun z hz => List.mem_append.mp hz⟩
  · simp only [List.mem_cons, List.mem_append] at hz ⊢
    rcases hz with e | e | e | e | e <;> simp [e]
  · rcases List.mem_append.mp hz with h | h
    · exact hdj z h _ (.head _)
    · exact hc z (.tail _ h)
  · rcases List.mem_append.mp hz with h | h
    · exact o1 z (List.mem_append_left _ h)
    · exact o1 z (List.mem_append_right _ (.tail _ (.tail _ h)))
theorem told_led2 {h₀ h : Heap} {L D : Addr} {a b c : Addr × Obj} {oD : Obj} {cs rest : List (Addr × Obj)} {ks : List (Int × Int)} {ys : List Value} (N : News h₀ L h ((D, oD) :: (cs ++ a :: b :: c :: rest))) (hT : TC cs ks ys) :
    ∃ rest2, News h₀ L h (a :: b :: c :: (D, oD) :: rest2) ∧ TC rest2 ks ys ∧ (∀ z ∈ rest, z ∈ rest2) := by
  refine ⟨cs ++ rest, news_sub N fun z hz => ?_, hT.mono fun z hz => List.mem_append_left _ hz, fun z hz => List.mem_append_right _ hz⟩
  simp only [List.mem_cons, List.mem_append] at hz ⊢
  rcases hz with e | e | e | e | e | e <;> simp [e]
section
open PySem.Calls LCg
variable {prog : Program} {w : World} {A : Around} {E : Value → Shared → Prop} {s : Shared} {h₀ : Heap} {L : Addr} {m : Str → Option Value} {env : Env}
/-- iterating range(n) -/
theorem iter_range {r : Addr} {n : Nat} {t u v : Tok} {news : List (Addr × Obj)} {Q : Value → Shared → Prop} (hh : A.handled = none) (F : Fr h₀ L s.heap m) (N : News h₀ L s.heap news) (hr : IsRange s.heap r 0 (n : Int) 1 t u v) (hn : n ≤ 1000)
    (h : ∀ I h', Fr h₀ L h' m → News h₀ L h' news → Walks prog w A I [I] [I] n (fun i v => ∃ t, v = .int (0 + (i : Int)) t) (fun i h => IsRangeIter h I (0 + (i : Nat) * 1) ((n : Int) - (i : Nat)) 1) → IsRangeIter h' I (0 + ((0 : Nat) : Int) * 1) ((n : Int) - ((0 : Nat) : Int)) 1 →
      (∀ b ∈ [I], @LT.lt Nat _ b h'.objs.size) → L ≠ I → h₀.get? I = none → (∀ p ∈ news, p.1 ≠ I) → Q (.ref I) { s with heap := h' }) :
    wpAny (model prog w) A (pyIter (.ref r)) Q E s := by
  have e1 : Builtin.Range.rangeSize 0 (n : Int) 1 = (n : Int) := by
    unfold Builtin.Range.rangeSize
    simp
    omega
  have e2 : Builtin.Range.small 0 (n : Int) 1 = true := by
    unfold Builtin.Range.small
    rw [e1]
    unfold Builtin.Range.rangeFitsLong
    simp
    omega
  refine wpAny_pyIter_range hr e2 ?_
  rw [e1]
  have up : ∀ b o, s.heap.get? b = some o → (s.heap.push { cls := .type "range_iterator", data := .fields #[rawInt 0, rawInt (n : Int), rawInt 1] }).get? b = some o := fun b o e => Heap.get?_push_of_some _ e
  refine h _ _ (F.keeps up) (News.grown N up) (range_walks hh 0 n) ?_ (fun b hb => ?_) (Nat.ne_of_lt F.ns.lt) ?_ fun p hp => Nat.ne_of_lt (Heap.lt_size (N p hp).1)
  · show IsRangeIter _ _ _ _ _
    simpa using Heap.get?_push_size _ rfl
  · rw [List.mem_singleton.mp hb, Heap.size_push]
    exact Nat.lt_succ_self _
  · cases e : h₀.get? s.heap.objs.size with
    | none => rfl
    | some o' => exact absurd (Heap.lt_size (F.keep _ _ e)) (Nat.lt_irrefl _)
end
section
open PySem.Calls LCg
variable {prog : Program} {w : World} {A : Around} {E : Value → Shared → Prop} {s : Shared} {h₀ : Heap} {L l : Addr} {m : Str → Option Value} {news : List (Addr × Obj)} {value : PySem.Expr} {a b : Option PySem.Expr} {sp : Pos} {vs : List Value} {n : Nat} {y : Int} {t : Tok}
theorem range_keep {I : Addr} {a : Int} {n : Nat} (i : Nat) (h h' : Heap) (o : Obj) (st : IsRangeIter h I (a + (i : Nat) * 1) ((n : Int) - (i : Nat)) 1) (e : h.get? I = some o) (e' : h'.get? I = some o) : IsRangeIter h' I (a + (i : Nat) * 1) ((n : Int) - (i : Nat)) 1 := by
  have st' : h.get? I = some _ := st
  show h'.get? I = some _
  rw [e', ← e]
  exact st'
theorem pick_upto (h : 0 ≤ y) : (slicePick vs.toArray none (some y) none).toList = vs.take y.toNat := by
  obtain ⟨k, rfl⟩ := Int.eq_ofNat_of_zero_le h
  have e : sliceBounds none (some (k : Int)) none vs.toArray.size = (((0 : Nat) : Int), ((min k vs.toArray.size : Nat) : Int), 1) := by
    simp only [sliceBounds, Option.getD_none, show (1 : Int) > 0 by decide, if_true, if_neg (show ¬ ((k : Int) < 0) from Int.not_lt.mpr h)]
    congr 1
    congr 1
    clear h
    generalize vs.toArray.size = z
    omega
  rw [kmk_pick_nat _ e]
  show (vs.drop 0).take (min k vs.toArray.size - 0) = _
  rw [List.drop_zero, Nat.sub_zero, List.size_toArray, kmk_take_min]
  rfl
theorem list_uptoV {Q : Value → Shared → Prop} (F : Fr h₀ L s.heap m) (N : News h₀ L s.heap news) (hm : (l, W.listOf vs.toArray n) ∈ news) (h0 : 0 ≤ y) (hz : vs.length ≤ 1000)
    (h : ∀ D h', Fr h₀ L h' m → News h₀ L h' ((D, W.listOf (vs.take y.toNat).toArray 0) :: news) → (∀ p ∈ news, p.1 < D) → Q (.ref D) { s with heap := h' }) :
    wpAny (model prog w) A (subscriptTail value (.Slice a b none sp) (.ref l) (.ref s.heap.objs.size)) Q E { s with heap := s.heap.push { cls := .type "slice", data := .fields #[.none, .int y t, .none] } } :=
  kba_turn (value' := PySem.Expr.Name (PySem.Str.ofString "x") ⟨0, 0, 0, 0⟩) (fun _ => rfl)
    (kmk_slice_lit F N (News.isList N hm) IsPart.none (IsPart.int _ _) (pick_upto h0) h rfl (fun _ => rfl) (by rw [List.size_toArray, sizeLine_eq]; omega))
theorem item_at {slice : PySem.Expr} {k : Int} {u : Tok} {x : Value} {Q : Value → Shared → Prop} (N : News h₀ L s.heap news) (hm : (l, W.listOf vs.toArray n) ∈ news) (h0 : 0 ≤ k) (hfit : k < 1000) (hx : vs[k.toNat]? = some x) (h : Q x s)
    (hs : subscripted slice false (.ref l) (.int k u) = operate [.ref l, .int k u] (getItem (.ref l) (.int k u)) := by with_unfolding_all rfl) :
    wpAny (model prog w) A (subscriptTail value slice (.ref l) (.int k u)) Q E s :=
  kba_turn (value' := PySem.Expr.Name (PySem.Str.ofString "x") ⟨0, 0, 0, 0⟩) (fun _ => rfl) (item_listL (News.isList N hm) h0 (by omega) hx h hs (fun _ => rfl))
end

end

/-! part LawL -/
section
section
open PySem.Calls LCg
/-- all addresses of the ledger are apart -/
abbrev AP (l : List (Addr × Obj)) : Prop := List.Pairwise (fun a b : Addr × Obj => b.1 ≠ a.1) l
theorem ap_perm {l l' : List (Addr × Obj)} (h : l.Perm l') (a : AP l) : AP l' := (h.pairwise_iff (fun e => Ne.symm e)).mp a
theorem ap_off {p : Addr × Obj} {l : List (Addr × Obj)} (a : AP (p :: l)) : ∀ z ∈ l, z.1 ≠ p.1 := (List.pairwise_cons.mp a).1
theorem ap_tail {p : Addr × Obj} {l : List (Addr × Obj)} (a : AP (p :: l)) : AP l := (List.pairwise_cons.mp a).2
theorem ap_cons {p : Addr × Obj} {l : List (Addr × Obj)} (a : AP l) (h : ∀ z ∈ l, z.1 ≠ p.1) : AP (p :: l) := List.pairwise_cons.mpr ⟨h, a⟩
theorem ap_head {p p' : Addr × Obj} {l : List (Addr × Obj)} (a : AP (p :: l)) (e : p'.1 = p.1) : AP (p' :: l) := ap_cons (ap_tail a) fun z hz => e ▸ ap_off a z hz
theorem news_perm {h₀ h : Heap} {L : Addr} {l l' : List (Addr × Obj)} (N : News h₀ L h l) (p : l.Perm l') : News h₀ L h l' := fun z hz => N z (p.mem_iff.mpr hz)
def pcs (w : World) (sz : Int) (p : PS) : List (Addr × Obj) := [(p.od, p.oo), (p.q, W.listOf p.qv.toArray p.nq), (p.x, instObj 107 p.d), (p.d, p.pd w sz), (p.r, baOf p.ring)]
def allp (w : World) (sz : Int) (ps : List PS) : List (Addr × Obj) := ps.flatMap (pcs w sz)
theorem allp_split (w : World) (sz : Int) (l1 l2 : List PS) (p : PS) (X R : List (Addr × Obj)) : (X ++ (allp w sz (l1 ++ p :: l2) ++ R)).Perm (pcs w sz p ++ (X ++ (allp w sz l1 ++ allp w sz l2 ++ R))) := by
  have e : allp w sz (l1 ++ p :: l2) = allp w sz l1 ++ (pcs w sz p ++ allp w sz l2) := by simp [allp]
  rw [e]
  refine List.Perm.trans (List.Perm.append_left X (List.Perm.append_right R (List.perm_append_comm_assoc _ _ _))) ?_
  rw [List.append_assoc (pcs w sz p)]
  exact List.perm_append_comm_assoc _ _ _
variable {prog : Program} {w : World} {A : Around} {E : Value → Shared → Prop} {s : Shared} {h₀ : Heap} {L : Addr} {m : Str → Option Value} {env : Env}
/-- a for over range(n), over clean contexts, with an invariant of the ledger; the names of loc may hold anything between the turns -/
theorem range_loop {σ : Type} {x : Str} {px : Pos} {body : List Stmt} {R : Result → Shared → Prop} {I : Addr} {n : Nat} {St : Nat → Heap → Prop} {fp : List Addr} {loc : Str → Bool} (Led : σ → List (Addr × Obj)) (Facts : Nat → σ → Prop) (c₀ : σ)
    (Wk : Walks prog w A I fp [I] n (fun i v => ∃ t, v = .int (0 + (i : Int)) t) St) (hst : St 0 s.heap) (hIo : ∀ i h, St i h → ∃ o, h.get? I = some o)
    (hSt : ∀ i h h' o, St (i + 1) h → h.get? I = some o → h'.get? I = some o → St (i + 1) h') (hIL : L ≠ I) (hI0 : h₀.get? I = none) (hLf : L ∉ fp)
    (hx : env.kindOf x = some .local) (hl : env.locals = L) (hp : (env.scope.kind == .class || (env.scope.kind == .module && env.locals != env.globals)) = false) (hlx : loc x = true)
    (F : Fr h₀ L s.heap m) (N : News h₀ L s.heap (Led c₀)) (offI : ∀ p ∈ Led c₀, p.1 ≠ I) (ap : AP (Led c₀)) (hf : Facts 0 c₀)
    (turn : ∀ (i : Nat) (c : σ) (u : Str → Option Value) t oI h tk (K : Shared → Prop), i < n → Facts i c → Fr h₀ L h (fun y => if y = x then some (.int i t) else if loc y = true then u y else m y) → News h₀ L h ((I, oI) :: Led c) → AP ((I, oI) :: Led c) →
      (∀ (c : σ) (f : Str → Option Value) h tk, Facts (i + 1) c → Fr h₀ L h f → (∀ y, loc y = false → f y = m y) → News h₀ L h ((I, oI) :: Led c) → AP ((I, oI) :: Led c) → K { s with heap := h, toks := tk }) →
      wpC (model prog w) A (execs body env) (fun fl s₃ => match fl with | .next => K s₃ | .cont => K s₃ | .brk => R (.ok .next) s₃ | .ret v => R (.ok (.ret v)) s₃) (fun _ _ => False) { s with heap := h, toks := tk })
    (done : ∀ (c : σ) (f : Str → Option Value) h tk, Facts n c → Fr h₀ L h f → (∀ y, loc y = false → f y = m y) → News h₀ L h (Led c) → AP (Led c) → R (.ok .next) { s with heap := h, toks := tk }) :
    codeC (model prog w) A (.forLoop (.Name x px) (.ref I) body [] env) R s := by
  refine forLoopC (n := n) (fun i s' => ∃ c f h tk, s' = { s with heap := h, toks := tk } ∧ St i h ∧ Facts i c ∧ Fr h₀ L h f ∧ (∀ y, loc y = false → f y = m y) ∧ News h₀ L h (Led c) ∧ (∀ p ∈ Led c, p.1 ≠ I) ∧ AP (Led c))
    ⟨c₀, m, s.heap, s.toks, rfl, hst, hf, F, fun _ _ => rfl, N, offI, ap⟩ ?_ ?_
  · rintro i s₁ hi ⟨c, f, h, tk, rfl, hst', hf', F₁, hm, N₁, off₁, ap₁⟩
    subst hl
    refine Wk.item i _ _ _ hi hst' fun v h₁ tk₁ hP hst₁ hk₁ => ⟨v, rfl, ?_⟩
    obtain ⟨t, rfl⟩ := hP
    have F₂ := LCg.fr_but F₁ hk₁ hIL hI0
    have N₂ := LCg.news_but N₁ hk₁ off₁
    refine wpAny_storeName_local hx F₂.ns (fun h₂ hn₂ hs₂ => ?_) hp
    have hL₀ : h₀.get? env.locals = none := Heap.get?_none_of_le F₂.above
    have F₃ : Fr h₀ env.locals h₂ (fun y => if y = x then some (.int (0 + (i : Int)) t) else f y) := ⟨hn₂, fun b o e => hs₂.extBut b o (fun q => by rw [q, hL₀] at e; cases e) (F₂.keep b o e), F₂.above⟩
    have hst₂ : St (i + 1) h₂ := Wk.frame _ _ _ hst₁ fun b hb o e => hs₂.extBut b o (fun q => hLf (q ▸ hb)) e
    obtain ⟨oI, eI⟩ := hIo _ _ hst₂
    have N₃ : News h₀ env.locals h₂ ((I, oI) :: Led c) := fun p hp => by
      rcases List.mem_cons.mp hp with rfl | hp
      · exact ⟨eI, Ne.symm hIL, hI0⟩
      · exact ⟨hs₂.extBut _ _ (N₂ p hp).2.1 (N₂ p hp).1, (N₂ p hp).2⟩
    have eM : (fun y => if y = x then some (Value.int (0 + (i : Int)) t) else f y) = (fun y => if y = x then some (.int i t) else if loc y = true then f y else m y) := by
      funext y
      rw [Int.zero_add]
      by_cases h1 : y = x
      · rw [if_pos h1, if_pos h1]
      · rw [if_neg h1, if_neg h1]
        cases h2 : loc y with
        | true => rw [if_pos rfl]
        | false => rw [if_neg (by decide)]; exact hm y h2
    refine wpC_mono (turn i c f t oI h₂ (tk₁ + 1) _ hi hf' (cast (congrArg (Fr h₀ env.locals h₂) eM) F₃) N₃ (ap_cons ap₁ off₁) ?_) (fun fl s₃ h => h) fun _ _ z => z
    intro c' f' h' tk' hf'' F₄ hm' N₄ ap₄
    exact ⟨c', f', h', tk', rfl, hSt _ _ _ _ hst₂ eI (N₄ _ (.head _)).1, hf'', F₄, hm', fun p hp => N₄ p (.tail _ hp), ap_off ap₄, ap_tail ap₄⟩
  · rintro s₁ ⟨c, f, h, tk, rfl, hst', hf', F₁, hm, N₁, off₁, ap₁⟩
    exact comp_last (s := { s with heap := h, toks := tk }) Wk hst' F₁ N₁ hIL hI0 off₁ fun h₂ tk₂ F₂ N₂ => done c f h₂ tk₂ hf' F₂ hm N₂ ap₁
end
theorem rem_perm {p : Addr × Obj} {l l' : List (Addr × Obj)} (R : Rem p l l') : l.Perm (p :: l') := by
  induction R with
  | head => exact List.Perm.refl _
  | tail _ ih => exact (List.Perm.cons _ ih).trans (List.Perm.swap _ _ _)
theorem ap_rem3 {p q r : Addr × Obj} {l l1 l2 l3 : List (Addr × Obj)} (a : AP l) (R1 : Rem p l l1) (R2 : Rem q l1 l2) (R3 : Rem r l2 l3) : AP (p :: q :: r :: l3) :=
  ap_perm ((rem_perm R1).trans (List.Perm.cons _ ((rem_perm R2).trans (List.Perm.cons _ (rem_perm R3))))) a
theorem ap_off3 {I C D : Addr × Obj} {nw : List (Addr × Obj)} (a : AP nw) (o : LCg.Off3 I.1 C.1 D.1 nw) (h : @Ne Nat I.1 C.1 ∧ @Ne Nat I.1 D.1 ∧ @Ne Nat C.1 D.1) : AP (I :: C :: D :: nw) :=
  ap_cons (ap_cons (ap_cons a fun z hz => (o.mem z hz).2.2) (off_cons (Ne.symm h.2.2) fun z hz => (o.mem z hz).2.1)) (off_cons (Ne.symm h.1) (off_cons (Ne.symm h.2.1) fun z hz => (o.mem z hz).1))
theorem stored_len {kvs : List (Int × Value)} {k : Int} {v : Value} : (stored kvs k v).length ≤ kvs.length + 1 := by
  unfold stored
  split <;> simp
theorem stored_keys {kvs : List (Int × Value)} {k : Int} {v : Value} : ∀ kv ∈ stored kvs k v, kv.1 = k ∨ ∃ kv' ∈ kvs, kv'.1 = kv.1 := by
  intro kv hkv
  unfold stored at hkv
  split at hkv
  · obtain ⟨kv', h, e⟩ := List.mem_map.mp hkv
    by_cases c : kv'.1 = k
    · rw [if_pos c] at e
      exact .inl (by rw [← e]; exact c)
    · rw [if_neg c] at e
      exact .inr ⟨kv', h, by rw [e]⟩
  · rcases List.mem_append.mp hkv with h | h
    · exact .inr ⟨kv, h, rfl⟩
    · exact .inl (by rw [List.mem_singleton.mp h])
theorem ap_same {l l' : List (Addr × Obj)} (e : l.map (·.1) = l'.map (·.1)) (a : AP l) : AP l' := by
  have h : List.Pairwise (fun x y : Addr => y ≠ x) (l.map (·.1)) := List.pairwise_map.mpr a
  rw [e] at h
  exact List.pairwise_map.mp h
theorem ap_app {l l' : List (Addr × Obj)} {d : Nat} (a : AP l) (b : AP l') (h1 : ∀ z ∈ l, @LT.lt Nat _ z.1 d) (h2 : ∀ z ∈ l', @LE.le Nat _ d z.1) : AP (l ++ l') :=
  List.pairwise_append.mpr ⟨a, b, fun x hx y hy => Nat.ne_of_gt (Nat.lt_of_lt_of_le (h1 x hx) (h2 y hy))⟩
theorem lt_cons {p : Addr × Obj} {l : List (Addr × Obj)} {d : Nat} (h1 : @LT.lt Nat _ p.1 d) (h2 : ∀ z ∈ l, @LT.lt Nat _ z.1 d) : ∀ z ∈ p :: l, @LT.lt Nat _ z.1 d := by
  intro z hz
  rcases List.mem_cons.mp hz with rfl | hz
  · exact h1
  · exact h2 z hz
theorem off3_app {I C D : Addr} {l l' : List (Addr × Obj)} (a : LCg.Off3 I C D l) (b : LCg.Off3 I C D l') : LCg.Off3 I C D (l ++ l') := LCg.Off3.of fun p hp => by
  rcases List.mem_append.mp hp with h | h
  · exact a.mem p h
  · exact b.mem p h
theorem sub_app {l1 l2 l' : List (Addr × Obj)} (h1 : ∀ z ∈ l1, z ∈ l') (h2 : ∀ z ∈ l2, z ∈ l') : ∀ z ∈ l1 ++ l2, z ∈ l' := fun z hz => (List.mem_append.mp hz).elim (h1 z) (h2 z)

end

/-! the walk -/
section
local macro_rules | `(tactic| k_room) => `(tactic| walk_at "my k_room")
local macro_rules | `(tactic| k_all) => `(tactic| walk_at "my k_all")
local macro_rules | `(tactic| k_ne) => `(tactic| walk_at "my k_ne")
local macro_rules | `(tactic| k_units) => `(tactic| walk_at "my k_units")
local macro_rules | `(tactic| walk_at $s:str) => `(tactic| k_extra $s)

/-! part Take -/
section
theorem linesTake : True := by
  k_with_none
  k_with "my k_room" => ((try simp only [depth_under_make, depth_under_kw, depth_in1, depth_deeper, depth_caller]); (try simp only [recursionLimit]); first | decide | exact Nat.le_trans (by with_reducible assumption) (by decide) | exact Nat.le_trans (Nat.add_le_add_right (by with_reducible assumption) _) (by decide) | omega)
  k_with "execs cons" => (k_here; dsimp only; k_gentoks)
  k_with "execs nil" => (k_here; dsimp only; k_gentoks)
  k_with "my k_all" => (with_reducible assumption)
  k_with "my k_ne" => (refine neN ?_; (try dsimp only); first | with_reducible assumption | exact Ne.symm (by with_reducible assumption) | exact NeA.ne (by with_reducible assumption) | exact Ne.symm (NeA.ne (by with_reducible assumption)) | exact Nat.ne_of_lt (by walk_at "pick") | exact Nat.ne_of_gt (by walk_at "pick") | exact Nat.ne_of_gt (Nat.lt_add_one_of_lt (by walk_at "pick")) | exact Nat.ne_of_lt (Nat.lt_add_one_of_lt (by walk_at "pick")) | walk_at "pick" | exact Ne.symm (by walk_at "pick") | omega)
  k_with "my k_units" => ((try simp only [units_under_make, units_in1, units_deeper, Around.mark_units, units_caller]); first | exact Nat.le_trans (Nat.add_le_add_right (by with_reducible assumption) _) (by decide) | exact Nat.le_trans (by with_reducible assumption) (by decide) | exact lt_cline1 (by with_reducible assumption) (by decide) | exact lt_cline2 (by with_reducible assumption) (by decide) | ((have hcL' := cLine_is); omega))
  k_with "subscriptTail Subscript Name Constant Slice ref ref" => (k_here; k_dflt (first | (refine' list_upto (s := ⟨_, _, _, _, _⟩) (by k_asm) (by k_asm) (by k_mem) (by with_reducible assumption) (by omega) (by omega) ?_) | (refine' list_from (s := ⟨_, _, _, _, _⟩) (by k_asm) (by k_asm) (by k_mem) (by with_reducible assumption) (by omega) (by omega) ?_)); intro D' ws' h' F' N' l1 hI'; (try k_lt l1); (try k_sweep))
  k_with "subscriptTail" => (k_here; (with_reducible show wpAny _ _ (subscriptTail _ _ (Value.ref _) (Value.int (Int.fmod _ _) _)) _ _ _); k_dflt (refine' ba_sub (by k_asm) (by k_mem) (by l_fact) (by l_fact) (by omega) ?_ (by with_unfolding_all rfl)))
  k_with "setItem ref int int" => (k_here; k_dflt (refine' ba_set (by k_asm) (by k_asm) (by k_upd) (by l_fact) (by l_fact) (by omega) (by omega) (by omega) ?_); intro h' F' N'; (try k_sweep))
  k_with "call builtin:len" => (k_here; (with_reducible show wpAny _ _ (PySem.call (Value.builtin "len") [Value.ref _]) _ _ _); k_dflt (refine' ba_lenN (by k_asm) (by k_mem) (by omega) ?_))
  k_with "exec For Name Subscript cons nil" => (k_here; refine forA ?_)
  k_with "pyIter bytes" => (k_here; refine KBw.pyIter_bytes ?_)
  k_with "call builtin:len" => (k_here; (with_reducible show wpAny _ _ (PySem.call (Value.builtin "len") [Value.ref _]) _ _ _); k_dflt (refine' list_lenN (by k_asm) (by k_mem) (by with_reducible assumption) (by ((try simp only [List.length_take, List.length_drop]); omega)) ?_))
  k_with "pick" => (focus (apply pickL; (iterate 13 (first | done | with_reducible assumption | apply pickR)); done))
  k_with "ne" => ((try dsimp only); first | assumption | exact Ne.symm (by assumption) | exact NeA.ne (by assumption) | exact Ne.symm (NeA.ne (by assumption)) | exact Nat.ne_of_lt (by walk_at "pick") | exact Nat.ne_of_gt (by walk_at "pick") | exact Nat.ne_of_gt (Nat.lt_add_one_of_lt (by walk_at "pick")) | exact Nat.ne_of_lt (Nat.lt_add_one_of_lt (by walk_at "pick")) | walk_at "pick" | exact Ne.symm (by walk_at "pick") | omega)
  k_with "num" => (first | with_reducible assumption | exact Int.le_add_of_nonneg_right (by decide) | exact nb12 (by with_reducible assumption) (by with_reducible assumption) | (focus ((repeat (first | with_reducible assumption | refine Int.add_nonneg ?_ (by decide))); done)) | exact Int.le_trans (by with_reducible assumption) (by decide) | exact Int.le_trans (Int.add_le_add_right (by with_reducible assumption) _) (by decide) | omega)
  k_with "rem" => (focus ((repeat (first | exact Rem.head | apply Rem.tail)); done))
  k_with "off" => (focus ((repeat (first | assumption | (refine off_cons ?_ ?_; (focus walk_at "ne")))); done))
  k_with "mem" => (focus ((repeat (first | exact List.Mem.head _ | refine List.Mem.tail _ ?_)); done))
  trivial
set_option maxHeartbeats 2000000 in
theorem take_in {w : World} {A₀ : Around} {dp un : Nat} {gd : Option (List Code)} {base h₀ : Heap} {outer : List Env} {env : Env} {L : Addr} {m mg mb : Str → Option Value} {s : Shared} {p : Program} {loose : List Str} {mean : ExcName → Option Value}
    {rest : List (Addr × Obj)} {R : Result → Shared → Prop}
    {bx cl : Addr} {bv : List Value} {bn : List Int} {bk bs : Int} {btk bts : Tok} {nb nc : Nat} {many : Int} {tm : Tok}
    (B : Below A₀ base outer h₀) (F : Fr h₀ L s.heap m) (X : (hd.heap_1 w.params).In h₀)
    (N : News h₀ L s.heap ((bx, W.listOf #[.ref cl, .int (bk) btk, .int bs bts] nb) :: (cl, W.listOf bv.toArray nc) :: rest)) (T : Top p loose mean mg mb h₀)
    (hf : env.frame = some L) (hke : env.scope.kind = .function) (hdep : dp ≤ 400) (hu : un ≤ 1000)
    (hnbx : ∀ z ∈ rest, z.1 ≠ bx) (hclb : @Ne Nat cl bx) (hbI : IntsAre bv bn) (hbn : bn.length ≤ 40) (hbk0 : 0 ≤ bk) (hbk1 : bk ≤ 100000) (hbs0 : 0 ≤ bs) (hbs1 : bs < 1009) (hm0 : 0 < many) (hm1 : many ≤ 100)
    (kont : ∀ r t h t' tk, 0 ≤ r → r < many → Fr h₀ L h m → News h₀ L h ((bx, W.listOf #[.ref cl, .int (bk + 1) t', .int bs bts] nb) :: (cl, W.listOf bv.toArray nc) :: rest) → R (.ok (.ret (.int r t))) { s with heap := h, toks := tk }) :
    codeAny (model PySem.Challenge.rw_nz0210_01.prog w) ⟨none, dp, some (env :: outer), gd, un⟩ (.call (.ref 161) ⟨[.ref bx, .int many tm], []⟩) R s := by
  (refine' code_def ?k1 ?k2 ?k3 ?k4 ?k5 ?kA ?kF ?kK ?k6 ?k7 ?k8 ?k9 ?kB ?_ ?c2 ?c3 ?c4 ?c5; (case kA => exact rfl); (case kF => first | exact rfl | assumption); (case kK => first | exact rfl | assumption); (case k1 => k_asm); (case k2 => k_asm); (case k3 => k_asm); (case k4 => k_asm); (case k5 => k_asm); (case k6 => k_is); (case k7 => k_is); (case k8 => k_room); (case k9 => first | exact BindsTo.of_eq rfl | exact binds_K (by k_in) rfl (by k_is) rfl rfl rfl | fail "k_enter: no rule for these arguments"); (case c5 => decide); (case kB => exact locs rfl); (case c2 => exact rfl); (case c3 => exact rfl); (case c4 => exact rfl); k_whole; intro g' L' h' FG' F' N' B' X' T'; (try dsimp only); (try k_lift B'); (try k_fold))
  (repeat' (first | (k_unfold; (try dsimp only)) | walk1 | (dsimp only; walk1) | (leave1; (try dsimp only)) | fail "no step"))
  all_goals exact kont _ _ _ _ _ (fmod_pos hm0).1 (fmod_pos hm0).2 (by assumption) (by assumption)
set_option maxHeartbeats 2000000 in
theorem take_u {w : World} {A₀ : Around} {dp un : Nat} {gd : Option (List Code)} {base h₀ : Heap} {outer : List Env} {env : Env} {L : Addr} {m mg mb : Str → Option Value} {s : Shared} {p : Program} {loose : List Str} {mean : ExcName → Option Value}
    {R : Result → Shared → Prop}
    {bx cl : Addr} {bv : List Value} {bn : List Int} {bk bs : Int} {btk bts : Tok} {nb nc : Nat} {many : Int} {tm : Tok} {news : List (Addr × Obj)} {g : Obj → List (Addr × Obj)}
    (B : Below A₀ base outer h₀) (F : Fr h₀ L s.heap m) (X : (hd.heap_1 w.params).In h₀)
    (N : News h₀ L s.heap news) (T : Top p loose mean mg mb h₀)
    (hf : env.frame = some L) (hke : env.scope.kind = .function) (hdep : dp ≤ 400) (hu : un ≤ 1000)
    (U : UpdF bx (W.listOf #[.ref cl, .int bk btk, .int bs bts] nb) news g) (hcl : (cl, W.listOf bv.toArray nc) ∈ news) (hclb : @Ne Nat cl bx) (hbI : IntsAre bv bn) (hbn : bn.length ≤ 40) (hbk0 : 0 ≤ bk) (hbk1 : bk ≤ 100000) (hbs0 : 0 ≤ bs) (hbs1 : bs < 1009) (hm0 : 0 < many) (hm1 : many ≤ 100)
    (kont : ∀ r t h t' tk, 0 ≤ r → r < many → Fr h₀ L h m → News h₀ L h (g (W.listOf #[.ref cl, .int (bk + 1) t', .int bs bts] nb)) → R (.ok (.ret (.int r t))) { s with heap := h, toks := tk }) :
    codeAny (model PySem.Challenge.rw_nz0210_01.prog w) ⟨none, dp, some (env :: outer), gd, un⟩ (.call (.ref 161) ⟨[.ref bx, .int many tm], []⟩) R s := by
  refine take_in (nb := nb) (nc := nc) (btk := btk) (bts := bts) (rest := news.filter fun q => decide (q.1 ≠ bx)) B F X ?_ T hf hke hdep hu ?_ hclb hbI hbn hbk0 hbk1 hbs0 hbs1 hm0 hm1 ?_
  · intro q hq
    rcases List.mem_cons.mp hq with rfl | hq
    · obtain ⟨pre, post, e1, _⟩ := U.split
      exact N _ (by rw [e1]; exact List.mem_append.mpr (.inr (.head _)))
    rcases List.mem_cons.mp hq with rfl | hq
    · exact N _ hcl
    · exact N _ (List.mem_filter.mp hq).1
  · intro q hq
    exact of_decide_eq_true (List.mem_filter.mp hq).2
  · intro r t h' t' toks h0 h1 F' N'
    refine kont r t h' t' toks h0 h1 F' fun q hq => N' q ?_
    obtain ⟨pre, post, e1, e2, a, b⟩ := U.split
    rw [e2] at hq
    rcases List.mem_append.mp hq with hq | hq
    · exact .tail _ (.tail _ (List.mem_filter.mpr ⟨by rw [e1]; exact List.mem_append.mpr (.inl hq), decide_eq_true (a q hq)⟩))
    rcases List.mem_cons.mp hq with rfl | hq
    · exact .head _
    · exact .tail _ (.tail _ (List.mem_filter.mpr ⟨by rw [e1]; exact List.mem_append.mpr (.inr (.tail _ hq)), decide_eq_true (b q hq)⟩))
theorem pick3 {r : Int} (h0 : 0 ≤ r) (h1 : r < 3) : 0 < ([5, 12, 61] : List Int).getD r.toNat 0 ∧ ([5, 12, 61] : List Int).getD r.toNat 0 ≤ 61 := by
  have : r = 0 ∨ r = 1 ∨ r = 2 := by omega
  rcases this with rfl | rfl | rfl <;> decide
theorem pick_lt {r t : Int} (h : t < ([5, 12, 61] : List Int).getD r.toNat 0) : t ≤ 60 := by
  match e : r.toNat with
  | 0 | 1 | 2 => rw [e] at h; simp at h; omega
  | n + 3 => rw [e] at h; simp at h; omega
theorem pick2 {r : Int} (h0 : 0 ≤ r) (h1 : r < 2) : 0 < ([5, 40] : List Int).getD r.toNat 0 ∧ ([5, 40] : List Int).getD r.toNat 0 ≤ 40 := by
  have : r = 0 ∨ r = 1 := by omega
  rcases this with rfl | rfl <;> decide

end

/-! part PWrite -/
section
theorem linesPWrite : True := by
  k_with_none
  k_with "my k_room" => ((try simp only [depth_under_make, depth_under_kw, depth_in1, depth_deeper, depth_caller]); (try simp only [recursionLimit]); first | decide | exact Nat.le_trans (by with_reducible assumption) (by decide) | exact Nat.le_trans (Nat.add_le_add_right (by with_reducible assumption) _) (by decide) | omega)
  k_with "execs cons" => (k_here; dsimp only; k_gentoks)
  k_with "execs nil" => (k_here; dsimp only; k_gentoks)
  k_with "my k_all" => (with_reducible assumption)
  k_with "my k_ne" => (refine neN ?_; (try dsimp only); first | with_reducible assumption | exact Ne.symm (by with_reducible assumption) | exact NeA.ne (by with_reducible assumption) | exact Ne.symm (NeA.ne (by with_reducible assumption)) | exact Nat.ne_of_lt (by walk_at "pick") | exact Nat.ne_of_gt (by walk_at "pick") | exact Nat.ne_of_gt (Nat.lt_add_one_of_lt (by walk_at "pick")) | exact Nat.ne_of_lt (Nat.lt_add_one_of_lt (by walk_at "pick")) | walk_at "pick" | exact Ne.symm (by walk_at "pick") | omega)
  k_with "my k_units" => ((try simp only [units_under_make, units_in1, units_deeper, Around.mark_units, units_caller]); first | exact Nat.le_trans (Nat.add_le_add_right (by with_reducible assumption) _) (by decide) | exact Nat.le_trans (by with_reducible assumption) (by decide) | exact lt_cline1 (by with_reducible assumption) (by decide) | exact lt_cline2 (by with_reducible assumption) (by decide) | ((have hcL' := cLine_is); omega))
  k_with "subscriptTail Subscript Name Constant Slice ref ref" => (k_here; k_dflt (first | (refine' list_upto (s := ⟨_, _, _, _, _⟩) (by k_asm) (by k_asm) (by k_mem) (by with_reducible assumption) (by omega) (by omega) ?_) | (refine' list_from (s := ⟨_, _, _, _, _⟩) (by k_asm) (by k_asm) (by k_mem) (by with_reducible assumption) (by omega) (by omega) ?_)); intro D' ws' h' F' N' l1 hI'; (try k_lt l1); (try k_sweep))
  k_with "subscriptTail" => (k_here; (with_reducible show wpAny _ _ (subscriptTail _ _ (Value.ref _) (Value.int (Int.fmod _ _) _)) _ _ _); k_dflt (refine' ba_sub (by k_asm) (by k_mem) (by l_fact) (by l_fact) (by omega) ?_ (by with_unfolding_all rfl)))
  k_with "setItem ref int int" => (k_here; k_dflt (refine' ba_set (by k_asm) (by k_asm) (by k_upd) (by l_fact) (by l_fact) (by omega) (by omega) (by omega) ?_); intro h' F' N'; (try k_sweep))
  k_with "call builtin:len" => (k_here; (with_reducible show wpAny _ _ (PySem.call (Value.builtin "len") [Value.ref _]) _ _ _); k_dflt (refine' ba_lenN (by k_asm) (by k_mem) (by omega) ?_))
  k_with "exec For Name Subscript cons nil" => (k_here; refine forA ?_)
  k_with "pyIter bytes" => (k_here; refine KBw.pyIter_bytes ?_)
  k_with "call builtin:len" => (k_here; (with_reducible show wpAny _ _ (PySem.call (Value.builtin "len") [Value.ref _]) _ _ _); k_dflt (refine' list_lenN (by k_asm) (by k_mem) (by with_reducible assumption) (by ((try simp only [List.length_take, List.length_drop]); omega)) ?_))
  k_with "pick" => (focus (apply pickL; (iterate 13 (first | done | with_reducible assumption | apply pickR)); done))
  k_with "ne" => ((try dsimp only); first | assumption | exact Ne.symm (by assumption) | exact NeA.ne (by assumption) | exact Ne.symm (NeA.ne (by assumption)) | exact Nat.ne_of_lt (by walk_at "pick") | exact Nat.ne_of_gt (by walk_at "pick") | exact Nat.ne_of_gt (Nat.lt_add_one_of_lt (by walk_at "pick")) | exact Nat.ne_of_lt (Nat.lt_add_one_of_lt (by walk_at "pick")) | walk_at "pick" | exact Ne.symm (by walk_at "pick") | omega)
  k_with "num" => (first | with_reducible assumption | exact Int.le_add_of_nonneg_right (by decide) | exact nb12 (by with_reducible assumption) (by with_reducible assumption) | (focus ((repeat (first | with_reducible assumption | refine Int.add_nonneg ?_ (by decide))); done)) | exact Int.le_trans (by with_reducible assumption) (by decide) | exact Int.le_trans (Int.add_le_add_right (by with_reducible assumption) _) (by decide) | omega)
  k_with "rem" => (focus ((repeat (first | exact Rem.head | apply Rem.tail)); done))
  k_with "off" => (focus ((repeat (first | assumption | (refine off_cons ?_ ?_; (focus walk_at "ne")))); done))
  k_with "mem" => (focus ((repeat (first | exact List.Mem.head _ | refine List.Mem.tail _ ?_)); done))
  trivial
set_option maxHeartbeats 1000000 in
theorem write_go {w : World} {A : Around} {h₀ : Heap} {px : Pos} {body : List Stmt} {name : Str} {scope : Scope} {L a I : Addr} {cd : Value} {m : Str → Option Value} {s : Shared} {R : Result → Shared → Prop} {rest : List (Addr × Obj)}
    {x d r : Addr} {id sz rc wc : Int} {ro wo : Bool} {ring : Array UInt8} {k1 k2 k3 k4 k5 k6 k7 t1 t2 t4 t5 : Tok} {b : Array UInt8} {tb : Tok} {ks qn : List Int}
    (hh : A.handled = none) (hkf : scope.kind = .function) (hkl : (envOf name scope L a cd).kindOf "octet" = some .local) (hkb : KBw.bInts b = ks)
    (F : Fr h₀ L s.heap m) (N : News h₀ L s.heap ((I, { cls := .type "bytes_iterator", data := .fields #[.bytes b tb, .int 0 0] }) :: (x, instObj 107 d) :: (d, pdO w id sz r k1 k2 k3 k4 k5 k6 k7 t1 t2 (.int rc t4) (.int (wc) t5) ro wo) :: (r, baOf ring) :: rest))
    (hnI : ∀ z ∈ (x, instObj 107 d) :: (d, pdO w id sz r k1 k2 k3 k4 k5 k6 k7 t1 t2 (.int rc t4) (.int (wc) t5) ro wo) :: (r, baOf ring) :: rest, z.1 ≠ I) (hri : RingIs ring sz rc wc qn)
    (turn : ∀ (i : Nat) (k : Int) t (u : Str → Option Value) (ring' : Array UInt8) t5' h tk o (K : Shared → Prop), i < ks.length → 0 ≤ k → k < 256 → RingIs ring' sz rc (wc + i) (qn ++ ks.take i) → ks.take (i + 1) = ks.take i ++ [k] →
      Fr h₀ L h (fun y => if y = "octet" then some (.int k t) else if y = "octet" then u y else m y) → News h₀ L h ((I, o) :: (x, instObj 107 d) :: (d, pdO w id sz r k1 k2 k3 k4 k5 k6 k7 t1 t2 (.int rc t4) (.int (wc + i) t5') ro wo) :: (r, baOf ring') :: rest) →
      (∀ (ring'' : Array UInt8) t5'' (v : Value) h tk, Fr h₀ L h (fun y => if y = "octet" then some v else if y = "octet" then u y else m y) → News h₀ L h ((I, o) :: (x, instObj 107 d) :: (d, pdO w id sz r k1 k2 k3 k4 k5 k6 k7 t1 t2 (.int rc t4) (.int (wc + (i + 1 : Nat)) t5'') ro wo) :: (r, baOf ring'') :: rest) → RingIs ring'' sz rc (wc + (i + 1 : Nat)) (qn ++ ks.take (i + 1)) → K { s with heap := h, toks := tk }) →
      wpAny (model PySem.Challenge.rw_nz0210_01.prog w) A (execs body (envOf name scope L a cd)) (fun fl s₃ => fl = .next ∧ K s₃) (fun _ _ => False) { s with heap := h, toks := tk })
    (done : ∀ (u : Str → Option Value) (ring' : Array UInt8) t5' h tk, RingIs ring' sz rc (wc + ks.length) (qn ++ ks) → Fr h₀ L h (fun y => if y = "octet" then u y else m y) → News h₀ L h ((x, instObj 107 d) :: (d, pdO w id sz r k1 k2 k3 k4 k5 k6 k7 t1 t2 (.int rc t4) (.int (wc + ks.length) t5') ro wo) :: (r, baOf ring') :: rest) → R (.ok .next) { s with heap := h, toks := tk }) :
    codeAny (model PySem.Challenge.rw_nz0210_01.prog w) A (.forLoop (.Name "octet" px) (.ref I) body [] (envOf name scope L a cd)) R s := by
  have hI := N _ (.head _)
  refine forLoopA (n := ks.length) (fun i s' => ∃ h tk, s' = { s with heap := h, toks := tk } ∧ ∃ (o : Obj) (ring' : Array UInt8) (t5' : Tok) (u : Str → Option Value), ItO o b tb i ∧ Fr h₀ L h (fun y => if y = "octet" then u y else m y) ∧
    News h₀ L h ((I, o) :: (x, instObj 107 d) :: (d, pdO w id sz r k1 k2 k3 k4 k5 k6 k7 t1 t2 (.int rc t4) (.int (wc + i) t5') ro wo) :: (r, baOf ring') :: rest) ∧ RingIs ring' sz rc (wc + i) (qn ++ ks.take i)) ?_ ?_ ?_
  · refine ⟨s.heap, s.toks, rfl, { cls := .type "bytes_iterator", data := .fields #[.bytes b tb, .int 0 0] }, ring, t5, m, ⟨rfl, rfl⟩, ?_, ?_, ?_⟩
    · refine cast (congrArg (Fr h₀ L s.heap) ?_) F
      funext y
      by_cases h : y = "octet" <;> simp [h]
    · simpa using N
    · simpa using hri
  · rintro i s₁ hi ⟨h, tk, rfl, o, ring', t5', u, ho, F₁, N₁, hr⟩
    have hs : i < b.size := by rw [← hkb, KBw.ints_length] at hi; exact hi
    have hc : b[i]? = some b[i] := by simp [hs]
    have hki : ks[i]? = some ((b[i].toNat : Nat) : Int) := by rw [← hkb]; exact KBw.ints_get hc
    have hin : ((b[i].toNat : Nat) : Int) ∈ KBw.bInts b := by rw [hkb]; exact List.mem_of_getElem? hki
    have hIL : I ≠ L := (N₁ _ (.head _)).2.1
    have hI0 : h₀.get? I = none := (N₁ _ (.head _)).2.2
    refine KBw.next_item (s := { s with heap := h, toks := tk }) ⟨o, (N₁ _ (.head _)).1, ho.1, ho.2⟩ hc fun h' hit' hs' => ⟨_, rfl, ?_⟩
    obtain ⟨o', ho', hc', hd'⟩ := hit'
    have N₂ := N₁.setAt (own := []) (fun p hp => nomatch hp) (by intro p hp; exact off_map hnI (by rfl) p hp) hs' ho'
    have F₂ := fr_set F₁ hs' hIL hI0
    refine stN (s := { s with heap := h', toks := tk + 1 }) F₂ N₂ (fun h'' F₃ N₃ => ?_) hkf hkl
    refine wpAny_mono (turn i _ tk u ring' t5' h'' (tk + 1 + 1) o' (fun s₃ => ∃ h tk, s₃ = { s with heap := h, toks := tk } ∧ ∃ (o : Obj) (ring' : Array UInt8) (t5' : Tok) (u : Str → Option Value), ItO o b tb (i + 1) ∧ Fr h₀ L h (fun y => if y = "octet" then u y else m y) ∧
      News h₀ L h ((I, o) :: (x, instObj 107 d) :: (d, pdO w id sz r k1 k2 k3 k4 k5 k6 k7 t1 t2 (.int rc t4) (.int (wc + (i + 1 : Nat)) t5') ro wo) :: (r, baOf ring') :: rest) ∧ RingIs ring' sz rc (wc + (i + 1 : Nat)) (qn ++ ks.take (i + 1))) hi (KBw.ints_in hin).1 (KBw.ints_in hin).2 hr ?_ F₃ N₃ ?_) ?_ fun _ _ z => z
    · rw [List.take_add_one, hki]; rfl
    · intro ring'' t5'' v h3 tk3 F₄ N₄ hr4
      refine ⟨h3, tk3, rfl, o', ring'', t5'', fun _ => some v, ⟨hc', hd'⟩, cast (congrArg (Fr h₀ L h3) ?_) F₄, N₄, hr4⟩
      funext y
      by_cases h : y = "octet" <;> simp [h]
    · rintro fl s₃ ⟨rfl, hK⟩
      exact hK
  · rintro s₁ ⟨h, tk, rfl, o, ring', t5', u, ho, F₁, N₁, hr⟩
    have hb : b[ks.length]? = none := by rw [← hkb, KBw.ints_length]; simp
    have hIL : I ≠ L := (N₁ _ (.head _)).2.1
    have hI0 : h₀.get? I = none := (N₁ _ (.head _)).2.2
    refine KBw.next_end (s := { s with heap := h, toks := tk }) hh ⟨o, (N₁ _ (.head _)).1, ho.1, ho.2⟩ hb fun h' hs' => ⟨rfl, ?_⟩
    refine done u ring' t5' h' tk (by rw [List.take_length] at hr; exact hr) (fr_ext F₁ hs' hIL hI0) (news_ext (news_tail N₁) hs' ?_)
    intro p hp; exact off_map hnI (by rfl) p hp
set_option maxHeartbeats 1000000 in
theorem write_go1 {w : World} {A : Around} {h₀ : Heap} {px : Pos} {body : List Stmt} {name : Str} {scope : Scope} {L a : Addr} {cd : Value} {m : Str → Option Value} {s : Shared} {R : Result → Shared → Prop} {rest : List (Addr × Obj)}
    {x d r : Addr} {id sz rc wc : Int} {ro wo : Bool} {ring : Array UInt8} {k1 k2 k3 k4 k5 k6 k7 t1 t2 t4 t5 : Tok} {b : Array UInt8} {tb : Tok} {ks qn : List Int}
    (hh : A.handled = none) (hkf : scope.kind = .function) (hkl : (envOf name scope L a cd).kindOf "octet" = some .local) (hkb : KBw.bInts b = ks)
    (F : Fr h₀ L s.heap m) (N : News h₀ L s.heap ((x, instObj 107 d) :: (d, pdO w id sz r k1 k2 k3 k4 k5 k6 k7 t1 t2 (.int rc t4) (.int (wc) t5) ro wo) :: (r, baOf ring) :: rest)) (hri : RingIs ring sz rc wc qn)
    (turn : ∀ (i : Nat) (k : Int) t (u : Str → Option Value) (ring' : Array UInt8) t5' h tk o (I : Addr) (K : Shared → Prop), i < ks.length → 0 ≤ k → k < 256 → RingIs ring' sz rc (wc + i) (qn ++ ks.take i) → ks.take (i + 1) = ks.take i ++ [k] →
      (∀ z ∈ (x, instObj 107 d) :: (d, pdO w id sz r k1 k2 k3 k4 k5 k6 k7 t1 t2 (.int rc t4) (.int (wc) t5) ro wo) :: (r, baOf ring) :: rest, z.1 ≠ I) →
      Fr h₀ L h (fun y => if y = "octet" then some (.int k t) else if y = "octet" then u y else m y) → News h₀ L h ((I, o) :: (x, instObj 107 d) :: (d, pdO w id sz r k1 k2 k3 k4 k5 k6 k7 t1 t2 (.int rc t4) (.int (wc + i) t5') ro wo) :: (r, baOf ring') :: rest) →
      (∀ (ring'' : Array UInt8) t5'' (v : Value) h tk, Fr h₀ L h (fun y => if y = "octet" then some v else if y = "octet" then u y else m y) → News h₀ L h ((I, o) :: (x, instObj 107 d) :: (d, pdO w id sz r k1 k2 k3 k4 k5 k6 k7 t1 t2 (.int rc t4) (.int (wc + (i + 1 : Nat)) t5'') ro wo) :: (r, baOf ring'') :: rest) → RingIs ring'' sz rc (wc + (i + 1 : Nat)) (qn ++ ks.take (i + 1)) → K { s with heap := h, toks := tk }) →
      wpAny (model PySem.Challenge.rw_nz0210_01.prog w) A (execs body (envOf name scope L a cd)) (fun fl s₃ => fl = .next ∧ K s₃) (fun _ _ => False) { s with heap := h, toks := tk })
    (done : ∀ (u : Str → Option Value) (ring' : Array UInt8) t5' h tk, RingIs ring' sz rc (wc + ks.length) (qn ++ ks) → Fr h₀ L h (fun y => if y = "octet" then u y else m y) → News h₀ L h ((x, instObj 107 d) :: (d, pdO w id sz r k1 k2 k3 k4 k5 k6 k7 t1 t2 (.int rc t4) (.int (wc + ks.length) t5') ro wo) :: (r, baOf ring') :: rest) → R (.ok .next) { s with heap := h, toks := tk }) :
    codeAny (model PySem.Challenge.rw_nz0210_01.prog w) A (.forLoop (.Name "octet" px) (.ref s.heap.objs.size) body [] (envOf name scope L a cd)) R { s with heap := s.heap.push { cls := .type "bytes_iterator", data := .fields #[.bytes b tb, .int 0 0] } } :=
  have hI : ∀ z ∈ (x, instObj 107 d) :: (d, pdO w id sz r k1 k2 k3 k4 k5 k6 k7 t1 t2 (.int rc t4) (.int (wc) t5) ro wo) :: (r, baOf ring) :: rest, z.1 ≠ s.heap.objs.size := fun z hz => Nat.ne_of_lt (Heap.lt_size (N z hz).1)
  write_go (s := { s with heap := s.heap.push { cls := .type "bytes_iterator", data := .fields #[.bytes b tb, .int 0 0] } }) hh hkf hkl hkb (F.push _) (N.push F _) hI hri (fun i k t u ring' t5' h tk o K a1 a2 a3 a4 a5 F' N' nx => turn i k t u ring' t5' h tk o _ K a1 a2 a3 a4 a5 hI F' N' nx) done
set_option maxHeartbeats 2000000 in
theorem write_in {w : World} {A₀ : Around} {dp un : Nat} {gd : Option (List Code)} {base h₀ : Heap} {outer : List Env} {env : Env} {L : Addr} {m mg mb : Str → Option Value} {s : Shared} {p : Program} {loose : List Str} {mean : ExcName → Option Value}
    {rest : List (Addr × Obj)} {R : Result → Shared → Prop}
    {x d r : Addr} {id sz rc wc : Int} {ro wo : Bool} {ring : Array UInt8} {k1 k2 k3 k4 k5 k6 k7 t1 t2 t4 t5 : Tok} {oct : Array UInt8} {to : Tok} {on qn : List Int}
    (B : Below A₀ base outer h₀) (F : Fr h₀ L s.heap m) (X : (hd.heap_1 w.params).In h₀)
    (N : News h₀ L s.heap ((x, instObj 107 d) :: (d, pdO w id sz r k1 k2 k3 k4 k5 k6 k7 t1 t2 (.int rc t4) (.int wc t5) ro wo) :: (r, baOf ring) :: rest)) (T : Top p loose mean mg mb h₀)
    (hf : env.frame = some L) (hke : env.scope.kind = .function) (hdep : dp ≤ 400) (hu : un ≤ 1000)
    (hsz : 1 ≤ sz) (hsz1 : sz ≤ 40) (hr0 : 0 ≤ rc) (hrw : rc ≤ wc) (hws : wc - rc ≤ sz) (hwc : wc ≤ 1000000) (hring : (ring.size : Int) = sz)
    (hnx : ∀ z ∈ rest, z.1 ≠ x) (hnd : ∀ z ∈ rest, z.1 ≠ d) (hnr : ∀ z ∈ rest, z.1 ≠ r) (hxd : @Ne Nat x d) (hxr : @Ne Nat x r) (hdr : @Ne Nat d r) (hri : RingIs ring sz rc wc qn) (hoc : KBw.bInts oct = on) (hol : on.length ≤ 64)
    (kont : (ro = false → ∀ D h tk ta tb, @LT.lt Nat _ x D → @LT.lt Nat _ d D → @LT.lt Nat _ r D → AllLt D rest → Fr h₀ L h m → News h₀ L h ((D, { cls := .type "tuple", data := .seq #[.int 0 ta, .int 2 tb] }) :: (x, instObj 107 d) :: (d, pdO w id sz r k1 k2 k3 k4 k5 k6 k7 t1 t2 (.int rc t4) (.int (wc) t5) ro wo) :: (r, baOf ring) :: rest) → R (.ok (.ret (.ref D))) { s with heap := h, toks := tk }) ∧
      (ro = true → ∀ (n : Nat) (ni st : Int) (ring' : Array UInt8) t5' D h tk ta tb, ni = n → ni = (if sz - (wc - rc) < on.length then sz - (wc - rc) else on.length) → st = (if n = on.length then 0 else 1) → RingIs ring' sz rc (wc + n) (qn ++ on.take n) →
        @LT.lt Nat _ x D → @LT.lt Nat _ d D → @LT.lt Nat _ r D → AllLt D rest → Fr h₀ L h m → News h₀ L h ((D, { cls := .type "tuple", data := .seq #[.int ni ta, .int st tb] }) :: (x, instObj 107 d) :: (d, pdO w id sz r k1 k2 k3 k4 k5 k6 k7 t1 t2 (.int rc t4) (.int (wc + n) t5') ro wo) :: (r, baOf ring') :: rest) → R (.ok (.ret (.ref D))) { s with heap := h, toks := tk })) :
    codeAny (model PySem.Challenge.rw_nz0210_01.prog w) ⟨none, dp, some (env :: outer), gd, un⟩ (.call (.ref 90) ⟨[.ref x, .bytes oct to], []⟩) R s := by
  dsimp only [pdO, tdO] at N
  obtain ⟨kontB, kontW⟩ := kont
  (refine' code_def ?k1 ?k2 ?k3 ?k4 ?k5 ?kA ?kF ?kK ?k6 ?k7 ?k8 ?k9 ?kB ?_ ?c2 ?c3 ?c4 ?c5; (case kA => exact rfl); (case kF => first | exact rfl | assumption); (case kK => first | exact rfl | assumption); (case k1 => k_asm); (case k2 => k_asm); (case k3 => k_asm); (case k4 => k_asm); (case k5 => k_asm); (case k6 => k_is); (case k7 => k_is); (case k8 => k_room); (case k9 => first | exact BindsTo.of_eq rfl | exact binds_K (by k_in) rfl (by k_is) rfl rfl rfl | fail "k_enter: no rule for these arguments"); (case c5 => decide); (case kB => exact locs rfl); (case c2 => exact rfl); (case c3 => exact rfl); (case c4 => exact rfl); k_whole; intro g' L' h' FG' F' N' B' X' T'; (try dsimp only); (try k_lift B'); (try k_fold))
  (repeat' (first | (k_unfold; (try dsimp only)) | walk1 | (dsimp only; walk1) | (leave1; (try dsimp only)) | fail "no step"))
  · have hlen : (qn.length : Int) = wc - rc := hri.1
    obtain ⟨n, hn, -, hc, hln, hle⟩ := taken_nat (ol := on.length) (a := sz - (wc - rc)) (Int.sub_nonneg_of_le hws)
    have hl : (on.take n).length = n := by rw [List.length_take, Nat.min_eq_left hln]
    refine' write_go1 (s := ⟨_, _, _, _, _⟩) (tb := _) (b := _) rfl rfl rfl ?k ?F ?N hri ?_ ?_
    case k => assumption
    case F => assumption
    case N => assumption
    · intro i k t u ring' t5' h tk o I K hi hk0 hk1 hr' htk hoff F' N' next
      dsimp only [pdO] at N'
      rw [hc, hl] at hi
      have hrs : (ring'.size : Int) = sz := hr'.2.1
      have hf0 : 0 ≤ (wc + i : Int).fmod sz := (fmod_pos (by omega)).1
      have hf1 : (wc + i : Int).fmod sz < ring'.size := by rw [hrs]; exact (fmod_pos (by omega)).2
      have hIx : @Ne Nat I x := (hoff _ (.head _)).symm
      have hId : @Ne Nat I d := (hoff _ (.tail _ (.head _))).symm
      have hIr : @Ne Nat I r := (hoff _ (.tail _ (.tail _ (.head _)))).symm
      (repeat' (first | (k_unfold; (try dsimp only)) | walk1 | (dsimp only; walk1) | (leave1; (try dsimp only)) | fail "no step"))
      refine' next _ _ _ _ _ ?F ?N ?R
      case R =>
        have := ring_push hr' hsz (by rw [List.length_append, List.length_take]; omega) hk0 hk1
        rw [htk, ← List.append_assoc]
        rw [show wc + ((i + 1 : Nat) : Int) = wc + i + 1 by push_cast; omega]
        exact this
      case F => assumption
      case N =>
        rw [show wc + ((i + 1 : Nat) : Int) = wc + i + 1 by push_cast; omega]
        assumption
    · intro u ring' t5' h tk hr' F' N'
      dsimp only [pdO] at N'
      rw [hc] at hr' N'
      rw [hl] at hr' N'
      (repeat' (first | (k_unfold; (try dsimp only)) | walk1 | (dsimp only; walk1) | (leave1; (try dsimp only)) | fail "no step"))
      · refine' kontW ?r n _ 0 ring' t5' _ _ _ _ _ hn rfl ?hst hr' ?l1 ?l2 ?l3 ?l4 ?F ?N
        case r => assumption
        case F => assumption
        case N => assumption
        case l1 => first | walk_at "pick" | omega
        case l2 => first | walk_at "pick" | omega
        case l3 => first | walk_at "pick" | omega
        case l4 => (with_reducible first | assumption | exact And.right (by assumption) | exact And.right (And.right (by assumption)) | exact And.right (And.right (And.right (by assumption))) | exact And.right (And.right (And.right (And.right (by assumption)))) | exact And.right (And.right (And.right (And.right (And.right (by assumption))))) | exact And.right (And.right (And.right (And.right (And.right (And.right (by assumption)))))) | exact And.right (And.right (And.right (And.right (And.right (And.right (And.right (by assumption))))))) | exact And.right (And.right (And.right (And.right (And.right (And.right (And.right (And.right (by assumption)))))))))
        case hst => rw [if_pos (by omega)]
      · refine' kontW ?r n _ 1 ring' t5' _ _ _ _ _ hn rfl ?hst hr' ?l1 ?l2 ?l3 ?l4 ?F ?N
        case r => assumption
        case F => assumption
        case N => assumption
        case l1 => first | walk_at "pick" | omega
        case l2 => first | walk_at "pick" | omega
        case l3 => first | walk_at "pick" | omega
        case l4 => (with_reducible first | assumption | exact And.right (by assumption) | exact And.right (And.right (by assumption)) | exact And.right (And.right (And.right (by assumption))) | exact And.right (And.right (And.right (And.right (by assumption)))) | exact And.right (And.right (And.right (And.right (And.right (by assumption))))) | exact And.right (And.right (And.right (And.right (And.right (And.right (by assumption)))))) | exact And.right (And.right (And.right (And.right (And.right (And.right (And.right (by assumption))))))) | exact And.right (And.right (And.right (And.right (And.right (And.right (And.right (And.right (by assumption)))))))))
        case hst => rw [if_neg (by omega)]
  · refine' kontB ?r _ _ _ _ _ ?l1 ?l2 ?l3 ?l4 ?F ?N
    case r => assumption
    case F => assumption
    case N => assumption
    case l1 => first | walk_at "pick" | omega
    case l2 => first | walk_at "pick" | omega
    case l3 => first | walk_at "pick" | omega
    case l4 => (with_reducible first | assumption | exact And.right (by assumption) | exact And.right (And.right (by assumption)) | exact And.right (And.right (And.right (by assumption))) | exact And.right (And.right (And.right (And.right (by assumption)))) | exact And.right (And.right (And.right (And.right (And.right (by assumption))))) | exact And.right (And.right (And.right (And.right (And.right (And.right (by assumption)))))) | exact And.right (And.right (And.right (And.right (And.right (And.right (And.right (by assumption))))))) | exact And.right (And.right (And.right (And.right (And.right (And.right (And.right (And.right (by assumption)))))))))
end

/-! part PLawWrite -/
section
theorem linesPLawWrite : True := by
  k_with_none
  k_with "my k_room" => ((try simp only [depth_under_make, depth_under_kw, depth_in1, depth_deeper, depth_caller]); (try simp only [recursionLimit]); first | decide | exact Nat.le_trans (by with_reducible assumption) (by decide) | exact Nat.le_trans (Nat.add_le_add_right (by with_reducible assumption) _) (by decide) | omega)
  k_with "execs cons" => (k_here; dsimp only; k_gentoks)
  k_with "execs nil" => (k_here; dsimp only; k_gentoks)
  k_with "my k_all" => (with_reducible assumption)
  k_with "my k_ne" => (refine neN ?_; (try dsimp only); first | with_reducible assumption | exact Ne.symm (by with_reducible assumption) | exact NeA.ne (by with_reducible assumption) | exact Ne.symm (NeA.ne (by with_reducible assumption)) | exact Nat.ne_of_lt (by walk_at "pick") | exact Nat.ne_of_gt (by walk_at "pick") | exact Nat.ne_of_gt (Nat.lt_add_one_of_lt (by walk_at "pick")) | exact Nat.ne_of_lt (Nat.lt_add_one_of_lt (by walk_at "pick")) | walk_at "pick" | exact Ne.symm (by walk_at "pick") | omega)
  k_with "my k_units" => ((try simp only [units_under_make, units_in1, units_deeper, Around.mark_units, units_caller]); first | exact Nat.le_trans (Nat.add_le_add_right (by with_reducible assumption) _) (by decide) | exact Nat.le_trans (by with_reducible assumption) (by decide) | exact lt_cline1 (by with_reducible assumption) (by decide) | exact lt_cline2 (by with_reducible assumption) (by decide) | ((have hcL' := cLine_is); omega))
  k_with "subscriptTail Subscript Name Constant Slice ref ref" => (k_here; k_dflt (first | (refine' list_upto (s := ⟨_, _, _, _, _⟩) (by k_asm) (by k_asm) (by k_mem) (by with_reducible assumption) (by omega) (by omega) ?_) | (refine' list_from (s := ⟨_, _, _, _, _⟩) (by k_asm) (by k_asm) (by k_mem) (by with_reducible assumption) (by omega) (by omega) ?_)); intro D' ws' h' F' N' l1 hI'; (try k_lt l1); (try k_sweep))
  k_with "subscriptTail" => (k_here; (with_reducible show wpAny _ _ (subscriptTail _ _ (Value.ref _) (Value.int (Int.fmod _ _) _)) _ _ _); k_dflt (refine' ba_sub (by k_asm) (by k_mem) (by l_fact) (by l_fact) (by omega) ?_ (by with_unfolding_all rfl)))
  k_with "setItem ref int int" => (k_here; k_dflt (refine' ba_set (by k_asm) (by k_asm) (by k_upd) (by l_fact) (by l_fact) (by omega) (by omega) (by omega) ?_); intro h' F' N'; (try k_sweep))
  k_with "call builtin:len" => (k_here; (with_reducible show wpAny _ _ (PySem.call (Value.builtin "len") [Value.ref _]) _ _ _); k_dflt (refine' ba_lenN (by k_asm) (by k_mem) (by omega) ?_))
  k_with "exec For Name Subscript cons nil" => (k_here; refine forA ?_)
  k_with "pyIter bytes" => (k_here; refine KBw.pyIter_bytes ?_)
  k_with "call builtin:len" => (k_here; (with_reducible show wpAny _ _ (PySem.call (Value.builtin "len") [Value.ref _]) _ _ _); k_dflt (refine' list_lenN (by k_asm) (by k_mem) (by with_reducible assumption) (by ((try simp only [List.length_take, List.length_drop]); omega)) ?_))
  k_with "pick" => (focus (apply pickL; (iterate 13 (first | done | with_reducible assumption | apply pickR)); done))
  k_with "ne" => ((try dsimp only); first | assumption | exact Ne.symm (by assumption) | exact NeA.ne (by assumption) | exact Ne.symm (NeA.ne (by assumption)) | exact Nat.ne_of_lt (by walk_at "pick") | exact Nat.ne_of_gt (by walk_at "pick") | exact Nat.ne_of_gt (Nat.lt_add_one_of_lt (by walk_at "pick")) | exact Nat.ne_of_lt (Nat.lt_add_one_of_lt (by walk_at "pick")) | walk_at "pick" | exact Ne.symm (by walk_at "pick") | omega)
  k_with "num" => (first | with_reducible assumption | exact Int.le_add_of_nonneg_right (by decide) | exact nb12 (by with_reducible assumption) (by with_reducible assumption) | (focus ((repeat (first | with_reducible assumption | refine Int.add_nonneg ?_ (by decide))); done)) | exact Int.le_trans (by with_reducible assumption) (by decide) | exact Int.le_trans (Int.add_le_add_right (by with_reducible assumption) _) (by decide) | omega)
  k_with "rem" => (focus ((repeat (first | exact Rem.head | apply Rem.tail)); done))
  k_with "off" => (focus ((repeat (first | assumption | (refine off_cons ?_ ?_; (focus walk_at "ne")))); done))
  k_with "mem" => (focus ((repeat (first | exact List.Mem.head _ | refine List.Mem.tail _ ?_)); done))
  trivial
set_option maxHeartbeats 2000000 in
theorem lawwrite_in {w : World} {A₀ : Around} {dp un : Nat} {gd : Option (List Code)} {base h₀ : Heap} {outer : List Env} {env : Env} {L : Addr} {m mg mb : Str → Option Value} {s : Shared} {p : Program} {loose : List Str} {mean : ExcName → Option Value}
    {rest : List (Addr × Obj)} {R : Result → Shared → Prop}
    {od q : Addr} {oo : Obj} {sz : Int} {tz : Tok} {qv : List Value} {qn : List Int} {nq : Nat} {rd wr : Bool} {oct : Array UInt8} {to : Tok} {on : List Int}
    (B : Below A₀ base outer h₀) (F : Fr h₀ L s.heap m) (X : (hd.heap_1 w.params).In h₀)
    (N : News h₀ L s.heap ((od, oo) :: (q, W.listOf qv.toArray nq) :: rest)) (T : Top p loose mean mg mb h₀)
    (hf : env.frame = some L) (hke : env.scope.kind = .function) (hdep : dp ≤ 400) (hu : un ≤ 1000)
    (hD : oo.IsDictOf (PySem.strKind PySem.Challenge.rw_nz0210_01.prog w) [(Str.ofString "size", .int sz tz), (Str.ofString "queue", .ref q), (Str.ofString "reads", .bool rd), (Str.ofString "writes", .bool wr)]) (hsys : (od == sysModules) = false)
    (hI : IntsAre qv qn) (hqb : ∀ n ∈ qn, 0 ≤ n ∧ n < 256) (hsz : 1 ≤ sz) (hsz1 : sz ≤ 40) (hq : (qn.length : Int) ≤ sz)
    (hnq : ∀ z ∈ rest, z.1 ≠ q) (hno : ∀ z ∈ rest, z.1 ≠ od) (hoq : @Ne Nat od q) (hoc : KBw.bInts oct = on) (hol : on.length ≤ 64)
    (kont : (rd = false → ∀ D h tk ta tb, @LT.lt Nat _ od D → @LT.lt Nat _ q D → AllLt D rest → Fr h₀ L h m → News h₀ L h ((D, { cls := .type "tuple", data := .seq #[.int 0 ta, .int 2 tb] }) :: (od, oo) :: (q, W.listOf (List.toArray qv) nq) :: rest) → R (.ok (.ret (.ref D))) { s with heap := h, toks := tk }) ∧
      (rd = true → ∀ (n : Nat) (ni st : Int) qv' nq' D h tk ta tb, ni = n → ni = (if sz - qn.length < on.length then sz - qn.length else on.length) → st = (if n = on.length then 0 else 1) → IntsAre qv' (qn ++ on.take n) →
        @LT.lt Nat _ od D → @LT.lt Nat _ q D → AllLt D rest → Fr h₀ L h m → News h₀ L h ((D, { cls := .type "tuple", data := .seq #[.int ni ta, .int st tb] }) :: (od, oo) :: (q, W.listOf (List.toArray qv') nq') :: rest) → R (.ok (.ret (.ref D))) { s with heap := h, toks := tk })) :
    codeAny (model PySem.Challenge.rw_nz0210_01.prog w) ⟨none, dp, some (env :: outer), gd, un⟩ (.call (.ref 168) ⟨[.ref od, .bytes oct to], []⟩) R s := by
  obtain ⟨kontB, kontW⟩ := kont
  (refine' code_def ?k1 ?k2 ?k3 ?k4 ?k5 ?kA ?kF ?kK ?k6 ?k7 ?k8 ?k9 ?kB ?_ ?c2 ?c3 ?c4 ?c5; (case kA => exact rfl); (case kF => first | exact rfl | assumption); (case kK => first | exact rfl | assumption); (case k1 => k_asm); (case k2 => k_asm); (case k3 => k_asm); (case k4 => k_asm); (case k5 => k_asm); (case k6 => k_is); (case k7 => k_is); (case k8 => k_room); (case k9 => first | exact BindsTo.of_eq rfl | exact binds_K (by k_in) rfl (by k_is) rfl rfl rfl | fail "k_enter: no rule for these arguments"); (case c5 => decide); (case kB => exact locs rfl); (case c2 => exact rfl); (case c3 => exact rfl); (case c4 => exact rfl); k_whole; intro g' L' h' FG' F' N' B' X' T'; (try dsimp only); (try k_lift B'); (try k_fold))
  (repeat' (first | (k_unfold; (try dsimp only)) | walk1 | (dsimp only; walk1) | (leave1; (try dsimp only)) | fail "no step"))
  · obtain ⟨n, hn, hc, -, hln, hle⟩ := taken_nat (ol := on.length) (a := sz - (qn.length : Int)) (Int.sub_nonneg_of_le hq)
    have hl : (on.take n).length = n := by rw [List.length_take, Nat.min_eq_left hln]
    refine' ext_bytes2 (p := (od, oo)) (ks := on.take n) rfl ?F ?N hoq hnq hI ?k ?f ?h
    case k => rw [← hc]; assumption
    case F => assumption
    case N => assumption
    case f => rw [hl]; omega
    intro h' tk qv' nq' F' N' hI'
    rw [List.length_take] at hl
    (repeat' (first | (k_unfold; (try dsimp only)) | walk1 | (dsimp only; walk1) | (leave1; (try dsimp only)) | fail "no step"))
    · refine' kontW ?r n _ 0 _ _ _ _ _ _ _ ?n0 ?n1 ?st hI' ?l1 ?l2 ?l3 ?F ?N
      case r => assumption
      case F => assumption
      case N => assumption
      case l1 => first | walk_at "pick" | omega
      case l2 => first | walk_at "pick" | omega
      case l3 => (with_reducible first | assumption | exact And.right (by assumption) | exact And.right (And.right (by assumption)) | exact And.right (And.right (And.right (by assumption))) | exact And.right (And.right (And.right (And.right (by assumption)))) | exact And.right (And.right (And.right (And.right (And.right (by assumption))))) | exact And.right (And.right (And.right (And.right (And.right (And.right (by assumption)))))) | exact And.right (And.right (And.right (And.right (And.right (And.right (And.right (by assumption))))))) | exact And.right (And.right (And.right (And.right (And.right (And.right (And.right (And.right (by assumption)))))))))
      case n0 => exact tk_n hc hl
      case n1 => exact (tk_n hc hl).trans hn.symm
      case st => rw [if_pos (tk_eq hc hl (by assumption))]
    · refine' kontW ?r n _ 1 _ _ _ _ _ _ _ ?n0 ?n1 ?st hI' ?l1 ?l2 ?l3 ?F ?N
      case r => assumption
      case F => assumption
      case N => assumption
      case l1 => first | walk_at "pick" | omega
      case l2 => first | walk_at "pick" | omega
      case l3 => (with_reducible first | assumption | exact And.right (by assumption) | exact And.right (And.right (by assumption)) | exact And.right (And.right (And.right (by assumption))) | exact And.right (And.right (And.right (And.right (by assumption)))) | exact And.right (And.right (And.right (And.right (And.right (by assumption))))) | exact And.right (And.right (And.right (And.right (And.right (And.right (by assumption)))))) | exact And.right (And.right (And.right (And.right (And.right (And.right (And.right (by assumption))))))) | exact And.right (And.right (And.right (And.right (And.right (And.right (And.right (And.right (by assumption)))))))))
      case n0 => exact tk_n hc hl
      case n1 => exact (tk_n hc hl).trans hn.symm
      case st => rw [if_neg (tk_ne hc hl (by assumption))]
  · refine' kontB ?r _ _ _ _ _ ?l1 ?l2 ?l3 ?F ?N
    case r => assumption
    case F => assumption
    case N => assumption
    case l1 => first | walk_at "pick" | omega
    case l2 => first | walk_at "pick" | omega
    case l3 => (with_reducible first | assumption | exact And.right (by assumption) | exact And.right (And.right (by assumption)) | exact And.right (And.right (And.right (by assumption))) | exact And.right (And.right (And.right (And.right (by assumption)))) | exact And.right (And.right (And.right (And.right (And.right (by assumption))))) | exact And.right (And.right (And.right (And.right (And.right (And.right (by assumption)))))) | exact And.right (And.right (And.right (And.right (And.right (And.right (And.right (by assumption))))))) | exact And.right (And.right (And.right (And.right (And.right (And.right (And.right (And.right (by assumption)))))))))
end

/-! part PInit -/
section
theorem linesPInit : True := by
  k_with_none
  k_with "my k_room" => ((try simp only [depth_under_make, depth_under_kw, depth_in1, depth_deeper, depth_caller]); (try simp only [recursionLimit]); first | decide | exact Nat.le_trans (by with_reducible assumption) (by decide) | exact Nat.le_trans (Nat.add_le_add_right (by with_reducible assumption) _) (by decide) | omega)
  k_with "execs cons" => (k_here; dsimp only; k_gentoks)
  k_with "execs nil" => (k_here; dsimp only; k_gentoks)
  k_with "my k_all" => (with_reducible assumption)
  k_with "my k_ne" => (refine neN ?_; (try dsimp only); first | with_reducible assumption | exact Ne.symm (by with_reducible assumption) | exact NeA.ne (by with_reducible assumption) | exact Ne.symm (NeA.ne (by with_reducible assumption)) | exact Nat.ne_of_lt (by walk_at "pick") | exact Nat.ne_of_gt (by walk_at "pick") | exact Nat.ne_of_gt (Nat.lt_add_one_of_lt (by walk_at "pick")) | exact Nat.ne_of_lt (Nat.lt_add_one_of_lt (by walk_at "pick")) | walk_at "pick" | exact Ne.symm (by walk_at "pick") | omega)
  k_with "my k_units" => ((try simp only [units_under_make, units_in1, units_deeper, Around.mark_units, units_caller]); first | exact Nat.le_trans (Nat.add_le_add_right (by with_reducible assumption) _) (by decide) | exact Nat.le_trans (by with_reducible assumption) (by decide) | exact lt_cline1 (by with_reducible assumption) (by decide) | exact lt_cline2 (by with_reducible assumption) (by decide) | ((have hcL' := cLine_is); omega))
  k_with "subscriptTail Subscript Name Constant Slice ref ref" => (k_here; k_dflt (first | (refine' list_upto (s := ⟨_, _, _, _, _⟩) (by k_asm) (by k_asm) (by k_mem) (by with_reducible assumption) (by omega) (by omega) ?_) | (refine' list_from (s := ⟨_, _, _, _, _⟩) (by k_asm) (by k_asm) (by k_mem) (by with_reducible assumption) (by omega) (by omega) ?_)); intro D' ws' h' F' N' l1 hI'; (try k_lt l1); (try k_sweep))
  k_with "subscriptTail" => (k_here; (with_reducible show wpAny _ _ (subscriptTail _ _ (Value.ref _) (Value.int (Int.fmod _ _) _)) _ _ _); k_dflt (refine' ba_sub (by k_asm) (by k_mem) (by l_fact) (by l_fact) (by omega) ?_ (by with_unfolding_all rfl)))
  k_with "setItem ref int int" => (k_here; k_dflt (refine' ba_set (by k_asm) (by k_asm) (by k_upd) (by l_fact) (by l_fact) (by omega) (by omega) (by omega) ?_); intro h' F' N'; (try k_sweep))
  k_with "call builtin:len" => (k_here; (with_reducible show wpAny _ _ (PySem.call (Value.builtin "len") [Value.ref _]) _ _ _); k_dflt (refine' ba_lenN (by k_asm) (by k_mem) (by omega) ?_))
  k_with "exec For Name Subscript cons nil" => (k_here; refine forA ?_)
  k_with "pyIter bytes" => (k_here; refine KBw.pyIter_bytes ?_)
  k_with "call builtin:len" => (k_here; (with_reducible show wpAny _ _ (PySem.call (Value.builtin "len") [Value.ref _]) _ _ _); k_dflt (refine' list_lenN (by k_asm) (by k_mem) (by with_reducible assumption) (by ((try simp only [List.length_take, List.length_drop]); omega)) ?_))
  k_with "pick" => (focus (apply pickL; (iterate 13 (first | done | with_reducible assumption | apply pickR)); done))
  k_with "ne" => ((try dsimp only); first | assumption | exact Ne.symm (by assumption) | exact NeA.ne (by assumption) | exact Ne.symm (NeA.ne (by assumption)) | exact Nat.ne_of_lt (by walk_at "pick") | exact Nat.ne_of_gt (by walk_at "pick") | exact Nat.ne_of_gt (Nat.lt_add_one_of_lt (by walk_at "pick")) | exact Nat.ne_of_lt (Nat.lt_add_one_of_lt (by walk_at "pick")) | walk_at "pick" | exact Ne.symm (by walk_at "pick") | omega)
  k_with "num" => (first | with_reducible assumption | exact Int.le_add_of_nonneg_right (by decide) | exact nb12 (by with_reducible assumption) (by with_reducible assumption) | (focus ((repeat (first | with_reducible assumption | refine Int.add_nonneg ?_ (by decide))); done)) | exact Int.le_trans (by with_reducible assumption) (by decide) | exact Int.le_trans (Int.add_le_add_right (by with_reducible assumption) _) (by decide) | omega)
  k_with "rem" => (focus ((repeat (first | exact Rem.head | apply Rem.tail)); done))
  k_with "off" => (focus ((repeat (first | assumption | (refine off_cons ?_ ?_; (focus walk_at "ne")))); done))
  k_with "mem" => (focus ((repeat (first | exact List.Mem.head _ | refine List.Mem.tail _ ?_)); done))
  trivial
set_option maxHeartbeats 2000000 in
theorem pinit_in {w : World} {A₀ : Around} {dp un : Nat} {gd : Option (List Code)} {base h₀ : Heap} {outer : List Env} {env : Env} {L : Addr} {m mg mb : Str → Option Value} {s : Shared} {p : Program} {loose : List Str} {mean : ExcName → Option Value}
    {rest : List (Addr × Obj)} {R : Result → Shared → Prop}
    {x d : Addr} {id sz : Int} {t1 t2 : Tok}
    (B : Below A₀ base outer h₀) (F : Fr h₀ L s.heap m) (X : (hd.heap_1 w.params).In h₀)
    (N : News h₀ L s.heap ((x, instObj 107 d) :: (d, dictOf [] 0) :: rest)) (T : Top p loose mean mg mb h₀)
    (hf : env.frame = some L) (hke : env.scope.kind = .function) (hdep : dp ≤ 400) (hu : un ≤ 1000)
    (hsz : 1 ≤ sz) (hsz1 : sz ≤ 40) (hnx : ∀ z ∈ rest, z.1 ≠ x) (hnd : ∀ z ∈ rest, z.1 ≠ d) (hxd : @Ne Nat x d)
    (kont : ∀ r k1 k2 k3 k4 k5 k6 k7 t4 t5 h tk, (∀ z ∈ rest, @LT.lt Nat _ z.1 r) → @LT.lt Nat _ x r → @LT.lt Nat _ d r → Fr h₀ L h m → News h₀ L h ((x, instObj 107 d) :: (d, pdO w id sz r k1 k2 k3 k4 k5 k6 k7 t1 t2 (.int 0 t4) (.int 0 t5) true true) :: (r, baOf (Array.replicate sz.toNat 0)) :: rest) → R (.ok (.ret .none)) { s with heap := h, toks := tk }) :
    codeC (model PySem.Challenge.rw_nz0210_01.prog w) ⟨none, dp, some (env :: outer), gd, un⟩ (.call (.ref 62) ⟨[.ref x, .int id t1, .int sz t2], []⟩) R s := by
  (refine' code_defClean ?k1 ?k2 ?k3 ?k4 ?k5 ?kA ?kF ?kK ?k6 ?k7 ?k8 ?k9 ?kB ?_ ?c2 ?c3 ?c4 ?c5; (case kA => exact rfl); (case kF => first | exact rfl | assumption); (case kK => first | exact rfl | assumption); (case k1 => k_asm); (case k2 => k_asm); (case k3 => k_asm); (case k4 => k_asm); (case k5 => k_asm); (case k6 => k_is); (case k7 => k_is); (case k8 => k_room); (case k9 => first | exact BindsTo.of_eq rfl | exact binds_K (by k_in) rfl (by k_is) rfl rfl rfl | fail "c_enter: no rule for these arguments"); (case c5 => decide); (case kB => exact locs rfl); (case c2 => exact rfl); (case c3 => exact rfl); (case c4 => exact rfl); k_whole; intro g' L' h' FG' F' N' B' X' T'; (try dsimp only); (try k_lift B'); (try k_fold))
  refine execsC_lift ?_
  (repeat' (first | (k_unfold; (try dsimp only)) | walk1 | (dsimp only; walk1) | (leave1; (try dsimp only)) | fail "no step"))
  refine execsC_lift ?_
  (repeat' (first | (k_unfold; (try dsimp only)) | walk1 | (dsimp only; walk1) | (leave1; (try dsimp only)) | fail "no step"))
  refine execsC_lift ?_
  (repeat' (first | (k_unfold; (try dsimp only)) | walk1 | (dsimp only; walk1) | (leave1; (try dsimp only)) | fail "no step"))
  refine execsC ?_
  refine attrC ?_
  refine callNameC ?_
  (repeat' (first | (k_unfold; (try dsimp only)) | walk1 | (dsimp only; walk1) | (leave1; (try dsimp only)) | fail "no step"))
  refine callWithB1 looks_mT ?_
  (repeat' (first | (k_unfold; (try dsimp only)) | walk1 | (dsimp only; walk1) | (leave1; (try dsimp only)) | fail "no step"))
  refine' ba_new1 ?F ?N ?a ?b ?_
  case F => assumption
  case N => assumption
  case a => omega
  case b => omega
  intro r h' F' N' lt
  have hrx : @LT.lt Nat _ x r := lt _ (.head _)
  have hrd : @LT.lt Nat _ d r := lt _ (.tail _ (.head _))
  have hrr : ∀ z ∈ rest, @LT.lt Nat _ z.1 r := fun z hz => lt _ (.tail _ (.tail _ hz))
  (repeat' (first | (k_unfold; (try dsimp only)) | walk1 | (dsimp only; walk1) | (leave1; (try dsimp only)) | fail "no step"))
  refine execsC_lift ?_
  (repeat' (first | (k_unfold; (try dsimp only)) | walk1 | (dsimp only; walk1) | (leave1; (try dsimp only)) | fail "no step"))
  refine execsC_lift ?_
  (repeat' (first | (k_unfold; (try dsimp only)) | walk1 | (dsimp only; walk1) | (leave1; (try dsimp only)) | fail "no step"))
  refine execsC_lift ?_
  (repeat' (first | (k_unfold; (try dsimp only)) | walk1 | (dsimp only; walk1) | (leave1; (try dsimp only)) | fail "no step"))
  refine execsC_lift ?_
  (repeat' (first | (k_unfold; (try dsimp only)) | walk1 | (dsimp only; walk1) | (leave1; (try dsimp only)) | fail "no step"))
  refine execsC_nil ?_
  (repeat' (first | (k_unfold; (try dsimp only)) | walk1 | (dsimp only; walk1) | (leave1; (try dsimp only)) | fail "no step"))
  refine' kont r _ _ _ _ _ _ _ _ _ _ _ hrr hrx hrd ?F ?N
  case F => assumption
  case N => exact news_sub (by assumption) (by (focus ((repeat (first | with_reducible exact fun _ h => h | exact sub_nil | (refine sub_cons ?_ ?_; (focus (focus ((repeat (first | exact List.Mem.head _ | refine List.Mem.tail _ ?_)); done)))) | refine sub_skip ?_)); done)))
end

/-! part LCount -/
section
theorem linesLCount : True := by
  k_with_none
  k_with "my k_room" => ((try simp only [depth_under_make, depth_under_kw, depth_in1, depth_deeper, depth_caller]); (try simp only [recursionLimit]); first | decide | exact Nat.le_trans (by with_reducible assumption) (by decide) | exact Nat.le_trans (Nat.add_le_add_right (by with_reducible assumption) _) (by decide) | omega)
  k_with "execs cons" => (k_here; dsimp only; k_gentoks)
  k_with "execs nil" => (k_here; dsimp only; k_gentoks)
  k_with "my k_all" => (with_reducible assumption)
  k_with "my k_ne" => (refine neN ?_; (try dsimp only); first | with_reducible assumption | exact Ne.symm (by with_reducible assumption) | exact NeA.ne (by with_reducible assumption) | exact Ne.symm (NeA.ne (by with_reducible assumption)) | exact Nat.ne_of_lt (by walk_at "pick") | exact Nat.ne_of_gt (by walk_at "pick") | exact Nat.ne_of_gt (Nat.lt_add_one_of_lt (by walk_at "pick")) | exact Nat.ne_of_lt (Nat.lt_add_one_of_lt (by walk_at "pick")) | walk_at "pick" | exact Ne.symm (by walk_at "pick") | omega)
  k_with "my k_units" => ((try simp only [units_under_make, units_in1, units_deeper, Around.mark_units, units_caller]); first | exact Nat.le_trans (Nat.add_le_add_right (by with_reducible assumption) _) (by decide) | exact Nat.le_trans (by with_reducible assumption) (by decide) | exact lt_cline1 (by with_reducible assumption) (by decide) | exact lt_cline2 (by with_reducible assumption) (by decide) | ((have hcL' := cLine_is); omega))
  k_with "subscriptTail Subscript Name Constant Slice ref ref" => (k_here; k_dflt (first | (refine' list_upto (s := ⟨_, _, _, _, _⟩) (by k_asm) (by k_asm) (by k_mem) (by with_reducible assumption) (by omega) (by omega) ?_) | (refine' list_from (s := ⟨_, _, _, _, _⟩) (by k_asm) (by k_asm) (by k_mem) (by with_reducible assumption) (by omega) (by omega) ?_)); intro D' ws' h' F' N' l1 hI'; (try k_lt l1); (try k_sweep))
  k_with "subscriptTail" => (k_here; (with_reducible show wpAny _ _ (subscriptTail _ _ (Value.ref _) (Value.int (Int.fmod _ _) _)) _ _ _); k_dflt (refine' ba_sub (by k_asm) (by k_mem) (by l_fact) (by l_fact) (by omega) ?_ (by with_unfolding_all rfl)))
  k_with "setItem ref int int" => (k_here; k_dflt (refine' ba_set (by k_asm) (by k_asm) (by k_upd) (by l_fact) (by l_fact) (by omega) (by omega) (by omega) ?_); intro h' F' N'; (try k_sweep))
  k_with "call builtin:len" => (k_here; (with_reducible show wpAny _ _ (PySem.call (Value.builtin "len") [Value.ref _]) _ _ _); k_dflt (refine' ba_lenN (by k_asm) (by k_mem) (by omega) ?_))
  k_with "exec For Name Subscript cons nil" => (k_here; refine forA ?_)
  k_with "pyIter bytes" => (k_here; refine KBw.pyIter_bytes ?_)
  k_with "call builtin:len" => (k_here; (with_reducible show wpAny _ _ (PySem.call (Value.builtin "len") [Value.ref _]) _ _ _); k_dflt (refine' list_lenN (by k_asm) (by k_mem) (by with_reducible assumption) (by ((try simp only [List.length_take, List.length_drop]); omega)) ?_))
  k_with "pick" => (focus (apply pickL; (iterate 13 (first | done | with_reducible assumption | apply pickR)); done))
  k_with "ne" => ((try dsimp only); first | assumption | exact Ne.symm (by assumption) | exact NeA.ne (by assumption) | exact Ne.symm (NeA.ne (by assumption)) | exact Nat.ne_of_lt (by walk_at "pick") | exact Nat.ne_of_gt (by walk_at "pick") | exact Nat.ne_of_gt (Nat.lt_add_one_of_lt (by walk_at "pick")) | exact Nat.ne_of_lt (Nat.lt_add_one_of_lt (by walk_at "pick")) | walk_at "pick" | exact Ne.symm (by walk_at "pick") | omega)
  k_with "num" => (first | with_reducible assumption | exact Int.le_add_of_nonneg_right (by decide) | exact nb12 (by with_reducible assumption) (by with_reducible assumption) | (focus ((repeat (first | with_reducible assumption | refine Int.add_nonneg ?_ (by decide))); done)) | exact Int.le_trans (by with_reducible assumption) (by decide) | exact Int.le_trans (Int.add_le_add_right (by with_reducible assumption) _) (by decide) | omega)
  k_with "rem" => (focus ((repeat (first | exact Rem.head | apply Rem.tail)); done))
  k_with "off" => (focus ((repeat (first | assumption | (refine off_cons ?_ ?_; (focus walk_at "ne")))); done))
  k_with "mem" => (focus ((repeat (first | exact List.Mem.head _ | refine List.Mem.tail _ ?_)); done))
  k_with "call ref" => (k_here; (with_reducible show wpAny _ _ (call (Value.ref 161) _) _ _ _); k_dflt ((refine' wpAny_call (take_u (bk := _) (btk := _) (by k_asm) (by k_asm) (by k_asm) (by k_asm) (by k_asm) rfl rfl (by k_room) (by k_units) (by k_updF) (by k_mem) (by walk_at "ne") (by assumption) (by assumption) (by walk_at "num") (by walk_at "num") (by walk_at "num") (by walk_at "num") (by first | omega | exact (pick3 (by assumption) (by assumption)).1 | exact (pick2 (by assumption) (by assumption)).1) (by first | omega | exact Int.le_trans (pick3 (by assumption) (by assumption)).2 (by decide) | exact Int.le_trans (pick2 (by assumption) (by assumption)).2 (by decide)) ?_))); intro r t h t' tk hr0 hr1 F' N'; (try dsimp only at N'); (try dsimp only); revert r t h t' tk hr0 hr1 F' N'; intro _ _ _ _ _ _ _ _ _)
  trivial
set_option maxHeartbeats 2000000 in
theorem count_in {w : World} {A₀ : Around} {dp un : Nat} {gd : Option (List Code)} {base h₀ : Heap} {outer : List Env} {env : Env} {L : Addr} {m mg mb : Str → Option Value} {s : Shared} {p : Program} {loose : List Str} {mean : ExcName → Option Value}
    {rest : List (Addr × Obj)} {R : Result → Shared → Prop}
    {bx cl : Addr} {bv : List Value} {bn : List Int} {bk bs : Int} {btk bts : Tok} {nb nc : Nat} {sh : Bool}
    (B : Below A₀ base outer h₀) (F : Fr h₀ L s.heap m) (X : (hd.heap_1 w.params).In h₀)
    (N : News h₀ L s.heap ((bx, W.listOf #[.ref cl, .int (bk) btk, .int bs bts] nb) :: (cl, W.listOf bv.toArray nc) :: rest)) (T : Top p loose mean mg mb h₀)
    (hf : env.frame = some L) (hke : env.scope.kind = .function) (hdep : dp ≤ 390) (hu : un ≤ 950)
    (hnbx : ∀ z ∈ rest, z.1 ≠ bx) (hclb : @Ne Nat cl bx) (hbI : IntsAre bv bn) (hbn : bn.length ≤ 40) (hbk0 : 0 ≤ bk) (hbk1 : bk ≤ 90000) (hbs0 : 0 ≤ bs) (hbs1 : bs < 1009)
    (kont : ∀ r t (n : Nat) t' h tk, 0 ≤ r → r ≤ 60 → n ≤ 2 → Fr h₀ L h m → News h₀ L h ((bx, W.listOf #[.ref cl, .int (bk + n) t', .int bs bts] nb) :: (cl, W.listOf bv.toArray nc) :: rest) → R (.ok (.ret (.int r t))) { s with heap := h, toks := tk }) :
    codeAny (model PySem.Challenge.rw_nz0210_01.prog w) ⟨none, dp, some (env :: outer), gd, un⟩ (.call (.ref 196) ⟨[.ref bx, .bool sh], []⟩) R s := by
  (refine' code_def ?k1 ?k2 ?k3 ?k4 ?k5 ?kA ?kF ?kK ?k6 ?k7 ?k8 ?k9 ?kB ?_ ?c2 ?c3 ?c4 ?c5; (case kA => exact rfl); (case kF => first | exact rfl | assumption); (case kK => first | exact rfl | assumption); (case k1 => k_asm); (case k2 => k_asm); (case k3 => k_asm); (case k4 => k_asm); (case k5 => k_asm); (case k6 => k_is); (case k7 => k_is); (case k8 => k_room); (case k9 => first | exact BindsTo.of_eq rfl | exact binds_K (by k_in) rfl (by k_is) rfl rfl rfl | fail "k_enter: no rule for these arguments"); (case c5 => decide); (case kB => exact locs rfl); (case c2 => exact rfl); (case c3 => exact rfl); (case c4 => exact rfl); k_whole; intro g' L' h' FG' F' N' B' X' T'; (try dsimp only); (try k_lift B'); (try k_fold))
  (repeat' (first | (k_unfold; (try dsimp only)) | walk1 | (dsimp only; walk1) | (leave1; (try dsimp only)) | fail "no step"))
  · refine' kont _ _ 1 _ _ _ ?a ?b ?c ?F ?N
    case F => assumption
    case N => assumption
    case a => assumption
    case b => omega
    case c => decide
  · refine' kont _ _ 2 _ _ _ ?a ?b ?c ?F ?N
    case F => assumption
    case N =>
      rw [show bk + ((2 : Nat) : Int) = bk + 1 + 1 by omega]
      exact news_tail (by assumption)
    case a => assumption
    case b => exact pick_lt (by assumption)
    case c => decide

set_option maxHeartbeats 2000000 in
theorem count_u {w : World} {A₀ : Around} {dp un : Nat} {gd : Option (List Code)} {base h₀ : Heap} {outer : List Env} {env : Env} {L : Addr} {m mg mb : Str → Option Value} {s : Shared} {p : Program} {loose : List Str} {mean : ExcName → Option Value}
    {R : Result → Shared → Prop}
    {bx cl : Addr} {bv : List Value} {bn : List Int} {bk bs : Int} {btk bts : Tok} {nb nc : Nat} {sh : Bool} {news : List (Addr × Obj)} {g : Obj → List (Addr × Obj)}
    (B : Below A₀ base outer h₀) (F : Fr h₀ L s.heap m) (X : (hd.heap_1 w.params).In h₀)
    (N : News h₀ L s.heap news) (T : Top p loose mean mg mb h₀)
    (hf : env.frame = some L) (hke : env.scope.kind = .function) (hdep : dp ≤ 390) (hu : un ≤ 950)
    (U : UpdF bx (W.listOf #[.ref cl, .int bk btk, .int bs bts] nb) news g) (hcl : (cl, W.listOf bv.toArray nc) ∈ news) (hclb : @Ne Nat cl bx) (hbI : IntsAre bv bn) (hbn : bn.length ≤ 40) (hbk0 : 0 ≤ bk) (hbk1 : bk ≤ 90000) (hbs0 : 0 ≤ bs) (hbs1 : bs < 1009)
    (kont : ∀ r t (n : Nat) h t' tk, 0 ≤ r → r ≤ 60 → n ≤ 2 → Fr h₀ L h m → News h₀ L h (g (W.listOf #[.ref cl, .int (bk + n) t', .int bs bts] nb)) → R (.ok (.ret (.int r t))) { s with heap := h, toks := tk }) :
    codeAny (model PySem.Challenge.rw_nz0210_01.prog w) ⟨none, dp, some (env :: outer), gd, un⟩ (.call (.ref 196) ⟨[.ref bx, .bool sh], []⟩) R s := by
  refine count_in (nb := nb) (nc := nc) (btk := btk) (bts := bts) (rest := news.filter fun q => decide (q.1 ≠ bx)) B F X ?_ T hf hke hdep hu ?_ hclb hbI hbn hbk0 hbk1 hbs0 hbs1 ?_
  · intro q hq
    rcases List.mem_cons.mp hq with rfl | hq
    · obtain ⟨pre, post, e1, _⟩ := U.split
      exact N _ (by rw [e1]; exact List.mem_append.mpr (.inr (.head _)))
    rcases List.mem_cons.mp hq with rfl | hq
    · exact N _ hcl
    · exact N _ (List.mem_filter.mp hq).1
  · intro q hq
    exact of_decide_eq_true (List.mem_filter.mp hq).2
  · intro r t n t' h' toks h0 h1 h2 F' N'
    refine kont r t n h' t' toks h0 h1 h2 F' fun q hq => N' q ?_
    obtain ⟨pre, post, e1, e2, a, b⟩ := U.split
    rw [e2] at hq
    rcases List.mem_append.mp hq with hq | hq
    · exact .tail _ (.tail _ (List.mem_filter.mpr ⟨by rw [e1]; exact List.mem_append.mpr (.inl hq), decide_eq_true (a q hq)⟩))
    rcases List.mem_cons.mp hq with rfl | hq
    · exact .head _
    · exact .tail _ (.tail _ (List.mem_filter.mpr ⟨by rw [e1]; exact List.mem_append.mpr (.inr (.tail _ hq)), decide_eq_true (b q hq)⟩))

end

/-! part PLawRead -/
section
theorem linesPLawRead : True := by
  k_with_none
  k_with "my k_room" => ((try simp only [depth_under_make, depth_under_kw, depth_in1, depth_deeper, depth_caller]); (try simp only [recursionLimit]); first | decide | exact Nat.le_trans (by with_reducible assumption) (by decide) | exact Nat.le_trans (Nat.add_le_add_right (by with_reducible assumption) _) (by decide) | omega)
  k_with "execs cons" => (k_here; dsimp only; k_gentoks)
  k_with "execs nil" => (k_here; dsimp only; k_gentoks)
  k_with "my k_all" => (with_reducible assumption)
  k_with "my k_ne" => (refine neN ?_; (try dsimp only); first | with_reducible assumption | exact Ne.symm (by with_reducible assumption) | exact NeA.ne (by with_reducible assumption) | exact Ne.symm (NeA.ne (by with_reducible assumption)) | exact Nat.ne_of_lt (by walk_at "pick") | exact Nat.ne_of_gt (by walk_at "pick") | exact Nat.ne_of_gt (Nat.lt_add_one_of_lt (by walk_at "pick")) | exact Nat.ne_of_lt (Nat.lt_add_one_of_lt (by walk_at "pick")) | walk_at "pick" | exact Ne.symm (by walk_at "pick") | omega)
  k_with "my k_units" => ((try simp only [units_under_make, units_in1, units_deeper, Around.mark_units, units_caller]); first | exact Nat.le_trans (Nat.add_le_add_right (by with_reducible assumption) _) (by decide) | exact Nat.le_trans (by with_reducible assumption) (by decide) | exact lt_cline1 (by with_reducible assumption) (by decide) | exact lt_cline2 (by with_reducible assumption) (by decide) | ((have hcL' := cLine_is); omega))
  k_with "subscriptTail Subscript Name Constant Slice ref ref" => (k_here; k_dflt (first | (refine' list_upto (s := ⟨_, _, _, _, _⟩) (by k_asm) (by k_asm) (by k_mem) (by with_reducible assumption) (by omega) (by omega) ?_) | (refine' list_from (s := ⟨_, _, _, _, _⟩) (by k_asm) (by k_asm) (by k_mem) (by with_reducible assumption) (by omega) (by omega) ?_)); intro D' ws' h' F' N' l1 hI'; (try k_lt l1); (try k_sweep))
  k_with "subscriptTail" => (k_here; (with_reducible show wpAny _ _ (subscriptTail _ _ (Value.ref _) (Value.int (Int.fmod _ _) _)) _ _ _); k_dflt (refine' ba_sub (by k_asm) (by k_mem) (by l_fact) (by l_fact) (by omega) ?_ (by with_unfolding_all rfl)))
  k_with "setItem ref int int" => (k_here; k_dflt (refine' ba_set (by k_asm) (by k_asm) (by k_upd) (by l_fact) (by l_fact) (by omega) (by omega) (by omega) ?_); intro h' F' N'; (try k_sweep))
  k_with "call builtin:len" => (k_here; (with_reducible show wpAny _ _ (PySem.call (Value.builtin "len") [Value.ref _]) _ _ _); k_dflt (refine' ba_lenN (by k_asm) (by k_mem) (by omega) ?_))
  k_with "exec For Name Subscript cons nil" => (k_here; refine forA ?_)
  k_with "pyIter bytes" => (k_here; refine KBw.pyIter_bytes ?_)
  k_with "call builtin:len" => (k_here; (with_reducible show wpAny _ _ (PySem.call (Value.builtin "len") [Value.ref _]) _ _ _); k_dflt (refine' list_lenN (by k_asm) (by k_mem) (by with_reducible assumption) (by ((try simp only [List.length_take, List.length_drop]); omega)) ?_))
  k_with "pick" => (focus (apply pickL; (iterate 13 (first | done | with_reducible assumption | apply pickR)); done))
  k_with "ne" => ((try dsimp only); first | assumption | exact Ne.symm (by assumption) | exact NeA.ne (by assumption) | exact Ne.symm (NeA.ne (by assumption)) | exact Nat.ne_of_lt (by walk_at "pick") | exact Nat.ne_of_gt (by walk_at "pick") | exact Nat.ne_of_gt (Nat.lt_add_one_of_lt (by walk_at "pick")) | exact Nat.ne_of_lt (Nat.lt_add_one_of_lt (by walk_at "pick")) | walk_at "pick" | exact Ne.symm (by walk_at "pick") | omega)
  k_with "num" => (first | with_reducible assumption | exact Int.le_add_of_nonneg_right (by decide) | exact nb12 (by with_reducible assumption) (by with_reducible assumption) | (focus ((repeat (first | with_reducible assumption | refine Int.add_nonneg ?_ (by decide))); done)) | exact Int.le_trans (by with_reducible assumption) (by decide) | exact Int.le_trans (Int.add_le_add_right (by with_reducible assumption) _) (by decide) | omega)
  k_with "rem" => (focus ((repeat (first | exact Rem.head | apply Rem.tail)); done))
  k_with "off" => (focus ((repeat (first | assumption | (refine off_cons ?_ ?_; (focus walk_at "ne")))); done))
  k_with "mem" => (focus ((repeat (first | exact List.Mem.head _ | refine List.Mem.tail _ ?_)); done))
  trivial
set_option maxHeartbeats 2000000 in
theorem lawread_in {w : World} {A₀ : Around} {dp un : Nat} {gd : Option (List Code)} {base h₀ : Heap} {outer : List Env} {env : Env} {L : Addr} {m mg mb : Str → Option Value} {s : Shared} {p : Program} {loose : List Str} {mean : ExcName → Option Value}
    {rest : List (Addr × Obj)} {R : Result → Shared → Prop}
    {od q : Addr} {oo : Obj} {sz : Int} {tz : Tok} {qv : List Value} {qn : List Int} {nq : Nat} {rd wr : Bool} {cnt : Int} {tcn : Tok}
    (B : Below A₀ base outer h₀) (F : Fr h₀ L s.heap m) (X : (hd.heap_1 w.params).In h₀)
    (N : News h₀ L s.heap ((od, oo) :: (q, W.listOf qv.toArray nq) :: rest)) (T : Top p loose mean mg mb h₀)
    (hf : env.frame = some L) (hke : env.scope.kind = .function) (hdep : dp ≤ 400) (hu : un ≤ 1000)
    (hD : oo.IsDictOf (PySem.strKind PySem.Challenge.rw_nz0210_01.prog w) [(Str.ofString "size", .int sz tz), (Str.ofString "queue", .ref q), (Str.ofString "reads", .bool rd), (Str.ofString "writes", .bool wr)]) (hsys : (od == sysModules) = false)
    (hI : IntsAre qv qn) (hqb : ∀ n ∈ qn, 0 ≤ n ∧ n < 256) (hsz : 1 ≤ sz) (hsz1 : sz ≤ 40) (hq : (qn.length : Int) ≤ sz)
    (hnq : ∀ z ∈ rest, z.1 ≠ q) (hno : ∀ z ∈ rest, z.1 ≠ od) (hoq : @Ne Nat od q) (hc0 : 0 ≤ cnt) (hc1 : cnt ≤ 64)
    (kont : (0 < cnt ∧ qn = [] ∧ wr = true → ∀ D h tk ta tb, @LT.lt Nat _ od D → @LT.lt Nat _ q D → AllLt D rest → Fr h₀ L h m → News h₀ L h ((D, { cls := .type "tuple", data := .seq #[.bytes #[] ta, .int 1 tb] }) :: (od, oo) :: (q, W.listOf qv.toArray nq) :: rest) → R (.ok (.ret (.ref D))) { s with heap := h, toks := tk }) ∧
      (¬ (0 < cnt ∧ qn = [] ∧ wr = true) → ∀ oo' q' qv' D h tk ta tb, oo'.IsDictOf (PySem.strKind PySem.Challenge.rw_nz0210_01.prog w) [(Str.ofString "size", .int sz tz), (Str.ofString "queue", .ref q'), (Str.ofString "reads", .bool rd), (Str.ofString "writes", .bool wr)] → IntsAre qv' (qn.drop cnt.toNat) → (∀ z ∈ rest, @LT.lt Nat _ z.1 q') → @LT.lt Nat _ od q' →
        @LT.lt Nat _ od D → @LT.lt Nat _ q' D → AllLt D rest → Fr h₀ L h m → News h₀ L h ((D, { cls := .type "tuple", data := .seq #[.bytes (byteArr (qn.take cnt.toNat)) ta, .int 0 tb] }) :: (od, oo') :: (q', W.listOf (List.toArray qv') 0) :: rest) → R (.ok (.ret (.ref D))) { s with heap := h, toks := tk })) :
    codeAny (model PySem.Challenge.rw_nz0210_01.prog w) ⟨none, dp, some (env :: outer), gd, un⟩ (.call (.ref 175) ⟨[.ref od, .int cnt tcn], []⟩) R s := by
  obtain ⟨kontB, kontW⟩ := kont
  (refine' code_def ?k1 ?k2 ?k3 ?k4 ?k5 ?kA ?kF ?kK ?k6 ?k7 ?k8 ?k9 ?kB ?_ ?c2 ?c3 ?c4 ?c5; (case kA => exact rfl); (case kF => first | exact rfl | assumption); (case kK => first | exact rfl | assumption); (case k1 => k_asm); (case k2 => k_asm); (case k3 => k_asm); (case k4 => k_asm); (case k5 => k_asm); (case k6 => k_is); (case k7 => k_is); (case k8 => k_room); (case k9 => first | exact BindsTo.of_eq rfl | exact binds_K (by k_in) rfl (by k_is) rfl rfl rfl | fail "k_enter: no rule for these arguments"); (case c5 => decide); (case kB => exact locs rfl); (case c2 => exact rfl); (case c3 => exact rfl); (case c4 => exact rfl); k_whole; intro g' L' h' FG' F' N' B' X' T'; (try dsimp only); (try k_lift B'); (try k_fold))
  refine wpAny_execs_cons ?_
  refine' merge_if (P := ¬ (0 < cnt ∧ qn = [] ∧ wr = true)) ?mF ?mN ?m1 ?m2
  case mF => assumption
  case mN => assumption
  case m1 =>
    (repeat' (first | (k_unfold; (try dsimp only)) | walk1 | (dsimp only; walk1) | (leave1; (try dsimp only)) | fail "no step"))
    · refine join_ret ?_
      dsimp only
      (repeat' (first | (k_unfold; (try dsimp only)) | walk1 | (dsimp only; walk1) | (leave1; (try dsimp only)) | fail "no step"))
      refine' kontB ⟨?a, ?b, ?c⟩ _ _ _ _ _ ?l1 ?l2 ?l3 ?F (news_sub ?N ?S)
      case F => assumption
      case N => assumption
      case S => (focus ((repeat (first | with_reducible exact fun _ h => h | exact sub_nil | (refine sub_cons ?_ ?_; (focus (focus ((repeat (first | exact List.Mem.head _ | refine List.Mem.tail _ ?_)); done)))) | refine sub_skip ?_)); done))
      case l1 => first | walk_at "pick" | omega
      case l2 => first | walk_at "pick" | omega
      case l3 => (with_reducible first | assumption | exact And.right (by assumption) | exact And.right (And.right (by assumption)) | exact And.right (And.right (And.right (by assumption))) | exact And.right (And.right (And.right (And.right (by assumption)))) | exact And.right (And.right (And.right (And.right (And.right (by assumption))))) | exact And.right (And.right (And.right (And.right (And.right (And.right (by assumption)))))) | exact And.right (And.right (And.right (And.right (And.right (And.right (And.right (by assumption))))))) | exact And.right (And.right (And.right (And.right (And.right (And.right (And.right (And.right (by assumption)))))))))
      case a => assumption
      case b => exact of_decide_eq_true (by assumption)
      case c => assumption
    all_goals
      refine join_next (by assumption) (news_sub (by assumption) (by (focus ((repeat (first | with_reducible exact fun _ h => h | exact sub_nil | (refine sub_cons ?_ ?_; (focus (focus ((repeat (first | exact List.Mem.head _ | refine List.Mem.tail _ ?_)); done)))) | refine sub_skip ?_)); done)))) ?_
      rintro ⟨h1, h2, h3⟩
      first | contradiction | (subst h3; contradiction) | omega | (subst h2; simp at *; done)
  case m2 =>
    intro hm tkm hP Fm Nm
    dsimp only
    (repeat' (first | (k_unfold; (try dsimp only)) | walk1 | (dsimp only; walk1) | (leave1; (try dsimp only)) | fail "no step"))
    refine' KBa.make_K (ns := qn.take cnt.toNat) ?F ?N rfl ?l ?i ?r ?n ?_
    case F => assumption
    case N => assumption
    case l => exact News.isList (by assumption) (by k_mem)
    case i => assumption
    case r => exact fun n hn => hqb n (List.mem_of_mem_take hn)
    case n => rw [List.length_take]; omega
    intro h' t' k F' N' hin
    (repeat' (first | (k_unfold; (try dsimp only)) | walk1 | (dsimp only; walk1) | (leave1; (try dsimp only)) | fail "no step"))
    refine' kontW ?a _ _ _ _ _ _ _ _ ?D ?i ?l ?o ?l1 ?l2 ?l3 ?F (news_sub ?N ?S)
    case F => assumption
    case N => assumption
    case S => (focus ((repeat (first | with_reducible exact fun _ h => h | exact sub_nil | (refine sub_cons ?_ ?_; (focus (focus ((repeat (first | exact List.Mem.head _ | refine List.Mem.tail _ ?_)); done)))) | refine sub_skip ?_)); done))
    case D => assumption
    case l1 => first | walk_at "pick" | omega
    case l2 => first | walk_at "pick" | omega
    case l3 => (with_reducible first | assumption | exact And.right (by assumption) | exact And.right (And.right (by assumption)) | exact And.right (And.right (And.right (by assumption))) | exact And.right (And.right (And.right (And.right (by assumption)))) | exact And.right (And.right (And.right (And.right (And.right (by assumption))))) | exact And.right (And.right (And.right (And.right (And.right (And.right (by assumption)))))) | exact And.right (And.right (And.right (And.right (And.right (And.right (And.right (by assumption))))))) | exact And.right (And.right (And.right (And.right (And.right (And.right (And.right (And.right (by assumption)))))))))
    case i =>
      have e : qn.drop (((qn.take cnt.toNat).length : Int)).toNat = qn.drop cnt.toNat := by
        rw [Int.toNat_natCast, List.length_take]
        by_cases h : cnt.toNat ≤ qn.length
        · rw [Nat.min_eq_left h]
        · rw [Nat.min_eq_right (by omega), List.drop_length, List.drop_eq_nil_of_le (by omega)]
      rw [← e]; assumption
    case l => first | exact all_lt3 (by assumption) | exact all_lt4 (by assumption)
    case o => omega
    case a => exact hP
end

/-! part PClose -/
section
theorem linesPClose : True := by
  k_with_none
  k_with "my k_room" => ((try simp only [depth_under_make, depth_under_kw, depth_in1, depth_deeper, depth_caller]); (try simp only [recursionLimit]); first | decide | exact Nat.le_trans (by with_reducible assumption) (by decide) | exact Nat.le_trans (Nat.add_le_add_right (by with_reducible assumption) _) (by decide) | omega)
  k_with "execs cons" => (k_here; dsimp only; k_gentoks)
  k_with "execs nil" => (k_here; dsimp only; k_gentoks)
  k_with "my k_all" => (with_reducible assumption)
  k_with "my k_ne" => (refine neN ?_; (try dsimp only); first | with_reducible assumption | exact Ne.symm (by with_reducible assumption) | exact NeA.ne (by with_reducible assumption) | exact Ne.symm (NeA.ne (by with_reducible assumption)) | exact Nat.ne_of_lt (by walk_at "pick") | exact Nat.ne_of_gt (by walk_at "pick") | exact Nat.ne_of_gt (Nat.lt_add_one_of_lt (by walk_at "pick")) | exact Nat.ne_of_lt (Nat.lt_add_one_of_lt (by walk_at "pick")) | walk_at "pick" | exact Ne.symm (by walk_at "pick") | omega)
  k_with "my k_units" => ((try simp only [units_under_make, units_in1, units_deeper, Around.mark_units, units_caller]); first | exact Nat.le_trans (Nat.add_le_add_right (by with_reducible assumption) _) (by decide) | exact Nat.le_trans (by with_reducible assumption) (by decide) | exact lt_cline1 (by with_reducible assumption) (by decide) | exact lt_cline2 (by with_reducible assumption) (by decide) | ((have hcL' := cLine_is); omega))
  k_with "subscriptTail Subscript Name Constant Slice ref ref" => (k_here; k_dflt (first | (refine' list_upto (s := ⟨_, _, _, _, _⟩) (by k_asm) (by k_asm) (by k_mem) (by with_reducible assumption) (by omega) (by omega) ?_) | (refine' list_from (s := ⟨_, _, _, _, _⟩) (by k_asm) (by k_asm) (by k_mem) (by with_reducible assumption) (by omega) (by omega) ?_)); intro D' ws' h' F' N' l1 hI'; (try k_lt l1); (try k_sweep))
  k_with "subscriptTail" => (k_here; (with_reducible show wpAny _ _ (subscriptTail _ _ (Value.ref _) (Value.int (Int.fmod _ _) _)) _ _ _); k_dflt (refine' ba_sub (by k_asm) (by k_mem) (by l_fact) (by l_fact) (by omega) ?_ (by with_unfolding_all rfl)))
  k_with "setItem ref int int" => (k_here; k_dflt (refine' ba_set (by k_asm) (by k_asm) (by k_upd) (by l_fact) (by l_fact) (by omega) (by omega) (by omega) ?_); intro h' F' N'; (try k_sweep))
  k_with "call builtin:len" => (k_here; (with_reducible show wpAny _ _ (PySem.call (Value.builtin "len") [Value.ref _]) _ _ _); k_dflt (refine' ba_lenN (by k_asm) (by k_mem) (by omega) ?_))
  k_with "exec For Name Subscript cons nil" => (k_here; refine forA ?_)
  k_with "pyIter bytes" => (k_here; refine KBw.pyIter_bytes ?_)
  k_with "call builtin:len" => (k_here; (with_reducible show wpAny _ _ (PySem.call (Value.builtin "len") [Value.ref _]) _ _ _); k_dflt (refine' list_lenN (by k_asm) (by k_mem) (by with_reducible assumption) (by ((try simp only [List.length_take, List.length_drop]); omega)) ?_))
  k_with "pick" => (focus (apply pickL; (iterate 13 (first | done | with_reducible assumption | apply pickR)); done))
  k_with "ne" => ((try dsimp only); first | assumption | exact Ne.symm (by assumption) | exact NeA.ne (by assumption) | exact Ne.symm (NeA.ne (by assumption)) | exact Nat.ne_of_lt (by walk_at "pick") | exact Nat.ne_of_gt (by walk_at "pick") | exact Nat.ne_of_gt (Nat.lt_add_one_of_lt (by walk_at "pick")) | exact Nat.ne_of_lt (Nat.lt_add_one_of_lt (by walk_at "pick")) | walk_at "pick" | exact Ne.symm (by walk_at "pick") | omega)
  k_with "num" => (first | with_reducible assumption | exact Int.le_add_of_nonneg_right (by decide) | exact nb12 (by with_reducible assumption) (by with_reducible assumption) | (focus ((repeat (first | with_reducible assumption | refine Int.add_nonneg ?_ (by decide))); done)) | exact Int.le_trans (by with_reducible assumption) (by decide) | exact Int.le_trans (Int.add_le_add_right (by with_reducible assumption) _) (by decide) | omega)
  k_with "rem" => (focus ((repeat (first | exact Rem.head | apply Rem.tail)); done))
  k_with "off" => (focus ((repeat (first | assumption | (refine off_cons ?_ ?_; (focus walk_at "ne")))); done))
  k_with "mem" => (focus ((repeat (first | exact List.Mem.head _ | refine List.Mem.tail _ ?_)); done))
  trivial
set_option maxHeartbeats 2000000 in
theorem pclose_in {w : World} {A₀ : Around} {dp un : Nat} {gd : Option (List Code)} {base h₀ : Heap} {outer : List Env} {env : Env} {L : Addr} {m mg mb : Str → Option Value} {s : Shared} {p : Program} {loose : List Str} {mean : ExcName → Option Value}
    {rest : List (Addr × Obj)} {R : Result → Shared → Prop}
    {x d r : Addr} {id sz rc wc : Int} {ro wo : Bool} {ring : Array UInt8} {k1 k2 k3 k4 k5 k6 k7 t1 t2 t4 t5 : Tok} {sd : Int} {tsd : Tok}
    (B : Below A₀ base outer h₀) (F : Fr h₀ L s.heap m) (X : (hd.heap_1 w.params).In h₀)
    (N : News h₀ L s.heap ((x, instObj 107 d) :: (d, pdO w id sz r k1 k2 k3 k4 k5 k6 k7 t1 t2 (.int rc t4) (.int wc t5) ro wo) :: (r, baOf ring) :: rest)) (T : Top p loose mean mg mb h₀)
    (hf : env.frame = some L) (hke : env.scope.kind = .function) (hdep : dp ≤ 400) (hu : un ≤ 1000)
    (hsz : 1 ≤ sz) (hsz1 : sz ≤ 40) (hr0 : 0 ≤ rc) (hrw : rc ≤ wc) (hws : wc - rc ≤ sz) (hwc : wc ≤ 1000000) (hring : (ring.size : Int) = sz)
    (hnx : ∀ z ∈ rest, z.1 ≠ x) (hnd : ∀ z ∈ rest, z.1 ≠ d) (hnr : ∀ z ∈ rest, z.1 ≠ r) (hxd : @Ne Nat x d) (hxr : @Ne Nat x r) (hdr : @Ne Nat d r) (hsd : sd = 0 ∨ sd = 1)
    (kont : ∀ (v : Bool) h tk ro' wo', v = (!ro' && !wo') → ro' = (if sd = 0 then false else ro) → wo' = (if sd = 0 then wo else false) → Fr h₀ L h m → News h₀ L h ((x, instObj 107 d) :: (d, pdO w id sz r k1 k2 k3 k4 k5 k6 k7 t1 t2 (.int rc t4) (.int wc t5) ro' wo') :: (r, baOf ring) :: rest) → R (.ok (.ret (.bool v))) { s with heap := h, toks := tk }) :
    codeAny (model PySem.Challenge.rw_nz0210_01.prog w) ⟨none, dp, some (env :: outer), gd, un⟩ (.call (.ref 104) ⟨[.ref x, .int sd tsd], []⟩) R s := by
  dsimp only [pdO, tdO] at N
  (refine' code_def ?k1 ?k2 ?k3 ?k4 ?k5 ?kA ?kF ?kK ?k6 ?k7 ?k8 ?k9 ?kB ?_ ?c2 ?c3 ?c4 ?c5; (case kA => exact rfl); (case kF => first | exact rfl | assumption); (case kK => first | exact rfl | assumption); (case k1 => k_asm); (case k2 => k_asm); (case k3 => k_asm); (case k4 => k_asm); (case k5 => k_asm); (case k6 => k_is); (case k7 => k_is); (case k8 => k_room); (case k9 => first | exact BindsTo.of_eq rfl | exact binds_K (by k_in) rfl (by k_is) rfl rfl rfl | fail "k_enter: no rule for these arguments"); (case c5 => decide); (case kB => exact locs rfl); (case c2 => exact rfl); (case c3 => exact rfl); (case c4 => exact rfl); k_whole; intro g' L' h' FG' F' N' B' X' T'; (try dsimp only); (try k_lift B'); (try k_fold))
  (repeat' (first | (k_unfold; (try dsimp only)) | walk1 | (dsimp only; walk1) | (leave1; (try dsimp only)) | fail "no step"))
  all_goals
    refine' kont _ _ _ _ _ ?c ?a ?b ?F ?N
    case F => assumption
    case N => assumption
    case a => first | rw [if_pos (by omega)] | rw [if_neg (by omega)]
    case b => first | rw [if_pos (by omega)] | rw [if_neg (by omega)]
    case c => first | rfl | (simp; done) | simp [‹ro = true›] | simp [‹ro = false›]
end

/-! part LClose -/
section
theorem linesLClose : True := by
  k_with_none
  k_with "my k_room" => ((try simp only [depth_under_make, depth_under_kw, depth_in1, depth_deeper, depth_caller]); (try simp only [recursionLimit]); first | decide | exact Nat.le_trans (by with_reducible assumption) (by decide) | exact Nat.le_trans (Nat.add_le_add_right (by with_reducible assumption) _) (by decide) | omega)
  k_with "execs cons" => (k_here; dsimp only; k_gentoks)
  k_with "execs nil" => (k_here; dsimp only; k_gentoks)
  k_with "my k_all" => (with_reducible assumption)
  k_with "my k_ne" => (refine neN ?_; (try dsimp only); first | with_reducible assumption | exact Ne.symm (by with_reducible assumption) | exact NeA.ne (by with_reducible assumption) | exact Ne.symm (NeA.ne (by with_reducible assumption)) | exact Nat.ne_of_lt (by walk_at "pick") | exact Nat.ne_of_gt (by walk_at "pick") | exact Nat.ne_of_gt (Nat.lt_add_one_of_lt (by walk_at "pick")) | exact Nat.ne_of_lt (Nat.lt_add_one_of_lt (by walk_at "pick")) | walk_at "pick" | exact Ne.symm (by walk_at "pick") | omega)
  k_with "my k_units" => ((try simp only [units_under_make, units_in1, units_deeper, Around.mark_units, units_caller]); first | exact Nat.le_trans (Nat.add_le_add_right (by with_reducible assumption) _) (by decide) | exact Nat.le_trans (by with_reducible assumption) (by decide) | exact lt_cline1 (by with_reducible assumption) (by decide) | exact lt_cline2 (by with_reducible assumption) (by decide) | ((have hcL' := cLine_is); omega))
  k_with "subscriptTail Subscript Name Constant Slice ref ref" => (k_here; k_dflt (first | (refine' list_upto (s := ⟨_, _, _, _, _⟩) (by k_asm) (by k_asm) (by k_mem) (by with_reducible assumption) (by omega) (by omega) ?_) | (refine' list_from (s := ⟨_, _, _, _, _⟩) (by k_asm) (by k_asm) (by k_mem) (by with_reducible assumption) (by omega) (by omega) ?_)); intro D' ws' h' F' N' l1 hI'; (try k_lt l1); (try k_sweep))
  k_with "subscriptTail" => (k_here; (with_reducible show wpAny _ _ (subscriptTail _ _ (Value.ref _) (Value.int (Int.fmod _ _) _)) _ _ _); k_dflt (refine' ba_sub (by k_asm) (by k_mem) (by l_fact) (by l_fact) (by omega) ?_ (by with_unfolding_all rfl)))
  k_with "setItem ref int int" => (k_here; k_dflt (refine' ba_set (by k_asm) (by k_asm) (by k_upd) (by l_fact) (by l_fact) (by omega) (by omega) (by omega) ?_); intro h' F' N'; (try k_sweep))
  k_with "call builtin:len" => (k_here; (with_reducible show wpAny _ _ (PySem.call (Value.builtin "len") [Value.ref _]) _ _ _); k_dflt (refine' ba_lenN (by k_asm) (by k_mem) (by omega) ?_))
  k_with "exec For Name Subscript cons nil" => (k_here; refine forA ?_)
  k_with "pyIter bytes" => (k_here; refine KBw.pyIter_bytes ?_)
  k_with "call builtin:len" => (k_here; (with_reducible show wpAny _ _ (PySem.call (Value.builtin "len") [Value.ref _]) _ _ _); k_dflt (refine' list_lenN (by k_asm) (by k_mem) (by with_reducible assumption) (by ((try simp only [List.length_take, List.length_drop]); omega)) ?_))
  k_with "pick" => (focus (apply pickL; (iterate 13 (first | done | with_reducible assumption | apply pickR)); done))
  k_with "ne" => ((try dsimp only); first | assumption | exact Ne.symm (by assumption) | exact NeA.ne (by assumption) | exact Ne.symm (NeA.ne (by assumption)) | exact Nat.ne_of_lt (by walk_at "pick") | exact Nat.ne_of_gt (by walk_at "pick") | exact Nat.ne_of_gt (Nat.lt_add_one_of_lt (by walk_at "pick")) | exact Nat.ne_of_lt (Nat.lt_add_one_of_lt (by walk_at "pick")) | walk_at "pick" | exact Ne.symm (by walk_at "pick") | omega)
  k_with "num" => (first | with_reducible assumption | exact Int.le_add_of_nonneg_right (by decide) | exact nb12 (by with_reducible assumption) (by with_reducible assumption) | (focus ((repeat (first | with_reducible assumption | refine Int.add_nonneg ?_ (by decide))); done)) | exact Int.le_trans (by with_reducible assumption) (by decide) | exact Int.le_trans (Int.add_le_add_right (by with_reducible assumption) _) (by decide) | omega)
  k_with "rem" => (focus ((repeat (first | exact Rem.head | apply Rem.tail)); done))
  k_with "off" => (focus ((repeat (first | assumption | (refine off_cons ?_ ?_; (focus walk_at "ne")))); done))
  k_with "mem" => (focus ((repeat (first | exact List.Mem.head _ | refine List.Mem.tail _ ?_)); done))
  trivial
set_option maxHeartbeats 2000000 in
theorem lclose_in {w : World} {A₀ : Around} {dp un : Nat} {gd : Option (List Code)} {base h₀ : Heap} {outer : List Env} {env : Env} {L : Addr} {m mg mb : Str → Option Value} {s : Shared} {p : Program} {loose : List Str} {mean : ExcName → Option Value}
    {rest : List (Addr × Obj)} {R : Result → Shared → Prop}
    {od q : Addr} {oo : Obj} {sz : Int} {tz : Tok} {qv : List Value} {qn : List Int} {nq : Nat} {rd wr : Bool} {sd : Int} {tsd : Tok}
    (B : Below A₀ base outer h₀) (F : Fr h₀ L s.heap m) (X : (hd.heap_1 w.params).In h₀)
    (N : News h₀ L s.heap ((od, oo) :: (q, W.listOf qv.toArray nq) :: rest)) (T : Top p loose mean mg mb h₀)
    (hf : env.frame = some L) (hke : env.scope.kind = .function) (hdep : dp ≤ 400) (hu : un ≤ 1000)
    (hD : oo.IsDictOf (PySem.strKind PySem.Challenge.rw_nz0210_01.prog w) [(Str.ofString "size", .int sz tz), (Str.ofString "queue", .ref q), (Str.ofString "reads", .bool rd), (Str.ofString "writes", .bool wr)]) (hsys : (od == sysModules) = false)
    (hI : IntsAre qv qn) (hqb : ∀ n ∈ qn, 0 ≤ n ∧ n < 256) (hsz : 1 ≤ sz) (hsz1 : sz ≤ 40) (hq : (qn.length : Int) ≤ sz)
    (hnq : ∀ z ∈ rest, z.1 ≠ q) (hno : ∀ z ∈ rest, z.1 ≠ od) (hoq : @Ne Nat od q) (hsd : sd = 0 ∨ sd = 1)
    (kont : ∀ (v : Bool) oo' h tk rd' wr', v = (!rd' && !wr') → rd' = (if sd = 0 then false else rd) → wr' = (if sd = 0 then wr else false) → oo'.IsDictOf (PySem.strKind PySem.Challenge.rw_nz0210_01.prog w) [(Str.ofString "size", .int sz tz), (Str.ofString "queue", .ref q), (Str.ofString "reads", .bool rd'), (Str.ofString "writes", .bool wr')] →
   Fr h₀ L h m → News h₀ L h ((od, oo') :: (q, W.listOf qv.toArray nq) :: rest) → R (.ok (.ret (.bool v))) { s with heap := h, toks := tk }) :
    codeAny (model PySem.Challenge.rw_nz0210_01.prog w) ⟨none, dp, some (env :: outer), gd, un⟩ (.call (.ref 182) ⟨[.ref od, .int sd tsd], []⟩) R s := by
  (refine' code_def ?k1 ?k2 ?k3 ?k4 ?k5 ?kA ?kF ?kK ?k6 ?k7 ?k8 ?k9 ?kB ?_ ?c2 ?c3 ?c4 ?c5; (case kA => exact rfl); (case kF => first | exact rfl | assumption); (case kK => first | exact rfl | assumption); (case k1 => k_asm); (case k2 => k_asm); (case k3 => k_asm); (case k4 => k_asm); (case k5 => k_asm); (case k6 => k_is); (case k7 => k_is); (case k8 => k_room); (case k9 => first | exact BindsTo.of_eq rfl | exact binds_K (by k_in) rfl (by k_is) rfl rfl rfl | fail "k_enter: no rule for these arguments"); (case c5 => decide); (case kB => exact locs rfl); (case c2 => exact rfl); (case c3 => exact rfl); (case c4 => exact rfl); k_whole; intro g' L' h' FG' F' N' B' X' T'; (try dsimp only); (try k_lift B'); (try k_fold))
  (repeat' (first | (k_unfold; (try dsimp only)) | walk1 | (dsimp only; walk1) | (leave1; (try dsimp only)) | fail "no step"))
  all_goals
    refine' kont _ _ _ _ _ _ ?c ?a ?b ?D ?F ?N
    case F => assumption
    case N => assumption
    case D => assumption
    case a => first | rw [if_pos (by omega)] | rw [if_neg (by omega)]
    case b => first | rw [if_pos (by omega)] | rw [if_neg (by omega)]
    case c => first | rfl | (simp; done) | simp [‹rd = true›] | simp [‹rd = false›]
end

/-! part TMake -/
section
theorem linesTMake : True := by
  k_with_none
  k_with "my k_room" => ((try simp only [depth_under_make, depth_under_kw, depth_in1, depth_deeper, depth_caller]); (try simp only [recursionLimit]); first | decide | exact Nat.le_trans (by with_reducible assumption) (by decide) | exact Nat.le_trans (Nat.add_le_add_right (by with_reducible assumption) _) (by decide) | omega)
  k_with "execs cons" => (k_here; dsimp only; k_gentoks)
  k_with "execs nil" => (k_here; dsimp only; k_gentoks)
  k_with "my k_all" => (with_reducible assumption)
  k_with "my k_ne" => (refine neN ?_; (try dsimp only); first | with_reducible assumption | exact Ne.symm (by with_reducible assumption) | exact NeA.ne (by with_reducible assumption) | exact Ne.symm (NeA.ne (by with_reducible assumption)) | exact Nat.ne_of_lt (by walk_at "pick") | exact Nat.ne_of_gt (by walk_at "pick") | exact Nat.ne_of_gt (Nat.lt_add_one_of_lt (by walk_at "pick")) | exact Nat.ne_of_lt (Nat.lt_add_one_of_lt (by walk_at "pick")) | walk_at "pick" | exact Ne.symm (by walk_at "pick") | omega)
  k_with "my k_units" => ((try simp only [units_under_make, units_in1, units_deeper, Around.mark_units, units_caller]); first | exact Nat.le_trans (Nat.add_le_add_right (by with_reducible assumption) _) (by decide) | exact Nat.le_trans (by with_reducible assumption) (by decide) | exact lt_cline1 (by with_reducible assumption) (by decide) | exact lt_cline2 (by with_reducible assumption) (by decide) | ((have hcL' := cLine_is); omega))
  k_with "subscriptTail Subscript Name Constant Slice ref ref" => (k_here; k_dflt (first | (refine' list_upto (s := ⟨_, _, _, _, _⟩) (by k_asm) (by k_asm) (by k_mem) (by with_reducible assumption) (by omega) (by omega) ?_) | (refine' list_from (s := ⟨_, _, _, _, _⟩) (by k_asm) (by k_asm) (by k_mem) (by with_reducible assumption) (by omega) (by omega) ?_)); intro D' ws' h' F' N' l1 hI'; (try k_lt l1); (try k_sweep))
  k_with "subscriptTail" => (k_here; (with_reducible show wpAny _ _ (subscriptTail _ _ (Value.ref _) (Value.int (Int.fmod _ _) _)) _ _ _); k_dflt (refine' ba_sub (by k_asm) (by k_mem) (by l_fact) (by l_fact) (by omega) ?_ (by with_unfolding_all rfl)))
  k_with "setItem ref int int" => (k_here; k_dflt (refine' ba_set (by k_asm) (by k_asm) (by k_upd) (by l_fact) (by l_fact) (by omega) (by omega) (by omega) ?_); intro h' F' N'; (try k_sweep))
  k_with "call builtin:len" => (k_here; (with_reducible show wpAny _ _ (PySem.call (Value.builtin "len") [Value.ref _]) _ _ _); k_dflt (refine' ba_lenN (by k_asm) (by k_mem) (by omega) ?_))
  k_with "exec For Name Subscript cons nil" => (k_here; refine forA ?_)
  k_with "pyIter bytes" => (k_here; refine KBw.pyIter_bytes ?_)
  k_with "call builtin:len" => (k_here; (with_reducible show wpAny _ _ (PySem.call (Value.builtin "len") [Value.ref _]) _ _ _); k_dflt (refine' list_lenN (by k_asm) (by k_mem) (by with_reducible assumption) (by ((try simp only [List.length_take, List.length_drop]); omega)) ?_))
  k_with "pick" => (focus (apply pickL; (iterate 13 (first | done | with_reducible assumption | apply pickR)); done))
  k_with "ne" => ((try dsimp only); first | assumption | exact Ne.symm (by assumption) | exact NeA.ne (by assumption) | exact Ne.symm (NeA.ne (by assumption)) | exact Nat.ne_of_lt (by walk_at "pick") | exact Nat.ne_of_gt (by walk_at "pick") | exact Nat.ne_of_gt (Nat.lt_add_one_of_lt (by walk_at "pick")) | exact Nat.ne_of_lt (Nat.lt_add_one_of_lt (by walk_at "pick")) | walk_at "pick" | exact Ne.symm (by walk_at "pick") | omega)
  k_with "num" => (first | with_reducible assumption | exact Int.le_add_of_nonneg_right (by decide) | exact nb12 (by with_reducible assumption) (by with_reducible assumption) | (focus ((repeat (first | with_reducible assumption | refine Int.add_nonneg ?_ (by decide))); done)) | exact Int.le_trans (by with_reducible assumption) (by decide) | exact Int.le_trans (Int.add_le_add_right (by with_reducible assumption) _) (by decide) | omega)
  k_with "rem" => (focus ((repeat (first | exact Rem.head | apply Rem.tail)); done))
  k_with "off" => (focus ((repeat (first | assumption | (refine off_cons ?_ ?_; (focus walk_at "ne")))); done))
  k_with "mem" => (focus ((repeat (first | exact List.Mem.head _ | refine List.Mem.tail _ ?_)); done))
  k_with "setItem ref int" => (k_here; k_dflt (refine' kda_set (knd := PySem.intKind _ _) (by k_asm) (by k_asm) (by k_updF) (by k_asm) (intKind_is _ _ _ _) (by (rw [sizeLine_eq]; omega)) ?_); intro h' o' F' N' hd'; (try dsimp only at N'))
  trivial
set_option maxHeartbeats 2000000 in
theorem tmake_in {w : World} {A₀ : Around} {dp un : Nat} {gd : Option (List Code)} {base h₀ : Heap} {outer : List Env} {env : Env} {L : Addr} {m mg mb : Str → Option Value} {s : Shared} {p : Program} {loose : List Str} {mean : ExcName → Option Value}
    {rest : List (Addr × Obj)} {R : Result → Shared → Prop}
    {tb td tp : Addr} {op : Obj} {kvs : List (Int × Value)} {tsz made : Int} {j1 j2 j3 u1 u2 : Tok}
    (B : Below A₀ base outer h₀) (F : Fr h₀ L s.heap m) (X : (hd.heap_1 w.params).In h₀)
    (N : News h₀ L s.heap ((tb, instObj 150 td) :: (td, tdO w tsz (made) j1 j2 j3 u1 u2 tp) :: (tp, op) :: rest)) (T : Top p loose mean mg mb h₀)
    (hf : env.frame = some L) (hke : env.scope.kind = .function) (hdep : dp ≤ 390) (hu : un ≤ 950)
    (htp : (tp == sysModules) = false) (hkl : kvs.length ≤ 1000) (hsz : 1 ≤ tsz) (hsz1 : tsz ≤ 40) (hm0 : 0 ≤ made) (hm1 : made ≤ 1000) (hkv : op.IsDictOf (PySem.intKind PySem.Challenge.rw_nz0210_01.prog w) kvs) (hntb : ∀ z ∈ rest, z.1 ≠ tb) (hntd : ∀ z ∈ rest, z.1 ≠ td) (hntp : ∀ z ∈ rest, z.1 ≠ tp) (htbd : @Ne Nat tb td) (htbp : @Ne Nat tb tp) (htdp : @Ne Nat td tp)
    (kont : ∀ x d r op' u2' k1 k2 k3 k4 k5 k6 k7 t4 t5 h tk, (∀ z ∈ rest, @LT.lt Nat _ z.1 d) → @LT.lt Nat _ tb d → @LT.lt Nat _ td d → @LT.lt Nat _ tp d → @LT.lt Nat _ d x → @LT.lt Nat _ x r → op'.IsDictOf (PySem.intKind PySem.Challenge.rw_nz0210_01.prog w) (stored kvs made (.ref x)) → Fr h₀ L h m →
   News h₀ L h ((x, instObj 107 d) :: (d, pdO w made tsz r k1 k2 k3 k4 k5 k6 k7 u2 u1 (.int 0 t4) (.int 0 t5) true true) :: (r, baOf (Array.replicate tsz.toNat 0)) :: (tb, instObj 150 td) :: (td, tdO w tsz (made + 1) j1 j2 j3 u1 u2' tp) :: (tp, op') :: rest) → R (.ok (.ret (.ref x))) { s with heap := h, toks := tk }) :
    codeC (model PySem.Challenge.rw_nz0210_01.prog w) ⟨none, dp, some (env :: outer), gd, un⟩ (.call (.ref 133) ⟨[.ref tb], []⟩) R s := by
  dsimp only [pdO, tdO] at N
  (refine' code_defClean ?k1 ?k2 ?k3 ?k4 ?k5 ?kA ?kF ?kK ?k6 ?k7 ?k8 ?k9 ?kB ?_ ?c2 ?c3 ?c4 ?c5; (case kA => exact rfl); (case kF => first | exact rfl | assumption); (case kK => first | exact rfl | assumption); (case k1 => k_asm); (case k2 => k_asm); (case k3 => k_asm); (case k4 => k_asm); (case k5 => k_asm); (case k6 => k_is); (case k7 => k_is); (case k8 => k_room); (case k9 => first | exact BindsTo.of_eq rfl | exact binds_K (by k_in) rfl (by k_is) rfl rfl rfl | fail "c_enter: no rule for these arguments"); (case c5 => decide); (case kB => exact locs rfl); (case c2 => exact rfl); (case c3 => exact rfl); (case c4 => exact rfl); k_whole; intro g' L' h' FG' F' N' B' X' T'; (try dsimp only); (try k_lift B'); (try k_fold))
  refine execsC ?_
  refine nameC ?_
  refine callNameC ?_
  (repeat' (first | (k_unfold; (try dsimp only)) | walk1 | (dsimp only; walk1) | (leave1; (try dsimp only)) | fail "no step"))
  refine' callWithK1 ?X ?k ?_
  case X => k_asm
  case k => k_is
  (repeat' (first | (k_unfold; (try dsimp only)) | walk1 | (dsimp only; walk1) | (leave1; (try dsimp only)) | fail "no step"))
  refine' wpC_call (makeC (fI := 62) ?F ?N ?X ?m ?i ?t ?_)
  case F => assumption
  case N => assumption
  case X => k_in
  case m => k_is
  case i => k_is
  case t => k_is
  intro x d h' F' N' l1 l2
  have l3 : @LT.lt Nat _ d x := l2
  have hxd : @Ne Nat x d := Nat.ne_of_gt l2
  refine' pinit_in ?B ?F ?X ?N ?T rfl rfl ?hd ?hu hsz hsz1 ?nx ?nd hxd ?_
  case B => k_asm
  case F => assumption
  case X => k_asm
  case N => assumption
  case T => k_asm
  case hd => exact (show dp + 1 + 1 ≤ 400 by omega)
  case hu => exact (show un + 3 + 1 ≤ 1000 by omega)
  case nx => exact fun z hz => Nat.ne_of_lt (Nat.lt_trans (l1 z hz) l2)
  case nd => exact fun z hz => Nat.ne_of_lt (l1 z hz)
  intro r k1 k2 k3 k4 k5 k6 k7 t4 t5 h tk ltr hxr hdr F' N'
  refine ⟨rfl, ?_⟩
  have hd1 : @LT.lt Nat _ tb d := l1 _ (.head _)
  have hd2 : @LT.lt Nat _ td d := l1 _ (.tail _ (.head _))
  have hd3 : @LT.lt Nat _ tp d := l1 _ (.tail _ (.tail _ (.head _)))
  have hdr : ∀ z ∈ rest, @LT.lt Nat _ z.1 d := fun z hz => l1 _ (.tail _ (.tail _ (.tail _ hz)))
  have hrr : ∀ z ∈ rest, @LT.lt Nat _ z.1 r := fun z hz => ltr _ (.tail _ (.tail _ (.tail _ hz)))
  have htr1 : @LT.lt Nat _ tb r := ltr _ (.head _)
  have htr2 : @LT.lt Nat _ td r := ltr _ (.tail _ (.head _))
  have htr3 : @LT.lt Nat _ tp r := ltr _ (.tail _ (.tail _ (.head _)))
  dsimp only
  (repeat' (first | (k_unfold; (try dsimp only)) | walk1 | (dsimp only; walk1) | (leave1; (try dsimp only)) | fail "no step"))
  refine execsC_lift ?_
  (repeat' (first | (k_unfold; (try dsimp only)) | walk1 | (dsimp only; walk1) | (leave1; (try dsimp only)) | fail "no step"))
  refine execsC_lift ?_
  (repeat' (first | (k_unfold; (try dsimp only)) | walk1 | (dsimp only; walk1) | (leave1; (try dsimp only)) | fail "no step"))
  refine execsC_lift ?_
  (repeat' (first | (k_unfold; (try dsimp only)) | walk1 | (dsimp only; walk1) | (leave1; (try dsimp only)) | fail "no step"))
  refine' kont x d r _ _ _ _ _ _ _ _ _ _ _ _ _ hdr hd1 hd2 hd3 l3 hxr ?D ?F ?N
  case F => assumption
  case N => exact news_sub (by assumption) (by (focus ((repeat (first | with_reducible exact fun _ h => h | exact sub_nil | (refine sub_cons ?_ ?_; (focus (focus ((repeat (first | exact List.Mem.head _ | refine List.Mem.tail _ ?_)); done)))) | refine sub_skip ?_)); done)))
  case D => assumption
end

/-! part LAlike -/
section
theorem linesLAlike : True := by
  k_with_none
  k_with "my k_room" => ((try simp only [depth_under_make, depth_under_kw, depth_in1, depth_deeper, depth_caller]); (try simp only [recursionLimit]); first | decide | exact Nat.le_trans (by with_reducible assumption) (by decide) | exact Nat.le_trans (Nat.add_le_add_right (by with_reducible assumption) _) (by decide) | omega)
  k_with "execs cons" => (k_here; dsimp only; k_gentoks)
  k_with "execs nil" => (k_here; dsimp only; k_gentoks)
  k_with "my k_all" => (with_reducible assumption)
  k_with "my k_ne" => (refine neN ?_; (try dsimp only); first | with_reducible assumption | exact Ne.symm (by with_reducible assumption) | exact NeA.ne (by with_reducible assumption) | exact Ne.symm (NeA.ne (by with_reducible assumption)) | exact Nat.ne_of_lt (by walk_at "pick") | exact Nat.ne_of_gt (by walk_at "pick") | exact Nat.ne_of_gt (Nat.lt_add_one_of_lt (by walk_at "pick")) | exact Nat.ne_of_lt (Nat.lt_add_one_of_lt (by walk_at "pick")) | walk_at "pick" | exact Ne.symm (by walk_at "pick") | omega)
  k_with "my k_units" => ((try simp only [units_under_make, units_in1, units_deeper, Around.mark_units, units_caller]); first | exact Nat.le_trans (Nat.add_le_add_right (by with_reducible assumption) _) (by decide) | exact Nat.le_trans (by with_reducible assumption) (by decide) | exact lt_cline1 (by with_reducible assumption) (by decide) | exact lt_cline2 (by with_reducible assumption) (by decide) | ((have hcL' := cLine_is); omega))
  k_with "subscriptTail Subscript Name Constant Slice ref ref" => (k_here; k_dflt (first | (refine' list_upto (s := ⟨_, _, _, _, _⟩) (by k_asm) (by k_asm) (by k_mem) (by with_reducible assumption) (by omega) (by omega) ?_) | (refine' list_from (s := ⟨_, _, _, _, _⟩) (by k_asm) (by k_asm) (by k_mem) (by with_reducible assumption) (by omega) (by omega) ?_)); intro D' ws' h' F' N' l1 hI'; (try k_lt l1); (try k_sweep))
  k_with "subscriptTail" => (k_here; (with_reducible show wpAny _ _ (subscriptTail _ _ (Value.ref _) (Value.int (Int.fmod _ _) _)) _ _ _); k_dflt (refine' ba_sub (by k_asm) (by k_mem) (by l_fact) (by l_fact) (by omega) ?_ (by with_unfolding_all rfl)))
  k_with "setItem ref int int" => (k_here; k_dflt (refine' ba_set (by k_asm) (by k_asm) (by k_upd) (by l_fact) (by l_fact) (by omega) (by omega) (by omega) ?_); intro h' F' N'; (try k_sweep))
  k_with "call builtin:len" => (k_here; (with_reducible show wpAny _ _ (PySem.call (Value.builtin "len") [Value.ref _]) _ _ _); k_dflt (refine' ba_lenN (by k_asm) (by k_mem) (by omega) ?_))
  k_with "exec For Name Subscript cons nil" => (k_here; refine forA ?_)
  k_with "pyIter bytes" => (k_here; refine KBw.pyIter_bytes ?_)
  k_with "call builtin:len" => (k_here; (with_reducible show wpAny _ _ (PySem.call (Value.builtin "len") [Value.ref _]) _ _ _); k_dflt (refine' list_lenN (by k_asm) (by k_mem) (by with_reducible assumption) (by ((try simp only [List.length_take, List.length_drop]); omega)) ?_))
  k_with "pick" => (focus (apply pickL; (iterate 13 (first | done | with_reducible assumption | apply pickR)); done))
  k_with "ne" => ((try dsimp only); first | assumption | exact Ne.symm (by assumption) | exact NeA.ne (by assumption) | exact Ne.symm (NeA.ne (by assumption)) | exact Nat.ne_of_lt (by walk_at "pick") | exact Nat.ne_of_gt (by walk_at "pick") | exact Nat.ne_of_gt (Nat.lt_add_one_of_lt (by walk_at "pick")) | exact Nat.ne_of_lt (Nat.lt_add_one_of_lt (by walk_at "pick")) | walk_at "pick" | exact Ne.symm (by walk_at "pick") | omega)
  k_with "num" => (first | with_reducible assumption | exact Int.le_add_of_nonneg_right (by decide) | exact nb12 (by with_reducible assumption) (by with_reducible assumption) | (focus ((repeat (first | with_reducible assumption | refine Int.add_nonneg ?_ (by decide))); done)) | exact Int.le_trans (by with_reducible assumption) (by decide) | exact Int.le_trans (Int.add_le_add_right (by with_reducible assumption) _) (by decide) | omega)
  k_with "rem" => (focus ((repeat (first | exact Rem.head | apply Rem.tail)); done))
  k_with "off" => (focus ((repeat (first | assumption | (refine off_cons ?_ ?_; (focus walk_at "ne")))); done))
  k_with "mem" => (focus ((repeat (first | exact List.Mem.head _ | refine List.Mem.tail _ ?_)); done))
  trivial
set_option maxHeartbeats 2000000 in
theorem alike_in {w : World} {A₀ : Around} {dp un : Nat} {gd : Option (List Code)} {base h₀ : Heap} {outer : List Env} {env : Env} {L : Addr} {m mg mb : Str → Option Value} {s : Shared} {p : Program} {loose : List Str} {mean : ExcName → Option Value}
    {rest : List (Addr × Obj)} {R : Result → Shared → Prop}
    {od q : Addr} {oo : Obj} {sz : Int} {tz : Tok} {qv : List Value} {qn : List Int} {nq : Nat} {rd wr : Bool} {x d r : Addr} {id rc wc : Int} {ro wo : Bool} {ring : Array UInt8} {k1 k2 k3 k4 k5 k6 k7 t1 t2 t4 t5 : Tok}
    (B : Below A₀ base outer h₀) (F : Fr h₀ L s.heap m) (X : (hd.heap_1 w.params).In h₀)
    (N : News h₀ L s.heap ((x, instObj 107 d) :: (d, pdO w id sz r k1 k2 k3 k4 k5 k6 k7 t1 t2 (.int rc t4) (.int wc t5) ro wo) :: (r, baOf ring) :: (od, oo) :: (q, W.listOf qv.toArray nq) :: rest)) (T : Top p loose mean mg mb h₀)
    (hf : env.frame = some L) (hke : env.scope.kind = .function) (hdep : dp ≤ 400) (hu : un ≤ 1000)
    (hD : oo.IsDictOf (PySem.strKind PySem.Challenge.rw_nz0210_01.prog w) [(Str.ofString "size", .int sz tz), (Str.ofString "queue", .ref q), (Str.ofString "reads", .bool rd), (Str.ofString "writes", .bool wr)]) (hsys : (od == sysModules) = false)
    (hI : IntsAre qv qn) (hqb : ∀ n ∈ qn, 0 ≤ n ∧ n < 256) (hsz : 1 ≤ sz) (hsz1 : sz ≤ 40) (hq : (qn.length : Int) ≤ sz)
    (hnq : ∀ z ∈ rest, z.1 ≠ q) (hno : ∀ z ∈ rest, z.1 ≠ od) (hoq : @Ne Nat od q)
    (hr0 : 0 ≤ rc) (hrw : rc ≤ wc) (hws : wc - rc ≤ sz) (hwc : wc ≤ 1000000) (hring : (ring.size : Int) = sz)
    (hnx : ∀ z ∈ rest, z.1 ≠ x) (hnd : ∀ z ∈ rest, z.1 ≠ d) (hnr : ∀ z ∈ rest, z.1 ≠ r) (hxd : @Ne Nat x d) (hxr : @Ne Nat x r) (hdr : @Ne Nat d r)(hql : (qn.length : Int) = wc - rc) (hox : @Ne Nat od x) (hod : @Ne Nat od d) (hor : @Ne Nat od r) (hqx : @Ne Nat q x) (hqd : @Ne Nat q d) (hqr : @Ne Nat q r)
    (kont : ∀ h tk, Fr h₀ L h m → News h₀ L h ((x, instObj 107 d) :: (d, pdO w id sz r k1 k2 k3 k4 k5 k6 k7 t1 t2 (.int rc t4) (.int wc t5) ro wo) :: (r, baOf ring) :: (od, oo) :: (q, W.listOf qv.toArray nq) :: rest) → R (.ok (.ret (.bool (ro == rd && wo == wr)))) { s with heap := h, toks := tk }) :
    codeAny (model PySem.Challenge.rw_nz0210_01.prog w) ⟨none, dp, some (env :: outer), gd, un⟩ (.call (.ref 189) ⟨[.ref od, .ref x], []⟩) R s := by
  dsimp only [pdO, tdO] at N
  (refine' code_def ?k1 ?k2 ?k3 ?k4 ?k5 ?kA ?kF ?kK ?k6 ?k7 ?k8 ?k9 ?kB ?_ ?c2 ?c3 ?c4 ?c5; (case kA => exact rfl); (case kF => first | exact rfl | assumption); (case kK => first | exact rfl | assumption); (case k1 => k_asm); (case k2 => k_asm); (case k3 => k_asm); (case k4 => k_asm); (case k5 => k_asm); (case k6 => k_is); (case k7 => k_is); (case k8 => k_room); (case k9 => first | exact BindsTo.of_eq rfl | exact binds_K (by k_in) rfl (by k_is) rfl rfl rfl | fail "k_enter: no rule for these arguments"); (case c5 => decide); (case kB => exact locs rfl); (case c2 => exact rfl); (case c3 => exact rfl); (case c4 => exact rfl); k_whole; intro g' L' h' FG' F' N' B' X' T'; (try dsimp only); (try k_lift B'); (try k_fold))
  (repeat' (first | (k_unfold; (try dsimp only)) | walk1 | (dsimp only; walk1) | (leave1; (try dsimp only)) | fail "no step"))
  · have e : (wc - rc == (qn.length : Int) && (sz - (wc - rc) == sz - (qn.length : Int) && (ro == rd && wo == wr))) = (ro == rd && wo == wr) := by
      rw [hql]; simp
    rw [e]
    exact kont _ _ (by assumption) (news_tail (news_tail (by assumption)))
end

/-! part TClose -/
section
theorem linesTClose : True := by
  k_with_none
  k_with "my k_room" => ((try simp only [depth_under_make, depth_under_kw, depth_in1, depth_deeper, depth_caller]); (try simp only [recursionLimit]); first | decide | exact Nat.le_trans (by with_reducible assumption) (by decide) | exact Nat.le_trans (Nat.add_le_add_right (by with_reducible assumption) _) (by decide) | omega)
  k_with "execs cons" => (k_here; dsimp only; k_gentoks)
  k_with "execs nil" => (k_here; dsimp only; k_gentoks)
  k_with "my k_all" => (with_reducible assumption)
  k_with "my k_ne" => (refine neN ?_; (try dsimp only); first | with_reducible assumption | exact Ne.symm (by with_reducible assumption) | exact NeA.ne (by with_reducible assumption) | exact Ne.symm (NeA.ne (by with_reducible assumption)) | exact Nat.ne_of_lt (by walk_at "pick") | exact Nat.ne_of_gt (by walk_at "pick") | exact Nat.ne_of_gt (Nat.lt_add_one_of_lt (by walk_at "pick")) | exact Nat.ne_of_lt (Nat.lt_add_one_of_lt (by walk_at "pick")) | walk_at "pick" | exact Ne.symm (by walk_at "pick") | omega)
  k_with "my k_units" => ((try simp only [units_under_make, units_in1, units_deeper, Around.mark_units, units_caller]); first | exact Nat.le_trans (Nat.add_le_add_right (by with_reducible assumption) _) (by decide) | exact Nat.le_trans (by with_reducible assumption) (by decide) | exact lt_cline1 (by with_reducible assumption) (by decide) | exact lt_cline2 (by with_reducible assumption) (by decide) | ((have hcL' := cLine_is); omega))
  k_with "subscriptTail Subscript Name Constant Slice ref ref" => (k_here; k_dflt (first | (refine' list_upto (s := ⟨_, _, _, _, _⟩) (by k_asm) (by k_asm) (by k_mem) (by with_reducible assumption) (by omega) (by omega) ?_) | (refine' list_from (s := ⟨_, _, _, _, _⟩) (by k_asm) (by k_asm) (by k_mem) (by with_reducible assumption) (by omega) (by omega) ?_)); intro D' ws' h' F' N' l1 hI'; (try k_lt l1); (try k_sweep))
  k_with "subscriptTail" => (k_here; (with_reducible show wpAny _ _ (subscriptTail _ _ (Value.ref _) (Value.int (Int.fmod _ _) _)) _ _ _); k_dflt (refine' ba_sub (by k_asm) (by k_mem) (by l_fact) (by l_fact) (by omega) ?_ (by with_unfolding_all rfl)))
  k_with "setItem ref int int" => (k_here; k_dflt (refine' ba_set (by k_asm) (by k_asm) (by k_upd) (by l_fact) (by l_fact) (by omega) (by omega) (by omega) ?_); intro h' F' N'; (try k_sweep))
  k_with "call builtin:len" => (k_here; (with_reducible show wpAny _ _ (PySem.call (Value.builtin "len") [Value.ref _]) _ _ _); k_dflt (refine' ba_lenN (by k_asm) (by k_mem) (by omega) ?_))
  k_with "exec For Name Subscript cons nil" => (k_here; refine forA ?_)
  k_with "pyIter bytes" => (k_here; refine KBw.pyIter_bytes ?_)
  k_with "call builtin:len" => (k_here; (with_reducible show wpAny _ _ (PySem.call (Value.builtin "len") [Value.ref _]) _ _ _); k_dflt (refine' list_lenN (by k_asm) (by k_mem) (by with_reducible assumption) (by ((try simp only [List.length_take, List.length_drop]); omega)) ?_))
  k_with "pick" => (focus (apply pickL; (iterate 13 (first | done | with_reducible assumption | apply pickR)); done))
  k_with "ne" => ((try dsimp only); first | assumption | exact Ne.symm (by assumption) | exact NeA.ne (by assumption) | exact Ne.symm (NeA.ne (by assumption)) | exact Nat.ne_of_lt (by walk_at "pick") | exact Nat.ne_of_gt (by walk_at "pick") | exact Nat.ne_of_gt (Nat.lt_add_one_of_lt (by walk_at "pick")) | exact Nat.ne_of_lt (Nat.lt_add_one_of_lt (by walk_at "pick")) | walk_at "pick" | exact Ne.symm (by walk_at "pick") | omega)
  k_with "num" => (first | with_reducible assumption | exact Int.le_add_of_nonneg_right (by decide) | exact nb12 (by with_reducible assumption) (by with_reducible assumption) | (focus ((repeat (first | with_reducible assumption | refine Int.add_nonneg ?_ (by decide))); done)) | exact Int.le_trans (by with_reducible assumption) (by decide) | exact Int.le_trans (Int.add_le_add_right (by with_reducible assumption) _) (by decide) | omega)
  k_with "rem" => (focus ((repeat (first | exact Rem.head | apply Rem.tail)); done))
  k_with "off" => (focus ((repeat (first | assumption | (refine off_cons ?_ ?_; (focus walk_at "ne")))); done))
  k_with "mem" => (focus ((repeat (first | exact List.Mem.head _ | refine List.Mem.tail _ ?_)); done))
  k_with "compareOp In int ref" => (k_here; k_dflt (refine' kda_in (knd := PySem.intKind _ _) (by k_asm) (by k_mem) (by k_asm) (by assumption) (intKind_is _ _ _ _) _ rfl ?_))
  k_with "delItem ref int" => (k_here; k_dflt (refine' kob_del (knd := PySem.intKind _ _) (by k_asm) (by k_asm) (by k_updF) (by k_asm) (intKind_is _ _ _ _) (by assumption) (by (rw [sizeLine_eq]; omega)) ?_); intro h' o' F' N' hd'; (try dsimp only at N'))
  trivial
theorem without_none {kvs : List (Int × Value)} {k : Int} (h : (valueAt kvs k).isSome = false) : without kvs k = kvs := by
  refine without_of_not_mem kvs k fun hm => ?_
  obtain ⟨p, hp, rfl⟩ := List.mem_map.mp hm
  unfold valueAt at h
  rw [Option.isSome_map, Bool.eq_false_iff, ne_eq, List.find?_isSome] at h
  exact h ⟨p, hp, by simp⟩
theorem tc1 {b : Bool} {x y : List (Int × Value)} (h : b = true) : x = if (false || b) = true then x else y := by subst h; rfl
theorem tc2 {b : Bool} {x y : List (Int × Value)} (h : b = false) : y = if (false || b) = true then x else y := by subst h; rfl
theorem tc3 {b : Bool} {kvs : List (Int × Value)} {k : Int} (h : b = false) (hv : (valueAt kvs k).isSome = false) : kvs = if (false || b) = true then kvs else without kvs k := by subst h; exact (without_none hv).symm
theorem td1 {b : Bool} {x y : List (Int × Value)} (h : b = true) : x = if (b || false) = true then x else y := by subst h; rfl
theorem td2 {b : Bool} {x y : List (Int × Value)} (h : b = false) : y = if (b || false) = true then x else y := by subst h; rfl
theorem td3 {b : Bool} {kvs : List (Int × Value)} {k : Int} (h : b = false) (hv : (valueAt kvs k).isSome = false) : kvs = if (b || false) = true then kvs else without kvs k := by subst h; exact (without_none hv).symm
set_option maxHeartbeats 2000000 in
theorem tclose_in {w : World} {A₀ : Around} {dp un : Nat} {gd : Option (List Code)} {base h₀ : Heap} {outer : List Env} {env : Env} {L : Addr} {m mg mb : Str → Option Value} {s : Shared} {p : Program} {loose : List Str} {mean : ExcName → Option Value}
    {rest : List (Addr × Obj)} {R : Result → Shared → Prop}
    {tb td tp : Addr} {op : Obj} {kvs : List (Int × Value)} {tsz made : Int} {j1 j2 j3 u1 u2 : Tok} {x d r : Addr} {id sz rc wc : Int} {ro wo : Bool} {ring : Array UInt8} {k1 k2 k3 k4 k5 k6 k7 t1 t2 t4 t5 : Tok} {sd : Int} {tsd : Tok}
    (B : Below A₀ base outer h₀) (F : Fr h₀ L s.heap m) (X : (hd.heap_1 w.params).In h₀)
    (N : News h₀ L s.heap ((tb, instObj 150 td) :: (td, tdO w tsz made j1 j2 j3 u1 u2 tp) :: (tp, op) :: (x, instObj 107 d) :: (d, pdO w id sz r k1 k2 k3 k4 k5 k6 k7 t1 t2 (.int rc t4) (.int wc t5) ro wo) :: (r, baOf ring) :: rest)) (T : Top p loose mean mg mb h₀)
    (hf : env.frame = some L) (hke : env.scope.kind = .function) (hdep : dp ≤ 400) (hu : un ≤ 1000)
    (hsz : 1 ≤ sz) (hsz1 : sz ≤ 40) (hr0 : 0 ≤ rc) (hrw : rc ≤ wc) (hws : wc - rc ≤ sz) (hwc : wc ≤ 1000000) (hring : (ring.size : Int) = sz)
    (hnx : ∀ z ∈ rest, z.1 ≠ x) (hnd : ∀ z ∈ rest, z.1 ≠ d) (hnr : ∀ z ∈ rest, z.1 ≠ r) (hxd : @Ne Nat x d) (hxr : @Ne Nat x r) (hdr : @Ne Nat d r) (hsd : sd = 0 ∨ sd = 1) (htp : (tp == sysModules) = false) (hkl : kvs.length ≤ 1000) (hntb : ∀ z ∈ rest, z.1 ≠ tb) (hntd : ∀ z ∈ rest, z.1 ≠ td) (hntp : ∀ z ∈ rest, z.1 ≠ tp) (htbx : @Ne Nat tb x) (htbd : @Ne Nat tb d) (htbr : @Ne Nat tb r) (htdx : @Ne Nat td x) (htdd : @Ne Nat td d) (htdr : @Ne Nat td r) (htpx : @Ne Nat tp x) (htpd : @Ne Nat tp d) (htpr : @Ne Nat tp r) (htbd : @Ne Nat tb td) (htbp : @Ne Nat tb tp) (htdp : @Ne Nat td tp) (hkv : op.IsDictOf (PySem.intKind PySem.Challenge.rw_nz0210_01.prog w) kvs)
    (kont : ∀ op' kvs' h tk ro' wo', ro' = (if sd = 0 then false else ro) → wo' = (if sd = 0 then wo else false) → (kvs' = if (ro' || wo') = true then kvs else without kvs id) → op'.IsDictOf (PySem.intKind PySem.Challenge.rw_nz0210_01.prog w) kvs' →
   Fr h₀ L h m → News h₀ L h ((tb, instObj 150 td) :: (td, tdO w tsz made j1 j2 j3 u1 u2 tp) :: (tp, op') :: (x, instObj 107 d) :: (d, pdO w id sz r k1 k2 k3 k4 k5 k6 k7 t1 t2 (.int rc t4) (.int wc t5) ro' wo') :: (r, baOf ring) :: rest) → R (.ok (.ret .none)) { s with heap := h, toks := tk }) :
    codeAny (model PySem.Challenge.rw_nz0210_01.prog w) ⟨none, dp, some (env :: outer), gd, un⟩ (.call (.ref 140) ⟨[.ref tb, .ref x, .int sd tsd], []⟩) R s := by
  dsimp only [pdO, tdO] at N
  (refine' code_def ?k1 ?k2 ?k3 ?k4 ?k5 ?kA ?kF ?kK ?k6 ?k7 ?k8 ?k9 ?kB ?_ ?c2 ?c3 ?c4 ?c5; (case kA => exact rfl); (case kF => first | exact rfl | assumption); (case kK => first | exact rfl | assumption); (case k1 => k_asm); (case k2 => k_asm); (case k3 => k_asm); (case k4 => k_asm); (case k5 => k_asm); (case k6 => k_is); (case k7 => k_is); (case k8 => k_room); (case k9 => first | exact BindsTo.of_eq rfl | exact binds_K (by k_in) rfl (by k_is) rfl rfl rfl | fail "k_enter: no rule for these arguments"); (case c5 => decide); (case kB => exact locs rfl); (case c2 => exact rfl); (case c3 => exact rfl); (case c4 => exact rfl); k_whole; intro g' L' h' FG' F' N' B' X' T'; (try dsimp only); (try k_lift B'); (try k_fold))
  (repeat' (first | (k_unfold; (try dsimp only)) | walk1 | (dsimp only; walk1) | (leave1; (try dsimp only)) | fail "no step"))
  all_goals
    refine' kont _ _ _ _ _ _ ?a ?b ?c ?D ?F (news_sub ?N ?S)
    case F => assumption
    case N => assumption
    case S => (focus ((repeat (first | with_reducible exact fun _ h => h | exact sub_nil | (refine sub_cons ?_ ?_; (focus (focus ((repeat (first | exact List.Mem.head _ | refine List.Mem.tail _ ?_)); done)))) | refine sub_skip ?_)); done))
    case D => assumption
    case a => first | rw [if_pos (by omega)] | rw [if_neg (by omega)]
    case b => first | rw [if_pos (by omega)] | rw [if_neg (by omega)]
    case c => first | exact tc2 (by assumption) | exact td2 (by assumption) | exact tc1 (by assumption) | exact td1 (by assumption) | exact tc3 (by assumption) (by assumption) | exact td3 (by assumption) (by assumption)
end

/-! part PRead -/
section
theorem linesPRead : True := by
  k_with_none
  k_with "my k_room" => ((try simp only [depth_under_make, depth_under_kw, depth_in1, depth_deeper, depth_caller]); (try simp only [recursionLimit]); first | decide | exact Nat.le_trans (by with_reducible assumption) (by decide) | exact Nat.le_trans (Nat.add_le_add_right (by with_reducible assumption) _) (by decide) | omega)
  k_with "execs cons" => (k_here; dsimp only; k_gentoks)
  k_with "execs nil" => (k_here; dsimp only; k_gentoks)
  k_with "my k_all" => (with_reducible assumption)
  k_with "my k_ne" => (refine neN ?_; (try dsimp only); first | with_reducible assumption | exact Ne.symm (by with_reducible assumption) | exact NeA.ne (by with_reducible assumption) | exact Ne.symm (NeA.ne (by with_reducible assumption)) | exact Nat.ne_of_lt (by walk_at "pick") | exact Nat.ne_of_gt (by walk_at "pick") | exact Nat.ne_of_gt (Nat.lt_add_one_of_lt (by walk_at "pick")) | exact Nat.ne_of_lt (Nat.lt_add_one_of_lt (by walk_at "pick")) | walk_at "pick" | exact Ne.symm (by walk_at "pick") | omega)
  k_with "my k_units" => ((try simp only [units_under_make, units_in1, units_deeper, Around.mark_units, units_caller]); first | exact Nat.le_trans (Nat.add_le_add_right (by with_reducible assumption) _) (by decide) | exact Nat.le_trans (by with_reducible assumption) (by decide) | exact lt_cline1 (by with_reducible assumption) (by decide) | exact lt_cline2 (by with_reducible assumption) (by decide) | ((have hcL' := cLine_is); omega))
  k_with "subscriptTail Subscript Name Constant Slice ref ref" => (k_here; k_dflt (first | (refine' list_upto (s := ⟨_, _, _, _, _⟩) (by k_asm) (by k_asm) (by k_mem) (by with_reducible assumption) (by omega) (by omega) ?_) | (refine' list_from (s := ⟨_, _, _, _, _⟩) (by k_asm) (by k_asm) (by k_mem) (by with_reducible assumption) (by omega) (by omega) ?_)); intro D' ws' h' F' N' l1 hI'; (try k_lt l1); (try k_sweep))
  k_with "subscriptTail" => (k_here; (with_reducible show wpAny _ _ (subscriptTail _ _ (Value.ref _) (Value.int (Int.fmod _ _) _)) _ _ _); k_dflt (refine' ba_sub (by k_asm) (by k_mem) (by l_fact) (by l_fact) (by omega) ?_ (by with_unfolding_all rfl)))
  k_with "setItem ref int int" => (k_here; k_dflt (refine' ba_set (by k_asm) (by k_asm) (by k_upd) (by l_fact) (by l_fact) (by omega) (by omega) (by omega) ?_); intro h' F' N'; (try k_sweep))
  k_with "call builtin:len" => (k_here; (with_reducible show wpAny _ _ (PySem.call (Value.builtin "len") [Value.ref _]) _ _ _); k_dflt (refine' ba_lenN (by k_asm) (by k_mem) (by omega) ?_))
  k_with "exec For Name Subscript cons nil" => (k_here; refine forA ?_)
  k_with "pyIter bytes" => (k_here; refine KBw.pyIter_bytes ?_)
  k_with "call builtin:len" => (k_here; (with_reducible show wpAny _ _ (PySem.call (Value.builtin "len") [Value.ref _]) _ _ _); k_dflt (refine' list_lenN (by k_asm) (by k_mem) (by with_reducible assumption) (by ((try simp only [List.length_take, List.length_drop]); omega)) ?_))
  k_with "pick" => (focus (apply pickL; (iterate 13 (first | done | with_reducible assumption | apply pickR)); done))
  k_with "ne" => ((try dsimp only); first | assumption | exact Ne.symm (by assumption) | exact NeA.ne (by assumption) | exact Ne.symm (NeA.ne (by assumption)) | exact Nat.ne_of_lt (by walk_at "pick") | exact Nat.ne_of_gt (by walk_at "pick") | exact Nat.ne_of_gt (Nat.lt_add_one_of_lt (by walk_at "pick")) | exact Nat.ne_of_lt (Nat.lt_add_one_of_lt (by walk_at "pick")) | walk_at "pick" | exact Ne.symm (by walk_at "pick") | omega)
  k_with "num" => (first | with_reducible assumption | exact Int.le_add_of_nonneg_right (by decide) | exact nb12 (by with_reducible assumption) (by with_reducible assumption) | (focus ((repeat (first | with_reducible assumption | refine Int.add_nonneg ?_ (by decide))); done)) | exact Int.le_trans (by with_reducible assumption) (by decide) | exact Int.le_trans (Int.add_le_add_right (by with_reducible assumption) _) (by decide) | omega)
  k_with "rem" => (focus ((repeat (first | exact Rem.head | apply Rem.tail)); done))
  k_with "off" => (focus ((repeat (first | assumption | (refine off_cons ?_ ?_; (focus walk_at "ne")))); done))
  k_with "mem" => (focus ((repeat (first | exact List.Mem.head _ | refine List.Mem.tail _ ?_)); done))
  k_with "getMethod ref" => (k_here; k_dflt (refine' ba_meth (by k_asm) (by k_mem) ?_))
  k_with "call type:bytes" => (k_here; (with_reducible show wpAny _ _ (call (Value.type "bytes") [Value.ref _]) _ _ _); k_dflt (refine' bytes_baN (by k_asm) (by k_mem) (by omega) ?_); intro t k)
  trivial
theorem bytes_baN {prog : Program} {w : World} {A : Around} {E : Value → Shared → Prop} {s : Shared} {h₀ : Heap} {L r : Addr} {news : List (Addr × Obj)} {b : Array UInt8} {Q : Value → Shared → Prop} (N : News h₀ L s.heap news) (hm : (r, baOf b) ∈ news) (hz : b.size ≤ 1000)
    (hQ : ∀ t k, Q (.bytes b t) { s with toks := k }) : wpAny (model prog w) A (PySem.call (.type "bytes") [.ref r]) Q E s := bytes_ba (N _ hm).1 (by rw [sizeLine_eq]; omega) hQ
theorem read_go {w : World} {A : Around} {h₀ : Heap} {L : Addr} {m : Str → Option Value} {s : Shared} {env' : Env} {test : Expr} {body : List Stmt} {pos : Pos} {Q : Flow → Shared → Prop} {E : Value → Shared → Prop} {rest : List (Addr × Obj)}
    {x d r : Addr} {id sz rc wc : Int} {ro wo : Bool} {ring : Array UInt8} {k1 k2 k3 k4 k5 k6 k7 t1 t2 t4 t5 : Tok} {gv : Addr} {qn : List Int} {cnt : Int}
    (F : Fr h₀ L s.heap m) (N : News h₀ L s.heap ((gv, baOf #[]) :: (x, instObj 107 d) :: (d, pdO w id sz r k1 k2 k3 k4 k5 k6 k7 t1 t2 (.int (rc) t4) (.int wc t5) ro wo) :: (r, baOf ring) :: rest)) (hri : RingIs ring sz rc wc qn) (hc0 : 0 ≤ cnt)
    (turn : ∀ (i : Nat) h tk t4' (K : Shared → Prop), i ≤ qn.length → (i : Int) ≤ cnt → RingIs ring sz (rc + i) wc (qn.drop i) → Fr h₀ L h m → News h₀ L h ((gv, baOf (byteArr (qn.take i))) :: (x, instObj 107 d) :: (d, pdO w id sz r k1 k2 k3 k4 k5 k6 k7 t1 t2 (.int (rc + i) t4') (.int wc t5) ro wo) :: (r, baOf ring) :: rest) →
      (∀ h tk t4'', i < qn.length → (i : Int) < cnt → Fr h₀ L h m → News h₀ L h ((gv, baOf (byteArr (qn.take (i + 1)))) :: (x, instObj 107 d) :: (d, pdO w id sz r k1 k2 k3 k4 k5 k6 k7 t1 t2 (.int (rc + (i + 1 : Nat)) t4'') (.int wc t5) ro wo) :: (r, baOf ring) :: rest) → K { s with heap := h, toks := tk }) →
      wpAny (model PySem.Challenge.rw_nz0210_01.prog w) A (isTrue test env' (eval test env')) (fun b s₁ => if b then wpC (model PySem.Challenge.rw_nz0210_01.prog w) A (execs body env') (fun fl s₂ => fl = .next ∧ K s₂) (fun _ _ => False) s₁ else Q .next s₁) (fun _ _ => False) { s with heap := h, toks := tk }) :
    wpC (model PySem.Challenge.rw_nz0210_01.prog w) A (exec (.While test body [] pos) env') Q E s := by
  refine whileC (fun k s' => ∃ (i : Nat) (h : Heap) (tk : Nat) (t4' : Tok), k = qn.length - i ∧ i ≤ qn.length ∧ (i : Int) ≤ cnt ∧ s' = { s with heap := h, toks := tk } ∧ Fr h₀ L h m ∧ News h₀ L h ((gv, baOf (byteArr (qn.take i))) :: (x, instObj 107 d) :: (d, pdO w id sz r k1 k2 k3 k4 k5 k6 k7 t1 t2 (.int (rc + i) t4') (.int wc t5) ro wo) :: (r, baOf ring) :: rest) ∧ RingIs ring sz (rc + i) wc (qn.drop i)) qn.length ?_ ?_
  · exact ⟨0, s.heap, s.toks, t4, by omega, by omega, by omega, rfl, F, by simpa [byteArr] using N, by simpa using hri⟩
  · rintro k s₁ ⟨i, h, tk, t4', rfl, hi, hic, rfl, F₁, N₁, hr⟩
    refine wpAny_mono (turn i h tk t4' (fun s₂ => ∃ m', m' < qn.length - i ∧ ∃ (i : Nat) (h : Heap) (tk : Nat) (t4' : Tok), m' = qn.length - i ∧ i ≤ qn.length ∧ (i : Int) ≤ cnt ∧ s₂ = { s with heap := h, toks := tk } ∧ Fr h₀ L h m ∧ News h₀ L h ((gv, baOf (byteArr (qn.take i))) :: (x, instObj 107 d) :: (d, pdO w id sz r k1 k2 k3 k4 k5 k6 k7 t1 t2 (.int (rc + i) t4') (.int wc t5) ro wo) :: (r, baOf ring) :: rest) ∧ RingIs ring sz (rc + i) wc (qn.drop i)) hi hic hr F₁ N₁ ?_) (fun b s₂ hb => ?_) fun _ _ z => z
    · intro h2 tk2 t4'' hlt hct F₂ N₂
      refine ⟨qn.length - (i + 1), by omega, i + 1, h2, tk2, t4'', rfl, by omega, by push_cast; omega, rfl, F₂, N₂, ?_⟩
      have e : qn.drop i = qn[i] :: qn.drop (i + 1) := List.drop_eq_getElem_cons hlt
      rw [e] at hr
      have := ring_pop hr
      rw [show rc + ((i + 1 : Nat) : Int) = rc + i + 1 by push_cast; omega]
      exact this
    · cases b with
      | false => exact hb
      | true =>
        refine wpC_mono hb (fun fl s₃ h₃ => ?_) fun _ _ z => z
        obtain ⟨rfl, hK⟩ := h₃
        exact hK
set_option maxHeartbeats 4000000 in
theorem pread_in {w : World} {A₀ : Around} {dp un : Nat} {gd : Option (List Code)} {base h₀ : Heap} {outer : List Env} {env : Env} {L : Addr} {m mg mb : Str → Option Value} {s : Shared} {p : Program} {loose : List Str} {mean : ExcName → Option Value}
    {rest : List (Addr × Obj)} {R : Result → Shared → Prop}
    {x d r : Addr} {id sz rc wc : Int} {ro wo : Bool} {ring : Array UInt8} {k1 k2 k3 k4 k5 k6 k7 t1 t2 t4 t5 : Tok} {qn : List Int} {cnt : Int} {tcn : Tok}
    (B : Below A₀ base outer h₀) (F : Fr h₀ L s.heap m) (X : (hd.heap_1 w.params).In h₀)
    (N : News h₀ L s.heap ((x, instObj 107 d) :: (d, pdO w id sz r k1 k2 k3 k4 k5 k6 k7 t1 t2 (.int rc t4) (.int wc t5) ro wo) :: (r, baOf ring) :: rest)) (T : Top p loose mean mg mb h₀)
    (hf : env.frame = some L) (hke : env.scope.kind = .function) (hdep : dp ≤ 400) (hu : un ≤ 1000)
    (hsz : 1 ≤ sz) (hsz1 : sz ≤ 40) (hr0 : 0 ≤ rc) (hrw : rc ≤ wc) (hws : wc - rc ≤ sz) (hwc : wc ≤ 1000000) (hring : (ring.size : Int) = sz)
    (hnx : ∀ z ∈ rest, z.1 ≠ x) (hnd : ∀ z ∈ rest, z.1 ≠ d) (hnr : ∀ z ∈ rest, z.1 ≠ r) (hxd : @Ne Nat x d) (hxr : @Ne Nat x r) (hdr : @Ne Nat d r) (hri : RingIs ring sz rc wc qn) (hqb : ∀ n ∈ qn, 0 ≤ n ∧ n < 256) (hc0 : 0 ≤ cnt) (hc1 : cnt ≤ 64)
    (kont : (0 < cnt ∧ wc - rc = 0 ∧ wo = true → ∀ D h tk ta tb, @LT.lt Nat _ x D → @LT.lt Nat _ d D → @LT.lt Nat _ r D → AllLt D rest → Fr h₀ L h m → News h₀ L h ((D, { cls := .type "tuple", data := .seq #[.bytes #[] ta, .int 1 tb] }) :: (x, instObj 107 d) :: (d, pdO w id sz r k1 k2 k3 k4 k5 k6 k7 t1 t2 (.int (rc) t4) (.int wc t5) ro wo) :: (r, baOf ring) :: rest) → R (.ok (.ret (.ref D))) { s with heap := h, toks := tk }) ∧
      (¬ (0 < cnt ∧ wc - rc = 0 ∧ wo = true) → ∀ (n : Nat) t4' D h tk ta tb, (n : Int) = (if cnt < wc - rc then cnt else wc - rc) → RingIs ring sz (rc + n) wc (qn.drop n) →
        @LT.lt Nat _ x D → @LT.lt Nat _ d D → @LT.lt Nat _ r D → AllLt D rest → Fr h₀ L h m → News h₀ L h ((D, { cls := .type "tuple", data := .seq #[.bytes (byteArr (qn.take n)) ta, .int 0 tb] }) :: (x, instObj 107 d) :: (d, pdO w id sz r k1 k2 k3 k4 k5 k6 k7 t1 t2 (.int (rc + n) t4') (.int wc t5) ro wo) :: (r, baOf ring) :: rest) → R (.ok (.ret (.ref D))) { s with heap := h, toks := tk })) :
    codeC (model PySem.Challenge.rw_nz0210_01.prog w) ⟨none, dp, some (env :: outer), gd, un⟩ (.call (.ref 97) ⟨[.ref x, .int cnt tcn], []⟩) R s := by
  dsimp only [pdO, tdO] at N
  obtain ⟨kontB, kontW⟩ := kont
  (refine' code_defClean ?k1 ?k2 ?k3 ?k4 ?k5 ?kA ?kF ?kK ?k6 ?k7 ?k8 ?k9 ?kB ?_ ?c2 ?c3 ?c4 ?c5; (case kA => exact rfl); (case kF => first | exact rfl | assumption); (case kK => first | exact rfl | assumption); (case k1 => k_asm); (case k2 => k_asm); (case k3 => k_asm); (case k4 => k_asm); (case k5 => k_asm); (case k6 => k_is); (case k7 => k_is); (case k8 => k_room); (case k9 => first | exact BindsTo.of_eq rfl | exact binds_K (by k_in) rfl (by k_is) rfl rfl rfl | fail "c_enter: no rule for these arguments"); (case c5 => decide); (case kB => exact locs rfl); (case c2 => exact rfl); (case c3 => exact rfl); (case c4 => exact rfl); k_whole; intro g' L' h' FG' F' N' B' X' T'; (try dsimp only); (try k_lift B'); (try k_fold))
  refine execsC_lift ?_
  refine' merge_if (P := ¬ (0 < cnt ∧ wc - rc = 0 ∧ wo = true)) ?mF ?mN ?m1 ?m2
  case mF => assumption
  case mN => assumption
  case m1 =>
    (repeat' (first | (k_unfold; (try dsimp only)) | walk1 | (dsimp only; walk1) | (leave1; (try dsimp only)) | fail "no step"))
    · refine join_ret ?_
      dsimp only
      (repeat' (first | (k_unfold; (try dsimp only)) | walk1 | (dsimp only; walk1) | (leave1; (try dsimp only)) | fail "no step"))
      refine' kontB ⟨?a, ?b, ?c⟩ _ _ _ _ _ ?l1 ?l2 ?l3 ?l4 ?F (news_sub ?N ?S)
      case F => assumption
      case N => assumption
      case S => (focus ((repeat (first | with_reducible exact fun _ h => h | exact sub_nil | (refine sub_cons ?_ ?_; (focus (focus ((repeat (first | exact List.Mem.head _ | refine List.Mem.tail _ ?_)); done)))) | refine sub_skip ?_)); done))
      case l1 => first | walk_at "pick" | omega
      case l2 => first | walk_at "pick" | omega
      case l3 => first | walk_at "pick" | omega
      case l4 => (with_reducible first | assumption | exact And.right (by assumption) | exact And.right (And.right (by assumption)) | exact And.right (And.right (And.right (by assumption))) | exact And.right (And.right (And.right (And.right (by assumption)))) | exact And.right (And.right (And.right (And.right (And.right (by assumption))))) | exact And.right (And.right (And.right (And.right (And.right (And.right (by assumption)))))) | exact And.right (And.right (And.right (And.right (And.right (And.right (And.right (by assumption))))))) | exact And.right (And.right (And.right (And.right (And.right (And.right (And.right (And.right (by assumption)))))))))
      case a => assumption
      case b => assumption
      case c => assumption
    all_goals
      refine join_next (by assumption) (by assumption) ?_
      rintro ⟨h1, h2, h3⟩
      first | contradiction | (subst h3; contradiction) | omega
  case m2 =>
    intro hm tkm hP Fm Nm
    dsimp only
    refine execsC (nameC (callNameC ?_))
    (repeat' (first | (k_unfold; (try dsimp only)) | walk1 | (dsimp only; walk1) | (leave1; (try dsimp only)) | fail "no step"))
    refine callWithB0 looks_mT ?_
    refine' ba_new0 ?F ?N ?_
    case F => assumption
    case N => assumption
    intro gv h' F' N' lt
    (repeat' (first | (k_unfold; (try dsimp only)) | walk1 | (dsimp only; walk1) | (leave1; (try dsimp only)) | fail "no step"))
    refine execsC ?_
    refine' read_go (s := ⟨_, _, _, _, _⟩) (gv := gv) ?F ?N hri hc0 ?_
    case F => assumption
    case N => assumption
    intro i h tk t4' K hi hic hr F' N' next
    dsimp only [pdO] at N'
    have hlen : (qn.length : Int) = wc - rc := hri.1
    have hrs : (ring.size : Int) = sz := hri.2.1
    have hf0 : 0 ≤ (rc + i : Int).fmod sz := (fmod_pos (by omega)).1
    have hf1 : (rc + i : Int).fmod sz < ring.size := by rw [hrs]; exact (fmod_pos (by omega)).2
    have hgx : @LT.lt Nat _ x gv := lt _ (.head _)
    have hgd : @LT.lt Nat _ d gv := lt _ (.tail _ (.head _))
    have hgr : @LT.lt Nat _ r gv := lt _ (.tail _ (.tail _ (.head _)))
    have hbs : (byteArr (qn.take i)).size = i := by rw [byteArr_size, List.length_take]; omega
    (repeat' (first | (k_unfold; (try dsimp only)) | walk1 | (dsimp only; walk1) | (leave1; (try dsimp only)) | fail "no step"))
    all_goals first | (refine execsC ?_; refine exprC ?_; refine callAttrC ?_) | refine execsC_lift ?_
    all_goals (repeat' (first | (k_unfold; (try dsimp only)) | walk1 | (dsimp only; walk1) | (leave1; (try dsimp only)) | fail "no step"))
    all_goals first
      | refine callWithB1 looks_mB ?_
      | (refine' kontW ?c i _ _ _ _ _ _ ?n hr ?l1 ?l2 ?l3 ?l4 ?F (news_sub ?N ?S)
         case F => assumption
         case N => assumption
         case S => (focus ((repeat (first | with_reducible exact fun _ h => h | exact sub_nil | (refine sub_cons ?_ ?_; (focus (focus ((repeat (first | exact List.Mem.head _ | refine List.Mem.tail _ ?_)); done)))) | refine sub_skip ?_)); done))
         case l1 => first | walk_at "pick" | omega
         case l2 => first | walk_at "pick" | omega
         case l3 => first | walk_at "pick" | omega
         case l4 => (with_reducible first | assumption | exact And.right (by assumption) | exact And.right (And.right (by assumption)) | exact And.right (And.right (And.right (by assumption))) | exact And.right (And.right (And.right (And.right (by assumption)))) | exact And.right (And.right (And.right (And.right (And.right (by assumption))))) | exact And.right (And.right (And.right (And.right (And.right (And.right (by assumption)))))) | exact And.right (And.right (And.right (And.right (And.right (And.right (And.right (by assumption))))))) | exact And.right (And.right (And.right (And.right (And.right (And.right (And.right (And.right (by assumption)))))))))
         case n => split <;> omega
         case c => exact hP)
    all_goals
      (repeat' (first | (k_unfold; (try dsimp only)) | walk1 | (dsimp only; walk1) | (leave1; (try dsimp only)) | fail "no step"))
      have e0 : qn.drop i = qn[i] :: qn.drop (i + 1) := List.drop_eq_getElem_cons (by omega)
      rw [e0] at hr
      have ehd := ring_head hr
      have hin := hqb qn[i] (List.getElem_mem _)
      rw [← ehd] at hin
      refine' ba_push ?F ?N ?U ?z hin.1 hin.2 ?_
      case F => assumption
      case N => assumption
      case U => exact Upd.head (off_map (fun z hz => Nat.ne_of_lt (lt z hz)) (by rfl))
      case z => omega
      intro h' F' N'
      refine ⟨fun a e => (nomatch e), ?_⟩
      have eb : (byteArr (qn.take i)).push (((ring.getD ((rc + i : Int).fmod sz).toNat 0).toNat : Int)).toNat.toUInt8 = byteArr (qn.take (i + 1)) := by
        rw [ehd]; exact (byteArr_take (by simp)).symm
      rw [eb] at N'
      refine execsC_lift ?_
      (repeat' (first | (k_unfold; (try dsimp only)) | walk1 | (dsimp only; walk1) | (leave1; (try dsimp only)) | fail "no step"))
      refine execsC_nil ⟨rfl, ?_⟩
      refine' next _ _ _ (by omega) (by omega) ?F ?N
      case F => assumption
      case N =>
        rw [show rc + ((i + 1 : Nat) : Int) = rc + i + 1 by push_cast; omega]
        assumption
end

/-! part Deed -/
section
theorem linesDeed : True := by
  k_with_none
  k_with "my k_room" => ((try simp only [depth_under_make, depth_under_kw, depth_in1, depth_deeper, depth_caller]); (try simp only [recursionLimit]); first | decide | exact Nat.le_trans (by with_reducible assumption) (by decide) | exact Nat.le_trans (Nat.add_le_add_right (by with_reducible assumption) _) (by decide) | omega)
  k_with "execs cons" => (k_here; dsimp only; k_gentoks)
  k_with "execs nil" => (k_here; dsimp only; k_gentoks)
  k_with "my k_all" => (with_reducible assumption)
  k_with "my k_ne" => (refine neN ?_; (try dsimp only); first | with_reducible assumption | exact Ne.symm (by with_reducible assumption) | exact NeA.ne (by with_reducible assumption) | exact Ne.symm (NeA.ne (by with_reducible assumption)) | exact Nat.ne_of_lt (by walk_at "pick") | exact Nat.ne_of_gt (by walk_at "pick") | exact Nat.ne_of_gt (Nat.lt_add_one_of_lt (by walk_at "pick")) | exact Nat.ne_of_lt (Nat.lt_add_one_of_lt (by walk_at "pick")) | walk_at "pick" | exact Ne.symm (by walk_at "pick") | omega)
  k_with "my k_units" => ((try simp only [units_under_make, units_in1, units_deeper, Around.mark_units, units_caller]); first | exact Nat.le_trans (Nat.add_le_add_right (by with_reducible assumption) _) (by decide) | exact Nat.le_trans (by with_reducible assumption) (by decide) | exact lt_cline1 (by with_reducible assumption) (by decide) | exact lt_cline2 (by with_reducible assumption) (by decide) | ((have hcL' := cLine_is); omega))
  k_with "subscriptTail Subscript Name Constant Slice ref ref" => (k_here; k_dflt (first | (refine' list_upto (s := ⟨_, _, _, _, _⟩) (by k_asm) (by k_asm) (by k_mem) (by with_reducible assumption) (by omega) (by omega) ?_) | (refine' list_from (s := ⟨_, _, _, _, _⟩) (by k_asm) (by k_asm) (by k_mem) (by with_reducible assumption) (by omega) (by omega) ?_)); intro D' ws' h' F' N' l1 hI'; (try k_lt l1); (try k_sweep))
  k_with "subscriptTail" => (k_here; (with_reducible show wpAny _ _ (subscriptTail _ _ (Value.ref _) (Value.int (Int.fmod _ _) _)) _ _ _); k_dflt (refine' ba_sub (by k_asm) (by k_mem) (by l_fact) (by l_fact) (by omega) ?_ (by with_unfolding_all rfl)))
  k_with "setItem ref int int" => (k_here; k_dflt (refine' ba_set (by k_asm) (by k_asm) (by k_upd) (by l_fact) (by l_fact) (by omega) (by omega) (by omega) ?_); intro h' F' N'; (try k_sweep))
  k_with "call builtin:len" => (k_here; (with_reducible show wpAny _ _ (PySem.call (Value.builtin "len") [Value.ref _]) _ _ _); k_dflt (refine' ba_lenN (by k_asm) (by k_mem) (by omega) ?_))
  k_with "exec For Name Subscript cons nil" => (k_here; refine forA ?_)
  k_with "pyIter bytes" => (k_here; refine KBw.pyIter_bytes ?_)
  k_with "call builtin:len" => (k_here; (with_reducible show wpAny _ _ (PySem.call (Value.builtin "len") [Value.ref _]) _ _ _); k_dflt (refine' list_lenN (by k_asm) (by k_mem) (by with_reducible assumption) (by ((try simp only [List.length_take, List.length_drop]); omega)) ?_))
  k_with "pick" => (focus (apply pickL; (iterate 13 (first | done | with_reducible assumption | apply pickR)); done))
  k_with "ne" => ((try dsimp only); first | assumption | exact Ne.symm (by assumption) | exact NeA.ne (by assumption) | exact Ne.symm (NeA.ne (by assumption)) | exact Nat.ne_of_lt (by walk_at "pick") | exact Nat.ne_of_gt (by walk_at "pick") | exact Nat.ne_of_gt (Nat.lt_add_one_of_lt (by walk_at "pick")) | exact Nat.ne_of_lt (Nat.lt_add_one_of_lt (by walk_at "pick")) | walk_at "pick" | exact Ne.symm (by walk_at "pick") | omega)
  k_with "num" => (first | with_reducible assumption | exact Int.le_add_of_nonneg_right (by decide) | exact nb12 (by with_reducible assumption) (by with_reducible assumption) | (focus ((repeat (first | with_reducible assumption | refine Int.add_nonneg ?_ (by decide))); done)) | exact Int.le_trans (by with_reducible assumption) (by decide) | exact Int.le_trans (Int.add_le_add_right (by with_reducible assumption) _) (by decide) | omega)
  k_with "rem" => (focus ((repeat (first | exact Rem.head | apply Rem.tail)); done))
  k_with "off" => (focus ((repeat (first | assumption | (refine off_cons ?_ ?_; (focus walk_at "ne")))); done))
  k_with "mem" => (focus ((repeat (first | exact List.Mem.head _ | refine List.Mem.tail _ ?_)); done))
  k_with "call ref" => (k_here; (with_reducible show wpAny _ _ (call (Value.ref 161) _) _ _ _); k_dflt ((refine' wpAny_call (take_u (bk := _) (btk := _) (by k_asm) (by k_asm) (by k_asm) (by k_asm) (by k_asm) rfl rfl (by k_room) (by k_units) (by k_updF) (by k_mem) (by walk_at "ne") (by assumption) (by assumption) (by walk_at "num") (by walk_at "num") (by walk_at "num") (by walk_at "num") (by first | omega | exact (pick3 (by assumption) (by assumption)).1 | exact (pick2 (by assumption) (by assumption)).1) (by first | omega | exact Int.le_trans (pick3 (by assumption) (by assumption)).2 (by decide) | exact Int.le_trans (pick2 (by assumption) (by assumption)).2 (by decide)) ?_))); intro r t h t' tk hr0 hr1 F' N'; (try dsimp only at N'); (try dsimp only); revert r t h t' tk hr0 hr1 F' N'; intro _ _ _ _ _ _ _ _ _)
  k_with "call ref" => (k_here; (with_reducible show wpAny _ _ (call (Value.ref 196) _) _ _ _); k_dflt ((refine' wpAny_call (count_u (bk := _) (btk := _) (by k_asm) (by k_asm) (by k_asm) (by k_asm) (by k_asm) rfl rfl (by k_room) (by k_units) (by k_updF) (by k_mem) (by walk_at "ne") (by assumption) (by assumption) (by walk_at "num") (by walk_at "num") (by walk_at "num") (by walk_at "num") ?_))); intro r t n h t' tk hr0 hr1 hr2 F' N'; (try dsimp only at N'); (try dsimp only); revert r t n h t' tk hr0 hr1 hr2 F' N'; intro _ _ _ _ _ _ _ _ _ _ _)
  k_with "call ref" => (k_here; (with_reducible show wpAny _ _ (call (Value.ref 90) _) _ _ _); k_dflt ((refine' wpAny_call (write_in (by k_asm) (by k_asm) (by k_asm) (news_rem3 (by k_asm) (by walk_at "rem") (by walk_at "rem") (by walk_at "rem")) (by k_asm) rfl rfl (by k_room) (by k_units) (by walk_at "num") (by walk_at "num") (by walk_at "num") (by walk_at "num") (by walk_at "num") (by walk_at "num") (by exact RingIs.size' (by assumption)) (by walk_at "off") (by walk_at "off") (by walk_at "off") (by walk_at "ne") (by walk_at "ne") (by walk_at "ne") (by assumption) (by kba_ints) (by ((try simp only [List.length_map, rangeKs_length]); omega)) (And.intro (fun _ _ _ _ _ _ _ _ _ lz _ _ => ?_) (fun _ _ _ _ _ _ _ _ _ _ _ _ _ _ _ _ _ _ lz _ _ => ?_))))) <;> (try contradiction) <;> (try simp only [AllLt, and_true] at lz) <;> (try dsimp only))
  k_with "call ref" => (k_here; (with_reducible show wpAny _ _ (call (Value.ref 168) _) _ _ _); k_dflt ((refine' wpAny_call (lawwrite_in (by k_asm) (by k_asm) (by k_asm) (news_rem2D (prog := PySem.Challenge.rw_nz0210_01.prog) (by k_asm) (by walk_at "rem") (by assumption) (by walk_at "rem")) (by k_asm) rfl rfl (by k_room) (by k_units) (by assumption) (by assumption) (by assumption) (by assumption) (by walk_at "num") (by walk_at "num") (by walk_at "num") (by walk_at "off") (by walk_at "off") (by walk_at "ne") (by kba_ints) (by ((try simp only [List.length_map, rangeKs_length]); omega)) (And.intro (fun _ _ _ _ _ _ _ _ lz _ _ => ?_) (fun _ _ _ _ _ _ _ _ _ _ _ _ _ _ _ _ _ lz _ _ => ?_))))) <;> (try contradiction) <;> (try simp only [AllLt, and_true] at lz) <;> (try dsimp only))
  k_with "call ref" => (k_here; (with_reducible show wpAny _ _ (call (Value.ref 175) _) _ _ _); k_dflt ((refine' wpAny_call (lawread_in (by k_asm) (by k_asm) (by k_asm) (news_rem2D (prog := PySem.Challenge.rw_nz0210_01.prog) (by k_asm) (by walk_at "rem") (by assumption) (by walk_at "rem")) (by k_asm) rfl rfl (by k_room) (by k_units) (by assumption) (by assumption) (by assumption) (by assumption) (by walk_at "num") (by walk_at "num") (by walk_at "num") (by walk_at "off") (by walk_at "off") (by walk_at "ne") (by walk_at "num") (by walk_at "num") (And.intro (fun _ _ _ _ _ _ _ _ lz _ _ => ?_) (fun _ _ _ _ _ _ _ _ _ _ _ lzq ldq _ _ lz _ _ => ?_))))) <;> (try simp only [AllLt, and_true] at lz) <;> (try dsimp only))
  k_with "call ref" => (k_here; (with_reducible show wpAny _ _ (call (Value.ref 104) _) _ _ _); k_dflt ((refine' wpAny_call (pclose_in (by k_asm) (by k_asm) (by k_asm) (news_rem3 (by k_asm) (by walk_at "rem") (by walk_at "rem") (by walk_at "rem")) (by k_asm) rfl rfl (by k_room) (by k_units) (by walk_at "num") (by walk_at "num") (by walk_at "num") (by walk_at "num") (by walk_at "num") (by walk_at "num") (by exact RingIs.size' (by assumption)) (by walk_at "off") (by walk_at "off") (by walk_at "off") (by walk_at "ne") (by walk_at "ne") (by walk_at "ne") (by first | exact pick01 (by assumption) (by assumption) | exact .inl rfl | exact .inr rfl | assumption) (fun _ _ _ _ _ _ _ _ _ _ => ?_)))) <;> (try dsimp only))
  k_with "call ref" => (k_here; (with_reducible show wpAny _ _ (call (Value.ref 182) _) _ _ _); k_dflt ((refine' wpAny_call (lclose_in (by k_asm) (by k_asm) (by k_asm) (news_rem2D (prog := PySem.Challenge.rw_nz0210_01.prog) (by k_asm) (by walk_at "rem") (by assumption) (by walk_at "rem")) (by k_asm) rfl rfl (by k_room) (by k_units) (by assumption) (by assumption) (by assumption) (by assumption) (by walk_at "num") (by walk_at "num") (by walk_at "num") (by walk_at "off") (by walk_at "off") (by walk_at "ne") (by first | exact pick01 (by assumption) (by assumption) | exact .inl rfl | exact .inr rfl | assumption) (fun _ _ _ _ _ _ _ _ _ _ _ _ => ?_)))) <;> (try dsimp only))
  k_with "call ref" => (k_here; (with_reducible show wpAny _ _ (call (Value.ref 140) _) _ _ _); k_dflt ((refine' wpAny_call (tclose_in (by k_asm) (by k_asm) (by k_asm) (news_rem6 (by k_asm) (by walk_at "rem") (by walk_at "rem") (by walk_at "rem") (by walk_at "rem") (by walk_at "rem") (by walk_at "rem")) (by k_asm) rfl rfl (by k_room) (by k_units) (by walk_at "num") (by walk_at "num") (by walk_at "num") (by walk_at "num") (by walk_at "num") (by walk_at "num") (by exact RingIs.size' (by assumption)) (by walk_at "off") (by walk_at "off") (by walk_at "off") (by walk_at "ne") (by walk_at "ne") (by walk_at "ne") (by first | exact pick01 (by assumption) (by assumption) | exact .inl rfl | exact .inr rfl | assumption) (by assumption) ?_ (by walk_at "off") (by walk_at "off") (by walk_at "off") (by walk_at "ne") (by walk_at "ne") (by walk_at "ne") (by walk_at "ne") (by walk_at "ne") (by walk_at "ne") (by walk_at "ne") (by walk_at "ne") (by walk_at "ne") (by walk_at "ne") (by walk_at "ne") (by walk_at "ne") (by assumption) (fun _ _ _ _ _ _ _ _ _ _ _ _ => ?_))); (next => first | omega | exact Nat.le_of_ble_eq_true rfl)) <;> (try dsimp only))
  trivial
theorem R_true {R : Result → Shared → Prop} {b : Bool} {s : Shared} (e : b = true) (h : R (.ok (.ret (.bool true))) s) : R (.ok (.ret (.bool b))) s := by subst e; exact h
theorem q_empty {qn : List Int} {rc wc : Int} (h : (qn.length : Int) = wc - rc) (h0 : wc - rc = 0) : qn = [] := List.eq_nil_of_length_eq_zero (by omega)
theorem q_empty' {qn : List Int} {rc wc : Int} (h : (qn.length : Int) = wc - rc) (h0 : qn = []) : wc - rc = 0 := by subst h0; simpa using h.symm
theorem take_n {qn : List Int} {n : Nat} {cnt len : Int} (h : (n : Int) = if cnt < len then cnt else len) (hl : (qn.length : Int) = len) (h0 : 0 ≤ cnt) : qn.take n = qn.take cnt.toNat := by
  by_cases c : cnt < len
  · rw [if_pos c] at h
    have e : n = cnt.toNat := by omega
    rw [e]
  · rw [if_neg c] at h
    rw [List.take_of_length_le (by omega), List.take_of_length_le (by omega)]
theorem drop_n {qn : List Int} {n : Nat} {cnt len : Int} (h : (n : Int) = if cnt < len then cnt else len) (hl : (qn.length : Int) = len) (h0 : 0 ≤ cnt) : qn.drop n = qn.drop cnt.toNat := by
  by_cases c : cnt < len
  · rw [if_pos c] at h
    have e : n = cnt.toNat := by omega
    rw [e]
  · rw [if_neg c] at h
    rw [List.drop_eq_nil_of_le (by omega), List.drop_eq_nil_of_le (by omega)]
theorem n_bound {n : Nat} {cnt len : Int} (h : (n : Int) = if cnt < len then cnt else len) (h0 : 0 ≤ cnt) (h1 : 0 ≤ len) : (n : Int) ≤ len := by
  by_cases c : cnt < len
  · rw [if_pos c] at h; omega
  · rw [if_neg c] at h; omega
theorem ite_or {α : Type} {b : Prop} [Decidable b] {x y : α} : (if b then x else y) = x ∨ (if b then x else y) = y := by
  split
  · exact .inl rfl
  · exact .inr rfl
theorem ring_cast {ring : Array UInt8} {sz rc wc : Int} {qn l : List Int} {n n' : Nat} (h : RingIs ring sz rc wc (qn ++ l.take n)) (e : n = n') : RingIs ring sz rc wc (qn ++ l.take n') := e ▸ h
theorem qb_app {qn l : List Int} {k : Nat} {f : Int → Int} (h : ∀ n ∈ qn, 0 ≤ n ∧ n < 256) : ∀ n ∈ qn ++ (l.map fun x => Int.fmod (f x) 251).take k, 0 ≤ n ∧ n < 256 := by
  intro n hn
  rcases List.mem_append.mp hn with hn | hn
  · exact h n hn
  · obtain ⟨y, _, rfl⟩ := List.mem_map.mp (List.mem_of_mem_take hn)
    have := fmod_pos (a := f y) (b := 251) (by decide)
    omega
theorem cl_no {qn : List Int} {rc wc cnt : Int} {wo : Bool} (h : (qn.length : Int) = wc - rc) (b : ¬ (0 < cnt ∧ wc - rc = 0 ∧ wo = true)) (a : 0 < cnt ∧ qn = [] ∧ wo = true) : False := b ⟨a.1, q_empty' h a.2.1, a.2.2⟩
theorem cl_no2 {qn : List Int} {rc wc cnt : Int} {wo : Bool} (h : (qn.length : Int) = wc - rc) (a : 0 < cnt ∧ wc - rc = 0 ∧ wo = true) (b : ¬ (0 < cnt ∧ qn = [] ∧ wo = true)) : False := b ⟨a.1, q_empty h a.2.1, a.2.2⟩
theorem deed_n {n n' : Nat} {ni ni' a b len : Int} (h0 : ni = n) (h0' : ni' = n') (h1 : ni = if a < len then a else len) (h1' : ni' = if b < len then b else len) (hab : a = b) : n = n' := by
  subst hab
  have e : ni = ni' := by rw [h1, h1']
  omega
theorem deed_eq {n n' l : Nat} {ni ni' st st' a b len : Int} (h0 : ni = n) (h0' : ni' = n') (h1 : ni = if a < len then a else len) (h1' : ni' = if b < len then b else len) (hab : a = b)
    (hs : st = if n = l then 0 else 1) (hs' : st' = if n' = l then 0 else 1) : (ni == ni' && st == st') = true := by
  subst hab
  have e : ni = ni' := by rw [h1, h1']
  have en : n = n' := by omega
  subst en
  rw [hs, hs', e]
  simp
set_option maxHeartbeats 4000000 in
theorem deed_in {w : World} {A₀ : Around} {dp un : Nat} {gd : Option (List Code)} {base h₀ : Heap} {outer : List Env} {env : Env} {L : Addr} {m mg mb : Str → Option Value} {s : Shared} {p : Program} {loose : List Str} {mean : ExcName → Option Value}
    {rest : List (Addr × Obj)} {R : Result → Shared → Prop}
    {bx cl : Addr} {bv : List Value} {bn : List Int} {bk bs : Int} {btk bts : Tok} {nb nc : Nat} {tb td tp : Addr} {op : Obj} {kvs : List (Int × Value)} {tsz made : Int} {j1 j2 j3 u1 u2 : Tok} {od q : Addr} {oo : Obj} {tz : Tok} {qv : List Value} {qn : List Int} {nq : Nat} {x d r : Addr} {id sz rc wc : Int} {ro wo : Bool} {ring : Array UInt8} {k1 k2 k3 k4 k5 k6 k7 t1 t2 t4 t5 : Tok} {cn : Addr} {c0 : Int} {tc0 : Tok} {sh : Bool} {ncn : Nat}
    (B : Below A₀ base outer h₀) (F : Fr h₀ L s.heap m) (X : (hd.heap_1 w.params).In h₀)
    (N : News h₀ L s.heap ((bx, W.listOf #[.ref cl, .int (bk) btk, .int bs bts] nb) :: (cl, W.listOf bv.toArray nc) :: (tb, instObj 150 td) :: (td, tdO w tsz made j1 j2 j3 u1 u2 tp) :: (tp, op) :: (od, oo) :: (q, W.listOf qv.toArray nq) :: (x, instObj 107 d) :: (d, pdO w id sz r k1 k2 k3 k4 k5 k6 k7 t1 t2 (.int rc t4) (.int wc t5) ro wo) :: (r, baOf ring) :: (cn, W.listOf #[.int (c0) tc0, .bool sh] ncn) :: rest)) (T : Top p loose mean mg mb h₀)
    (hf : env.frame = some L) (hke : env.scope.kind = .function) (hdep : dp ≤ 380) (hu : un ≤ 900)
    (hbx_cl : NeA bx cl) (hbx_tb : NeA bx tb) (hbx_td : NeA bx td) (hbx_tp : NeA bx tp) (hbx_od : NeA bx od) (hbx_q : NeA bx q) (hbx_x : NeA bx x) (hbx_d : NeA bx d) (hbx_r : NeA bx r) (hbx_cn : NeA bx cn) (hcl_tb : NeA cl tb) (hcl_td : NeA cl td) (hcl_tp : NeA cl tp) (hcl_od : NeA cl od) (hcl_q : NeA cl q) (hcl_x : NeA cl x) (hcl_d : NeA cl d) (hcl_r : NeA cl r) (hcl_cn : NeA cl cn) (htb_td : NeA tb td) (htb_tp : NeA tb tp) (htb_od : NeA tb od) (htb_q : NeA tb q) (htb_x : NeA tb x) (htb_d : NeA tb d) (htb_r : NeA tb r) (htb_cn : NeA tb cn) (htd_tp : NeA td tp) (htd_od : NeA td od) (htd_q : NeA td q) (htd_x : NeA td x) (htd_d : NeA td d) (htd_r : NeA td r) (htd_cn : NeA td cn) (htp_od : NeA tp od) (htp_q : NeA tp q) (htp_x : NeA tp x) (htp_d : NeA tp d) (htp_r : NeA tp r) (htp_cn : NeA tp cn) (hod_q : NeA od q) (hod_x : NeA od x) (hod_d : NeA od d) (hod_r : NeA od r) (hod_cn : NeA od cn) (hq_x : NeA q x) (hq_d : NeA q d) (hq_r : NeA q r) (hq_cn : NeA q cn) (hx_d : NeA x d) (hx_r : NeA x r) (hx_cn : NeA x cn) (hd_r : NeA d r) (hd_cn : NeA d cn) (hr_cn : NeA r cn) (hr_bx : ∀ z ∈ rest, z.1 ≠ bx) (hr_cl : ∀ z ∈ rest, z.1 ≠ cl) (hr_tb : ∀ z ∈ rest, z.1 ≠ tb) (hr_td : ∀ z ∈ rest, z.1 ≠ td) (hr_tp : ∀ z ∈ rest, z.1 ≠ tp) (hr_od : ∀ z ∈ rest, z.1 ≠ od) (hr_q : ∀ z ∈ rest, z.1 ≠ q) (hr_x : ∀ z ∈ rest, z.1 ≠ x) (hr_d : ∀ z ∈ rest, z.1 ≠ d) (hr_r : ∀ z ∈ rest, z.1 ≠ r) (hr_cn : ∀ z ∈ rest, z.1 ≠ cn)
    (hbI : IntsAre bv bn) (hbn : bn.length ≤ 40) (hbk0 : 0 ≤ bk) (hbk1 : bk ≤ 80000) (hbs0 : 0 ≤ bs) (hbs1 : bs < 1009)
    (htp : (tp == sysModules) = false) (hkl : kvs.length ≤ 1000) (hkv : op.IsDictOf (PySem.intKind PySem.Challenge.rw_nz0210_01.prog w) kvs)
    (hD : oo.IsDictOf (PySem.strKind PySem.Challenge.rw_nz0210_01.prog w) [(Str.ofString "size", .int sz tz), (Str.ofString "queue", .ref q), (Str.ofString "reads", .bool ro), (Str.ofString "writes", .bool wo)]) (hsys : (od == sysModules) = false) (hI : IntsAre qv qn) (hqb : ∀ n ∈ qn, 0 ≤ n ∧ n < 256) (hsz : 1 ≤ sz) (hsz1 : sz ≤ 40)
    (hr0 : 0 ≤ rc) (hrw : rc ≤ wc) (hws : wc - rc ≤ sz) (hwc : wc ≤ 100000) (hri : RingIs ring sz rc wc qn) (hc0 : 0 ≤ c0) (hc1 : c0 ≤ 100000)
    (kont : ∀ (bk' : Int) btk' kvs' op' oo' q' qv' qn' nq' (rc' wc' : Int) ro' wo' ring' t4' t5' (c0' : Int) tc0' h tk, bk ≤ bk' → bk' ≤ bk + 4 → (kvs' = kvs ∨ kvs' = without kvs id) → op'.IsDictOf (PySem.intKind PySem.Challenge.rw_nz0210_01.prog w) kvs' → oo'.IsDictOf (PySem.strKind PySem.Challenge.rw_nz0210_01.prog w) [(Str.ofString "size", .int sz tz), (Str.ofString "queue", .ref q'), (Str.ofString "reads", .bool ro'), (Str.ofString "writes", .bool wo')] →
      IntsAre qv' qn' → (∀ n ∈ qn', 0 ≤ n ∧ n < 256) → 0 ≤ rc' → rc' ≤ wc' → wc' - rc' ≤ sz → wc' ≤ wc + 64 → RingIs ring' sz rc' wc' qn' → 0 ≤ c0' → c0' ≤ c0 + 64 → NeA bx q' → NeA cl q' → NeA tb q' → NeA td q' → NeA tp q' → NeA od q' → NeA x q' → NeA d q' → NeA r q' → NeA cn q' → (∀ z ∈ rest, z.1 ≠ q') → Fr h₀ L h m →
      News h₀ L h ((bx, W.listOf #[.ref cl, .int (bk') btk', .int bs bts] nb) :: (cl, W.listOf bv.toArray nc) :: (tb, instObj 150 td) :: (td, tdO w tsz made j1 j2 j3 u1 u2 tp) :: (tp, op') :: (od, oo') :: (q', W.listOf (List.toArray qv') nq') :: (x, instObj 107 d) :: (d, pdO w id sz r k1 k2 k3 k4 k5 k6 k7 t1 t2 (.int rc' t4') (.int wc' t5') ro' wo') :: (r, baOf ring') :: (cn, W.listOf #[.int (c0') tc0', .bool sh] ncn) :: rest) → R (.ok (.ret (.bool true))) { s with heap := h, toks := tk }) :
    codeC (model PySem.Challenge.rw_nz0210_01.prog w) ⟨none, dp, some (env :: outer), gd, un⟩ (.call (.ref 201) ⟨[.ref bx, .ref tb, .ref od, .ref x, .ref cn], []⟩) R s := by
  have hql : (qn.length : Int) = wc - rc := hri.1
  (refine' code_defCleanC ?k1 ?k2 ?k3 ?k4 ?k5 ?kA ?kF ?kK ?k6 ?k7 ?k8 ?k9 ?kB ?kD ?_ ?c2 ?c3 ?c4; (case kA => exact rfl); (case kF => first | exact rfl | assumption); (case kK => first | exact rfl | assumption); (case k1 => k_asm); (case k2 => k_asm); (case k3 => k_asm); (case k4 => k_asm); (case k5 => k_asm); (case k6 => k_is); (case k7 => k_is); (case k8 => k_room); (case k9 => first | exact BindsTo.of_eq rfl | exact binds_K (by k_in) rfl (by k_is) rfl rfl rfl | fail "c_enterC: no rule for these arguments"); (case kB => exact rfl); (case kD => decide +kernel); (case c2 => exact rfl); (case c3 => exact rfl); (case c4 => exact rfl); k_whole; intro g' L' h' tk' cells' FG' F' N' Y' B' X' T' l1; (try k_lt l1); k_cells Y'; (try simp only [List.cons_append, List.nil_append] at N'); (try dsimp only); (try k_lift B'); (try k_fold))
  refine execsC_lift ?_
  (repeat' (first | (k_unfold; (try dsimp only)) | walk1 | (dsimp only; walk1) | (leave1; (try dsimp only)) | fail "no step"))
  refine execsC ?_
  refine ifC ?_
  refine wpC_lift ?_
  (repeat' (first | (k_unfold; (try dsimp only)) | walk1 | (dsimp only; walk1) | (leave1; (try dsimp only)) | fail "no step"))
  · refine execsC_lift ?_
    (repeat' (first | (k_unfold; (try dsimp only)) | walk1 | (dsimp only; walk1) | (leave1; (try dsimp only)) | fail "no step"))
    refine execsC_lift ?_
    (repeat' (first | (k_unfold; (try dsimp only)) | walk1 | (dsimp only; walk1) | (leave1; (try dsimp only)) | fail "no step"))
    refine wpC_lift ?_
    cases ro
    · (repeat' (first | (k_unfold; (try dsimp only)) | walk1 | (dsimp only; walk1) | (leave1; (try dsimp only)) | fail "no step"))
      refine' kont _ _ kvs _ _ q _ qn _ rc wc _ _ _ _ _ _ _ _ _ ?b1 ?b2 (.inl rfl) hkv ?D hI hqb hr0 hrw hws ?w hri ?c1 ?c2 (by first | assumption | exact ⟨Ne.symm (NeA.ne (by assumption))⟩) (by first | assumption | exact ⟨Ne.symm (NeA.ne (by assumption))⟩) (by first | assumption | exact ⟨Ne.symm (NeA.ne (by assumption))⟩) (by first | assumption | exact ⟨Ne.symm (NeA.ne (by assumption))⟩) (by first | assumption | exact ⟨Ne.symm (NeA.ne (by assumption))⟩) (by first | assumption | exact ⟨Ne.symm (NeA.ne (by assumption))⟩) (by first | assumption | exact ⟨Ne.symm (NeA.ne (by assumption))⟩) (by first | assumption | exact ⟨Ne.symm (NeA.ne (by assumption))⟩) (by first | assumption | exact ⟨Ne.symm (NeA.ne (by assumption))⟩) (by first | assumption | exact ⟨Ne.symm (NeA.ne (by assumption))⟩) ?zq ?F (news_sub ?N ?S)
      case F => assumption
      case N => assumption
      case S => (focus ((repeat (first | with_reducible exact fun _ h => h | exact sub_nil | (refine sub_cons ?_ ?_; (focus (focus ((repeat (first | exact List.Mem.head _ | refine List.Mem.tail _ ?_)); done)))) | refine sub_skip ?_)); done))
      case D => assumption
      all_goals first | with_reducible assumption | exact Int.le_refl _ | exact Int.le_add_of_nonneg_right (by decide) | exact nb3 | exact nb4 | exact nb5 | exact nb6 (by with_reducible assumption) | exact nb7 (by with_reducible assumption) | exact nb8 (by with_reducible assumption) | exact nb9 (by with_reducible assumption) | exact nb10 (by with_reducible assumption) | omega | (focus ((repeat (first | assumption | (refine off_cons ?_ ?_; (focus walk_at "ne")))); done))
    · (repeat' (first | (k_unfold; (try dsimp only)) | walk1 | (dsimp only; walk1) | (leave1; (try dsimp only)) | fail "no step"))
      refine' Eq.subst (motive := fun b => R (Except.ok (Flow.ret (Value.bool b))) _) (Eq.symm (deed_eq ?h0 ?h0' ?h1 ?h1' ?hab ?hs ?hs')) ?_
      case h0 => assumption
      case h0' => assumption
      case h1 => assumption
      case h1' => assumption
      case hab => omega
      case hs => assumption
      case hs' => assumption
      refine' kont _ _ kvs _ _ q _ _ _ rc _ _ _ _ _ _ _ _ _ _ ?B1 ?B2 (.inl rfl) hkv ?D2 ?I2 ?qb2 hr0 ?rw2 ?ws2 ?w2 ?ri2 ?c12 ?c22 (by first | assumption | exact ⟨Ne.symm (NeA.ne (by assumption))⟩) (by first | assumption | exact ⟨Ne.symm (NeA.ne (by assumption))⟩) (by first | assumption | exact ⟨Ne.symm (NeA.ne (by assumption))⟩) (by first | assumption | exact ⟨Ne.symm (NeA.ne (by assumption))⟩) (by first | assumption | exact ⟨Ne.symm (NeA.ne (by assumption))⟩) (by first | assumption | exact ⟨Ne.symm (NeA.ne (by assumption))⟩) (by first | assumption | exact ⟨Ne.symm (NeA.ne (by assumption))⟩) (by first | assumption | exact ⟨Ne.symm (NeA.ne (by assumption))⟩) (by first | assumption | exact ⟨Ne.symm (NeA.ne (by assumption))⟩) (by first | assumption | exact ⟨Ne.symm (NeA.ne (by assumption))⟩) ?zq2 ?F2 (news_sub ?N2 ?S2)
      case F2 => assumption
      case N2 => assumption
      case S2 => (focus ((repeat (first | with_reducible exact fun _ h => h | exact sub_nil | (refine sub_cons ?_ ?_; (focus (focus ((repeat (first | exact List.Mem.head _ | refine List.Mem.tail _ ?_)); done)))) | refine sub_skip ?_)); done))
      case D2 => assumption
      case I2 => assumption
      case ri2 =>
        refine' ring_cast ?yf (deed_n ?ya ?yb ?yc ?yd ?ye)
        case yf => assumption
        case ya => assumption
        case yb => assumption
        case yc => assumption
        case yd => assumption
        case ye => omega
      case qb2 => exact qb_app hqb
      case rw2 => exact wr_c hrw
      case ws2 => (rename _ = (if sz - (wc - rc) < _ then _ else _) => hnq; exact wr_a (wr_le (by assumption) hnq))
      case w2 => (rename _ = (if sz - (wc - rc) < _ then _ else _) => hnq; exact wr_b (wr_le (by assumption) hnq) hrw hsz1)
      all_goals first | with_reducible assumption | exact Int.le_refl _ | exact Int.le_add_of_nonneg_right (by decide) | exact nb3 | exact nb4 | exact nb5 | exact nb6 (by with_reducible assumption) | exact nb7 (by with_reducible assumption) | exact nb8 (by with_reducible assumption) | exact nb9 (by with_reducible assumption) | exact nb10 (by with_reducible assumption) | omega | (focus ((repeat (first | assumption | (refine off_cons ?_ ?_; (focus walk_at "ne")))); done))
  · refine execsC_nil ?_
    refine execsC ?_
    refine ifC ?_
    refine wpC_lift ?_
    (repeat' (first | (k_unfold; (try dsimp only)) | walk1 | (dsimp only; walk1) | (leave1; (try dsimp only)) | fail "no step"))
    · refine execsC_lift ?_
      (repeat' (first | (k_unfold; (try dsimp only)) | walk1 | (dsimp only; walk1) | (leave1; (try dsimp only)) | fail "no step"))
      refine execsC ?_
      refine retC (compareC (callAttrC ?_))
      (repeat' (first | (k_unfold; (try dsimp only)) | walk1 | (dsimp only; walk1) | (leave1; (try dsimp only)) | fail "no step"))
      refine' callWithK1 ?uX ?uk ?_
      case uX => k_asm
      case uk => k_is
      (repeat' (first | (k_unfold; (try dsimp only)) | walk1 | (dsimp only; walk1) | (leave1; (try dsimp only)) | fail "no step"))
      refine' wpC_call (pread_in (qn := qn) ?uB ?uF ?uX2 (news_rem3 ?uN ?uR1 ?uR2 ?uR3) ?uT rfl rfl ?uhd ?uhu hsz hsz1 hr0 hrw hws ?uwc (RingIs.size' hri) ?un1 ?un2 ?un3 ?un4 ?un5 ?un6 hri hqb ?uc0 ?uc1 (And.intro (fun cc D h tk tka tkb l1 l2 l3 lz F' N' => ?_) (fun cc n t4' D h tk tka tkb hn hri' l1 l2 l3 lz F' N' => ?_)))
      case uB => k_asm
      case uF => k_asm
      case uX2 => k_asm
      case uN => k_asm
      case uT => k_asm
      case uR1 => (focus ((repeat (first | exact Rem.head | apply Rem.tail)); done))
      case uR2 => (focus ((repeat (first | exact Rem.head | apply Rem.tail)); done))
      case uR3 => (focus ((repeat (first | exact Rem.head | apply Rem.tail)); done))
      case uhd => k_room
      case uhu => k_units
      case uwc => first | with_reducible assumption | omega
      case un1 => (focus ((repeat (first | assumption | (refine off_cons ?_ ?_; (focus walk_at "ne")))); done))
      case un2 => (focus ((repeat (first | assumption | (refine off_cons ?_ ?_; (focus walk_at "ne")))); done))
      case un3 => (focus ((repeat (first | assumption | (refine off_cons ?_ ?_; (focus walk_at "ne")))); done))
      case un4 => walk_at "ne"
      case un5 => walk_at "ne"
      case un6 => walk_at "ne"
      case uc0 => first | with_reducible assumption | omega
      case uc1 => first | with_reducible assumption | omega
      all_goals
        dsimp only
        (try simp only [AllLt, and_true] at lz)
        (iterate 10 (try (first | (k_unfold; (try dsimp only)) | walk1 | (dsimp only; walk1) | (leave1; (try dsimp only)) | fail "no step")))
      all_goals (k_here; refine' tup_eqBI ?tN ?ta ?tb ?tu ?_; (case tN => k_asm); (case ta => (focus ((repeat (first | exact List.Mem.head _ | refine List.Mem.tail _ ?_)); done))); (case tb => (focus ((repeat (first | exact List.Mem.head _ | refine List.Mem.tail _ ?_)); done))); (case tu => k_units))
      all_goals (repeat' (first | (k_unfold; (try dsimp only)) | walk1 | (dsimp only; walk1) | (leave1; (try dsimp only)) | fail "no step"))
      · refine R_true (by simp) ?_
        refine' kont _ _ kvs _ _ q _ (qn) _ (rc) wc _ _ _ _ _ _ _ _ _ ?bb13 ?bb23 (.inl rfl) hkv ?DD3 ?II3 ?qb3 ?r03 ?rw3 ?ws3 ?ww3 ?ri3 ?cc13 ?cc23 (by first | assumption | exact ⟨Ne.symm (NeA.ne (by assumption))⟩) (by first | assumption | exact ⟨Ne.symm (NeA.ne (by assumption))⟩) (by first | assumption | exact ⟨Ne.symm (NeA.ne (by assumption))⟩) (by first | assumption | exact ⟨Ne.symm (NeA.ne (by assumption))⟩) (by first | assumption | exact ⟨Ne.symm (NeA.ne (by assumption))⟩) (by first | assumption | exact ⟨Ne.symm (NeA.ne (by assumption))⟩) (by first | assumption | exact ⟨Ne.symm (NeA.ne (by assumption))⟩) (by first | assumption | exact ⟨Ne.symm (NeA.ne (by assumption))⟩) (by first | assumption | exact ⟨Ne.symm (NeA.ne (by assumption))⟩) (by first | assumption | exact ⟨Ne.symm (NeA.ne (by assumption))⟩) ?zq3 ?FF3 (news_sub ?NN3 ?SS3)
        case FF3 => assumption
        case NN3 => assumption
        case SS3 => (focus ((repeat (first | with_reducible exact fun _ h => h | exact sub_nil | (refine sub_cons ?_ ?_; (focus (focus ((repeat (first | exact List.Mem.head _ | refine List.Mem.tail _ ?_)); done)))) | refine sub_skip ?_)); done))
        case DD3 => assumption
        case II3 => assumption
        case qb3 => exact hqb
        case ri3 => exact hri
        case zq3 => (focus ((repeat (first | assumption | (refine off_cons ?_ ?_; (focus walk_at "ne")))); done))
        all_goals first | with_reducible assumption | exact Int.le_refl _ | exact Int.le_add_of_nonneg_right (by decide) | exact nb3 | exact nb4 | exact nb5 | exact nb6 (by with_reducible assumption) | exact nb7 (by with_reducible assumption) | exact nb8 (by with_reducible assumption) | exact nb9 (by with_reducible assumption) | exact nb10 (by with_reducible assumption) | omega
      · exact (cl_no2 hql cc (by assumption)).elim
      · exact (cl_no hql cc (by assumption)).elim
      · refine R_true (by rw [take_n hn hql (by omega)]; simp) ?_
        have hb := n_bound hn (by omega) (by omega)
        rw [drop_n hn hql (by omega)] at hri'
        refine' kont _ _ kvs _ _ _ _ (qn.drop _) _ (rc + n) wc _ _ _ _ _ _ _ _ _ ?bb14 ?bb24 (.inl rfl) hkv ?DD4 ?II4 ?qb4 ?r04 ?rw4 ?ws4 ?ww4 ?ri4 ?cc14 ?cc24 ⟨Nat.ne_of_lt (lzq (bx, _) (by (focus ((repeat (first | exact List.Mem.head _ | refine List.Mem.tail _ ?_)); done))))⟩ ⟨Nat.ne_of_lt (lzq (cl, _) (by (focus ((repeat (first | exact List.Mem.head _ | refine List.Mem.tail _ ?_)); done))))⟩ ⟨Nat.ne_of_lt (lzq (tb, _) (by (focus ((repeat (first | exact List.Mem.head _ | refine List.Mem.tail _ ?_)); done))))⟩ ⟨Nat.ne_of_lt (lzq (td, _) (by (focus ((repeat (first | exact List.Mem.head _ | refine List.Mem.tail _ ?_)); done))))⟩ ⟨Nat.ne_of_lt (lzq (tp, _) (by (focus ((repeat (first | exact List.Mem.head _ | refine List.Mem.tail _ ?_)); done))))⟩ ⟨Nat.ne_of_lt ldq⟩ ⟨Nat.ne_of_lt (lzq (x, _) (by (focus ((repeat (first | exact List.Mem.head _ | refine List.Mem.tail _ ?_)); done))))⟩ ⟨Nat.ne_of_lt (lzq (d, _) (by (focus ((repeat (first | exact List.Mem.head _ | refine List.Mem.tail _ ?_)); done))))⟩ ⟨Nat.ne_of_lt (lzq (r, _) (by (focus ((repeat (first | exact List.Mem.head _ | refine List.Mem.tail _ ?_)); done))))⟩ ⟨Nat.ne_of_lt (lzq (cn, _) (by (focus ((repeat (first | exact List.Mem.head _ | refine List.Mem.tail _ ?_)); done))))⟩ ?zq4 ?FF4 (news_sub ?NN4 ?SS4)
        case FF4 => assumption
        case NN4 => assumption
        case SS4 => (focus ((repeat (first | with_reducible exact fun _ h => h | exact sub_nil | (refine sub_cons ?_ ?_; (focus (focus ((repeat (first | exact List.Mem.head _ | refine List.Mem.tail _ ?_)); done)))) | refine sub_skip ?_)); done))
        case DD4 => assumption
        case II4 => assumption
        case qb4 => exact fun n hn => hqb n (List.mem_of_mem_drop hn)
        case ri4 => exact hri'
        case zq4 => exact fun z hz => Nat.ne_of_lt (lzq z (by repeat (first | exact hz | refine List.Mem.tail _ ?_)))
        all_goals first | with_reducible assumption | exact Int.le_refl _ | exact Int.le_add_of_nonneg_right (by decide) | exact nb3 | exact nb4 | exact nb5 | exact nb6 (by with_reducible assumption) | exact nb7 (by with_reducible assumption) | exact nb8 (by with_reducible assumption) | exact nb9 (by with_reducible assumption) | exact nb10 (by with_reducible assumption) | omega
    · refine execsC_nil ?_
      refine execsC_lift ?_
      (repeat' (first | (k_unfold; (try dsimp only)) | walk1 | (dsimp only; walk1) | (leave1; (try dsimp only)) | fail "no step"))
      refine execsC_lift ?_
      (repeat' (first | (k_unfold; (try dsimp only)) | walk1 | (dsimp only; walk1) | (leave1; (try dsimp only)) | fail "no step"))
      · subst_vars
        refine' kont _ _ _ _ _ q _ qn _ rc wc _ _ _ _ _ _ _ _ _ ?bb17 ?bb27 ?kk7 ?hkv7 ?DD7 ?II7 hqb hr0 ?rw7 ?ws7 ?ww7 hri ?cc17 ?cc27 (by first | assumption | exact ⟨Ne.symm (NeA.ne (by assumption))⟩) (by first | assumption | exact ⟨Ne.symm (NeA.ne (by assumption))⟩) (by first | assumption | exact ⟨Ne.symm (NeA.ne (by assumption))⟩) (by first | assumption | exact ⟨Ne.symm (NeA.ne (by assumption))⟩) (by first | assumption | exact ⟨Ne.symm (NeA.ne (by assumption))⟩) (by first | assumption | exact ⟨Ne.symm (NeA.ne (by assumption))⟩) (by first | assumption | exact ⟨Ne.symm (NeA.ne (by assumption))⟩) (by first | assumption | exact ⟨Ne.symm (NeA.ne (by assumption))⟩) (by first | assumption | exact ⟨Ne.symm (NeA.ne (by assumption))⟩) (by first | assumption | exact ⟨Ne.symm (NeA.ne (by assumption))⟩) ?zq7 ?FF7 (news_sub ?NN7 ?SS7)
        case FF7 => assumption
        case NN7 => assumption
        case SS7 => (focus ((repeat (first | with_reducible exact fun _ h => h | exact sub_nil | (refine sub_cons ?_ ?_; (focus (focus ((repeat (first | exact List.Mem.head _ | refine List.Mem.tail _ ?_)); done)))) | refine sub_skip ?_)); done))
        case hkv7 => assumption
        case DD7 => assumption
        case II7 => assumption
        case zq7 => (focus ((repeat (first | assumption | (refine off_cons ?_ ?_; (focus walk_at "ne")))); done))
        case kk7 => exact ite_or
        all_goals first | with_reducible assumption | exact Int.le_refl _ | exact Int.le_add_of_nonneg_right (by decide) | exact nb3 | exact nb4 | exact nb5 | exact nb6 (by with_reducible assumption) | exact nb7 (by with_reducible assumption) | exact nb8 (by with_reducible assumption) | exact nb9 (by with_reducible assumption) | exact nb10 (by with_reducible assumption) | omega
      · dsimp only
        refine execsC_lift ?_
        (repeat' (first | (k_unfold; (try dsimp only)) | walk1 | (dsimp only; walk1) | (leave1; (try dsimp only)) | fail "no step"))
        subst_vars
        refine R_true (by simp) ?_
        refine' kont _ _ kvs _ _ q _ qn _ rc wc _ _ _ _ _ _ _ _ _ ?bb18 ?bb28 (.inl rfl) ?hkv8 ?DD8 ?II8 hqb hr0 ?rw8 ?ws8 ?ww8 hri ?cc18 ?cc28 (by first | assumption | exact ⟨Ne.symm (NeA.ne (by assumption))⟩) (by first | assumption | exact ⟨Ne.symm (NeA.ne (by assumption))⟩) (by first | assumption | exact ⟨Ne.symm (NeA.ne (by assumption))⟩) (by first | assumption | exact ⟨Ne.symm (NeA.ne (by assumption))⟩) (by first | assumption | exact ⟨Ne.symm (NeA.ne (by assumption))⟩) (by first | assumption | exact ⟨Ne.symm (NeA.ne (by assumption))⟩) (by first | assumption | exact ⟨Ne.symm (NeA.ne (by assumption))⟩) (by first | assumption | exact ⟨Ne.symm (NeA.ne (by assumption))⟩) (by first | assumption | exact ⟨Ne.symm (NeA.ne (by assumption))⟩) (by first | assumption | exact ⟨Ne.symm (NeA.ne (by assumption))⟩) ?zq8 ?FF8 (news_sub ?NN8 ?SS8)
        case FF8 => assumption
        case NN8 => assumption
        case SS8 => (focus ((repeat (first | with_reducible exact fun _ h => h | exact sub_nil | (refine sub_cons ?_ ?_; (focus (focus ((repeat (first | exact List.Mem.head _ | refine List.Mem.tail _ ?_)); done)))) | refine sub_skip ?_)); done))
        case hkv8 => assumption
        case DD8 => assumption
        case II8 => assumption
        case zq8 => (focus ((repeat (first | assumption | (refine off_cons ?_ ?_; (focus walk_at "ne")))); done))
        all_goals first | with_reducible assumption | exact Int.le_refl _ | exact Int.le_add_of_nonneg_right (by decide) | exact nb3 | exact nb4 | exact nb5 | exact nb6 (by with_reducible assumption) | exact nb7 (by with_reducible assumption) | exact nb8 (by with_reducible assumption) | exact nb9 (by with_reducible assumption) | exact nb10 (by with_reducible assumption) | omega

end

/-! part PChan -/
section
theorem linesPChan : True := by
  k_with_none
  k_with "my k_room" => ((try simp only [depth_under_make, depth_under_kw, depth_in1, depth_deeper, depth_caller]); (try simp only [recursionLimit]); first | decide | exact Nat.le_trans (by with_reducible assumption) (by decide) | exact Nat.le_trans (Nat.add_le_add_right (by with_reducible assumption) _) (by decide) | omega)
  k_with "execs cons" => (k_here; dsimp only; k_gentoks)
  k_with "execs nil" => (k_here; dsimp only; k_gentoks)
  k_with "my k_all" => (with_reducible assumption)
  k_with "my k_ne" => (refine neN ?_; (try dsimp only); first | with_reducible assumption | exact Ne.symm (by with_reducible assumption) | exact NeA.ne (by with_reducible assumption) | exact Ne.symm (NeA.ne (by with_reducible assumption)) | exact Nat.ne_of_lt (by walk_at "pick") | exact Nat.ne_of_gt (by walk_at "pick") | exact Nat.ne_of_gt (Nat.lt_add_one_of_lt (by walk_at "pick")) | exact Nat.ne_of_lt (Nat.lt_add_one_of_lt (by walk_at "pick")) | walk_at "pick" | exact Ne.symm (by walk_at "pick") | omega)
  k_with "my k_units" => ((try simp only [units_under_make, units_in1, units_deeper, Around.mark_units, units_caller]); first | exact Nat.le_trans (Nat.add_le_add_right (by with_reducible assumption) _) (by decide) | exact Nat.le_trans (by with_reducible assumption) (by decide) | exact lt_cline1 (by with_reducible assumption) (by decide) | exact lt_cline2 (by with_reducible assumption) (by decide) | ((have hcL' := cLine_is); omega))
  k_with "subscriptTail Subscript Name Constant Slice ref ref" => (k_here; k_dflt (first | (refine' list_upto (s := ⟨_, _, _, _, _⟩) (by k_asm) (by k_asm) (by k_mem) (by with_reducible assumption) (by omega) (by omega) ?_) | (refine' list_from (s := ⟨_, _, _, _, _⟩) (by k_asm) (by k_asm) (by k_mem) (by with_reducible assumption) (by omega) (by omega) ?_)); intro D' ws' h' F' N' l1 hI'; (try k_lt l1); (try k_sweep))
  k_with "subscriptTail" => (k_here; (with_reducible show wpAny _ _ (subscriptTail _ _ (Value.ref _) (Value.int (Int.fmod _ _) _)) _ _ _); k_dflt (refine' ba_sub (by k_asm) (by k_mem) (by l_fact) (by l_fact) (by omega) ?_ (by with_unfolding_all rfl)))
  k_with "setItem ref int int" => (k_here; k_dflt (refine' ba_set (by k_asm) (by k_asm) (by k_upd) (by l_fact) (by l_fact) (by omega) (by omega) (by omega) ?_); intro h' F' N'; (try k_sweep))
  k_with "call builtin:len" => (k_here; (with_reducible show wpAny _ _ (PySem.call (Value.builtin "len") [Value.ref _]) _ _ _); k_dflt (refine' ba_lenN (by k_asm) (by k_mem) (by omega) ?_))
  k_with "exec For Name Subscript cons nil" => (k_here; refine forA ?_)
  k_with "pyIter bytes" => (k_here; refine KBw.pyIter_bytes ?_)
  k_with "call builtin:len" => (k_here; (with_reducible show wpAny _ _ (PySem.call (Value.builtin "len") [Value.ref _]) _ _ _); k_dflt (refine' list_lenN (by k_asm) (by k_mem) (by with_reducible assumption) (by ((try simp only [List.length_take, List.length_drop]); omega)) ?_))
  k_with "pick" => (focus (apply pickL; (iterate 13 (first | done | with_reducible assumption | apply pickR)); done))
  k_with "ne" => ((try dsimp only); first | assumption | exact Ne.symm (by assumption) | exact NeA.ne (by assumption) | exact Ne.symm (NeA.ne (by assumption)) | exact Nat.ne_of_lt (by walk_at "pick") | exact Nat.ne_of_gt (by walk_at "pick") | exact Nat.ne_of_gt (Nat.lt_add_one_of_lt (by walk_at "pick")) | exact Nat.ne_of_lt (Nat.lt_add_one_of_lt (by walk_at "pick")) | walk_at "pick" | exact Ne.symm (by walk_at "pick") | omega)
  k_with "num" => (first | with_reducible assumption | exact Int.le_add_of_nonneg_right (by decide) | exact nb12 (by with_reducible assumption) (by with_reducible assumption) | (focus ((repeat (first | with_reducible assumption | refine Int.add_nonneg ?_ (by decide))); done)) | exact Int.le_trans (by with_reducible assumption) (by decide) | exact Int.le_trans (Int.add_le_add_right (by with_reducible assumption) _) (by decide) | omega)
  k_with "rem" => (focus ((repeat (first | exact Rem.head | apply Rem.tail)); done))
  k_with "off" => (focus ((repeat (first | assumption | (refine off_cons ?_ ?_; (focus walk_at "ne")))); done))
  k_with "mem" => (focus ((repeat (first | exact List.Mem.head _ | refine List.Mem.tail _ ?_)); done))
  trivial
set_option maxHeartbeats 2000000 in
theorem channel_in {w : World} {A₀ : Around} {dp un : Nat} {gd : Option (List Code)} {base h₀ : Heap} {outer : List Env} {env : Env} {L : Addr} {m mg mb : Str → Option Value} {s : Shared} {p : Program} {loose : List Str} {mean : ExcName → Option Value}
    {rest : List (Addr × Obj)} {R : Result → Shared → Prop}
    {x d r : Addr} {id sz rc wc : Int} {ro wo : Bool} {k1 k2 k3 k4 k5 k6 k7 t1 t2 t4 t5 : Tok} {sd : Int} {tsd : Tok}
    (B : Below A₀ base outer h₀) (F : Fr h₀ L s.heap m) (X : (hd.heap_1 w.params).In h₀)
    (N : News h₀ L s.heap ((x, instObj 107 d) :: (d, pdO w id sz r k1 k2 k3 k4 k5 k6 k7 t1 t2 (.int rc t4) (.int wc t5) ro wo) :: rest)) (T : Top p loose mean mg mb h₀)
    (hf : env.frame = some L) (hke : env.scope.kind = .function) (hdep : dp ≤ 400) (hu : un ≤ 1000)
    
    (kont : ∀ D a b c h tk, @LT.lt Nat _ x D → @LT.lt Nat _ d D → AllLt D rest → Fr h₀ L h m → News h₀ L h ((D, tupO (id, sd) a b c) :: (x, instObj 107 d) :: (d, pdO w id sz r k1 k2 k3 k4 k5 k6 k7 t1 t2 (.int rc t4) (.int wc t5) ro wo) :: rest) → R (.ok (.ret (.ref D))) { s with heap := h, toks := tk }) :
    codeAny (model PySem.Challenge.rw_nz0210_01.prog w) ⟨none, dp, some (env :: outer), gd, un⟩ (.call (.ref 83) ⟨[.ref x, .int sd tsd], []⟩) R s := by
  dsimp only [pdO, tdO] at N
  (refine' code_def ?k1 ?k2 ?k3 ?k4 ?k5 ?kA ?kF ?kK ?k6 ?k7 ?k8 ?k9 ?kB ?_ ?c2 ?c3 ?c4 ?c5; (case kA => exact rfl); (case kF => first | exact rfl | assumption); (case kK => first | exact rfl | assumption); (case k1 => k_asm); (case k2 => k_asm); (case k3 => k_asm); (case k4 => k_asm); (case k5 => k_asm); (case k6 => k_is); (case k7 => k_is); (case k8 => k_room); (case k9 => first | exact BindsTo.of_eq rfl | exact binds_K (by k_in) rfl (by k_is) rfl rfl rfl | fail "k_enter: no rule for these arguments"); (case c5 => decide); (case kB => exact locs rfl); (case c2 => exact rfl); (case c3 => exact rfl); (case c4 => exact rfl); k_whole; intro g' L' h' FG' F' N' B' X' T'; (try dsimp only); (try k_lift B'); (try k_fold))
  (repeat' (first | (k_unfold; (try dsimp only)) | walk1 | (dsimp only; walk1) | (leave1; (try dsimp only)) | fail "no step"))
  refine' kont _ _ _ _ _ _ ?a ?b ?c ?F ?N
  case F => assumption
  case N => assumption
  case a => omega
  case b => omega
  case c => (with_reducible first | assumption | exact And.right (by assumption) | exact And.right (And.right (by assumption)) | exact And.right (And.right (And.right (by assumption))) | exact And.right (And.right (And.right (And.right (by assumption)))) | exact And.right (And.right (And.right (And.right (And.right (by assumption))))) | exact And.right (And.right (And.right (And.right (And.right (And.right (by assumption)))))) | exact And.right (And.right (And.right (And.right (And.right (And.right (And.right (by assumption))))))) | exact And.right (And.right (And.right (And.right (And.right (And.right (And.right (And.right (by assumption)))))))))
end

/-! part Thru -/
section
theorem linesThru : True := by
  k_with_none
  k_with "my k_room" => ((try simp only [depth_under_make, depth_under_kw, depth_in1, depth_deeper, depth_caller]); (try simp only [recursionLimit]); first | decide | exact Nat.le_trans (by with_reducible assumption) (by decide) | exact Nat.le_trans (Nat.add_le_add_right (by with_reducible assumption) _) (by decide) | omega)
  k_with "execs cons" => (k_here; dsimp only; k_gentoks)
  k_with "execs nil" => (k_here; dsimp only; k_gentoks)
  k_with "my k_all" => (with_reducible assumption)
  k_with "my k_ne" => (refine neN ?_; (try dsimp only); first | with_reducible assumption | exact Ne.symm (by with_reducible assumption) | exact NeA.ne (by with_reducible assumption) | exact Ne.symm (NeA.ne (by with_reducible assumption)) | exact Nat.ne_of_lt (by walk_at "pick") | exact Nat.ne_of_gt (by walk_at "pick") | exact Nat.ne_of_gt (Nat.lt_add_one_of_lt (by walk_at "pick")) | exact Nat.ne_of_lt (Nat.lt_add_one_of_lt (by walk_at "pick")) | walk_at "pick" | exact Ne.symm (by walk_at "pick") | omega)
  k_with "my k_units" => ((try simp only [units_under_make, units_in1, units_deeper, Around.mark_units, units_caller]); first | exact Nat.le_trans (Nat.add_le_add_right (by with_reducible assumption) _) (by decide) | exact Nat.le_trans (by with_reducible assumption) (by decide) | exact lt_cline1 (by with_reducible assumption) (by decide) | exact lt_cline2 (by with_reducible assumption) (by decide) | ((have hcL' := cLine_is); omega))
  k_with "subscriptTail Subscript Name Constant Slice ref ref" => (k_here; k_dflt (first | (refine' list_upto (s := ⟨_, _, _, _, _⟩) (by k_asm) (by k_asm) (by k_mem) (by with_reducible assumption) (by omega) (by omega) ?_) | (refine' list_from (s := ⟨_, _, _, _, _⟩) (by k_asm) (by k_asm) (by k_mem) (by with_reducible assumption) (by omega) (by omega) ?_)); intro D' ws' h' F' N' l1 hI'; (try k_lt l1); (try k_sweep))
  k_with "subscriptTail" => (k_here; (with_reducible show wpAny _ _ (subscriptTail _ _ (Value.ref _) (Value.int (Int.fmod _ _) _)) _ _ _); k_dflt (refine' ba_sub (by k_asm) (by k_mem) (by l_fact) (by l_fact) (by omega) ?_ (by with_unfolding_all rfl)))
  k_with "setItem ref int int" => (k_here; k_dflt (refine' ba_set (by k_asm) (by k_asm) (by k_upd) (by l_fact) (by l_fact) (by omega) (by omega) (by omega) ?_); intro h' F' N'; (try k_sweep))
  k_with "call builtin:len" => (k_here; (with_reducible show wpAny _ _ (PySem.call (Value.builtin "len") [Value.ref _]) _ _ _); k_dflt (refine' ba_lenN (by k_asm) (by k_mem) (by omega) ?_))
  k_with "exec For Name Subscript cons nil" => (k_here; refine forA ?_)
  k_with "pyIter bytes" => (k_here; refine KBw.pyIter_bytes ?_)
  k_with "call builtin:len" => (k_here; (with_reducible show wpAny _ _ (PySem.call (Value.builtin "len") [Value.ref _]) _ _ _); k_dflt (refine' list_lenN (by k_asm) (by k_mem) (by with_reducible assumption) (by ((try simp only [List.length_take, List.length_drop]); omega)) ?_))
  k_with "pick" => (focus (apply pickL; (iterate 13 (first | done | with_reducible assumption | apply pickR)); done))
  k_with "ne" => ((try dsimp only); first | assumption | exact Ne.symm (by assumption) | exact NeA.ne (by assumption) | exact Ne.symm (NeA.ne (by assumption)) | exact Nat.ne_of_lt (by walk_at "pick") | exact Nat.ne_of_gt (by walk_at "pick") | exact Nat.ne_of_gt (Nat.lt_add_one_of_lt (by walk_at "pick")) | exact Nat.ne_of_lt (Nat.lt_add_one_of_lt (by walk_at "pick")) | walk_at "pick" | exact Ne.symm (by walk_at "pick") | omega)
  k_with "num" => (first | with_reducible assumption | exact Int.le_add_of_nonneg_right (by decide) | exact nb12 (by with_reducible assumption) (by with_reducible assumption) | (focus ((repeat (first | with_reducible assumption | refine Int.add_nonneg ?_ (by decide))); done)) | exact Int.le_trans (by with_reducible assumption) (by decide) | exact Int.le_trans (Int.add_le_add_right (by with_reducible assumption) _) (by decide) | omega)
  k_with "rem" => (focus ((repeat (first | exact Rem.head | apply Rem.tail)); done))
  k_with "off" => (focus ((repeat (first | assumption | (refine off_cons ?_ ?_; (focus walk_at "ne")))); done))
  k_with "mem" => (focus ((repeat (first | exact List.Mem.head _ | refine List.Mem.tail _ ?_)); done))
  k_with "call ref" => (k_here; (with_reducible show wpAny _ _ (call (Value.ref 161) _) _ _ _); k_dflt ((refine' wpAny_call (take_u (bk := _) (btk := _) (by k_asm) (by k_asm) (by k_asm) (by k_asm) (by k_asm) rfl rfl (by k_room) (by k_units) (by k_updF) (by k_mem) (by walk_at "ne") (by assumption) (by assumption) (by walk_at "num") (by walk_at "num") (by walk_at "num") (by walk_at "num") (by first | omega | exact (pick3 (by assumption) (by assumption)).1 | exact (pick2 (by assumption) (by assumption)).1) (by first | omega | exact Int.le_trans (pick3 (by assumption) (by assumption)).2 (by decide) | exact Int.le_trans (pick2 (by assumption) (by assumption)).2 (by decide)) ?_))); intro r t h t' tk hr0 hr1 F' N'; (try dsimp only at N'); (try dsimp only); revert r t h t' tk hr0 hr1 F' N'; intro _ _ _ _ _ _ _ _ _)
  k_with "call ref" => (k_here; (with_reducible show wpAny _ _ (call (Value.ref 90) _) _ _ _); k_dflt ((refine' wpAny_call (write_in (by k_asm) (by k_asm) (by k_asm) (news_rem3 (by k_asm) (by walk_at "rem") (by walk_at "rem") (by walk_at "rem")) (by k_asm) rfl rfl (by k_room) (by k_units) (by walk_at "num") (by walk_at "num") (by walk_at "num") (by walk_at "num") (by walk_at "num") (by walk_at "num") (by exact RingIs.size' (by assumption)) (by walk_at "off") (by walk_at "off") (by walk_at "off") (by walk_at "ne") (by walk_at "ne") (by walk_at "ne") (by assumption) (by kba_ints) (by (rw [clip_slice (by omega) (by omega) (by omega), List.length_take]; omega)) (And.intro (fun _ _ _ _ _ _ _ _ _ lz _ _ => ?_) (fun _ _ _ _ _ _ _ _ _ _ _ _ _ _ _ _ _ _ lz _ _ => ?_))))) <;> (try contradiction) <;> (try simp only [AllLt, and_true] at lz) <;> (try dsimp only))
  k_with "call ref" => (k_here; (with_reducible show wpAny _ _ (call (Value.ref 140) _) _ _ _); k_dflt ((refine' wpAny_call (tclose_in (by k_asm) (by k_asm) (by k_asm) (news_rem6 (by k_asm) (by walk_at "rem") (by walk_at "rem") (by walk_at "rem") (by walk_at "rem") (by walk_at "rem") (by walk_at "rem")) (by k_asm) rfl rfl (by k_room) (by k_units) (by walk_at "num") (by walk_at "num") (by walk_at "num") (by walk_at "num") (by walk_at "num") (by walk_at "num") (by exact RingIs.size' (by assumption)) (by walk_at "off") (by walk_at "off") (by walk_at "off") (by walk_at "ne") (by walk_at "ne") (by walk_at "ne") (by first | exact pick01 (by assumption) (by assumption) | exact .inl rfl | exact .inr rfl | assumption) (by assumption) ?_ (by walk_at "off") (by walk_at "off") (by walk_at "off") (by walk_at "ne") (by walk_at "ne") (by walk_at "ne") (by walk_at "ne") (by walk_at "ne") (by walk_at "ne") (by walk_at "ne") (by walk_at "ne") (by walk_at "ne") (by walk_at "ne") (by walk_at "ne") (by walk_at "ne") (by assumption) (fun _ _ _ _ _ _ _ _ _ _ _ _ => ?_))); (next => first | omega | exact Nat.le_of_ble_eq_true rfl)) <;> (try dsimp only))
  trivial
theorem clip_slice {tn : List Int} {wc r : Int} (h0 : 0 ≤ wc) (h1 : wc ≤ tn.length) (hr : 0 ≤ r) : List.take (clipAt tn.length (wc + 1 + r) - clipAt tn.length wc) (tn.drop (clipAt tn.length wc)) = (tn.drop wc.toNat).take (1 + r).toNat := by
  obtain ⟨a, rfl⟩ := Int.eq_ofNat_of_zero_le h0
  obtain ⟨b, rfl⟩ := Int.eq_ofNat_of_zero_le hr
  have h2 : a ≤ tn.length := Int.ofNat_le.mp h1
  clear h0 h1 hr
  rw [show ((a : Int) + 1 + (b : Int)) = ((a + 1 + b : Nat) : Int) from rfl, show (1 + (b : Int)).toNat = 1 + b from rfl, Int.toNat_natCast, PySem.clipAt_nat, PySem.clipAt_nat, Nat.min_eq_left h2, ← Nat.sub_min_sub_right, Nat.add_assoc, Nat.add_sub_cancel_left, ← List.length_drop, ← List.take_eq_take_min]
theorem map_turn {m u : Str → Option Value} {a o : Option Value} {v : Value} : (fun (y : Str) => if y = "turn" then some v else if y = "at" then a else if y = "out" then o else if y = "turn" then u y else if y = "octets" then u y else if y = "state" then u y else m y) = (fun (y : Str) => if y = "at" then a else if y = "out" then o else if y = "turn" then (fun (z : Str) => if z = "turn" then some v else u z) y else if y = "octets" then (fun (z : Str) => if z = "turn" then some v else u z) y else if y = "state" then (fun (z : Str) => if z = "turn" then some v else u z) y else m y) := by
  funext y
  by_cases h1 : y = "turn"
  · subst h1
    rw [if_pos rfl, if_neg (by decide), if_neg (by decide), if_pos rfl]
    exact (if_pos rfl).symm
  · simp only [if_neg h1]
theorem map_end {m f : Str → Option Value} {a o : Option Value} (h1 : f "at" = a) (h2 : f "out" = o) (h3 : ∀ (y : Str), y ≠ "at" → y ≠ "out" → y ≠ "turn" → y ≠ "octets" → y ≠ "state" → f y = m y) : f = (fun (y : Str) => if y = "at" then a else if y = "out" then o else if y = "turn" then f y else if y = "octets" then f y else if y = "state" then f y else m y) := by
  funext y
  by_cases e1 : y = "at"
  · subst e1; rw [if_pos rfl, h1]
  by_cases e2 : y = "out"
  · subst e2; rw [if_neg (by decide), if_pos rfl, h2]
  rw [if_neg e1, if_neg e2]
  by_cases e3 : y = "turn"
  · rw [if_pos e3]
  by_cases e4 : y = "octets"
  · rw [if_neg e3, if_pos e4]
  by_cases e5 : y = "state"
  · rw [if_neg e3, if_neg e4, if_pos e5]
  rw [if_neg e3, if_neg e4, if_neg e5]
  exact h3 y e1 e2 e3 e4 e5
theorem oct_nil {l : List Int} : ((byteArr l).toList == (#[] : Array UInt8).toList) = l.isEmpty := by
  cases l <;> rfl
theorem n_zero {l : List Int} {n : Nat} {k : Int} (hl : (l.length : Int) = k) (hn : (n : Int) ≤ k) (a : ((byteArr (l.take n)).toList == (#[] : Array UInt8).toList) = true) : n = 0 := by
  rw [oct_nil, List.isEmpty_iff] at a
  have := congrArg List.length a
  rw [List.length_take, List.length_nil] at this
  omega
theorem n_pos {l : List Int} {n : Nat} (a : ((byteArr (l.take n)).toList == (#[] : Array UInt8).toList) = false) : 1 ≤ n := by
  rcases Nat.eq_zero_or_pos n with h | h
  · subst h
    rw [oct_nil] at a
    cases a
  · exact h
theorem wo_one {k : Int} {v : Value} : without [(k, v)] k = [] := by simp [without]
theorem dict_of {prog : Program} {w : World} {o : Obj} {a b : List (Int × Value)} (h : o.IsDictOf (PySem.intKind prog w) a) (e : a = b) : o.IsDictOf (PySem.intKind prog w) b := e ▸ h
theorem bytes_grow {tn : List Int} {rc wc : Int} {n : Nat} (h0 : 0 ≤ rc) (h1 : rc + n ≤ wc) (hw : wc ≤ tn.length) : byteArr (tn.take rc.toNat) ++ byteArr (((tn.take wc.toNat).drop rc.toNat).take n) = byteArr (tn.take (rc + n).toNat) := by
  obtain ⟨a, rfl⟩ := Int.eq_ofNat_of_zero_le h0
  obtain ⟨b, rfl⟩ := Int.eq_ofNat_of_zero_le (Int.le_trans (show (0 : Int) ≤ ((a + n : Nat) : Int) from Int.natCast_nonneg _) h1)
  have h2 : a + n ≤ b := Int.ofNat_le.mp h1
  clear h0 h1 hw
  rw [show ((a : Int) + (n : Int)).toNat = a + n from rfl, Int.toNat_natCast, Int.toNat_natCast]
  have e : tn.take a ++ ((tn.take b).drop a).take n = tn.take (a + n) := by
    rw [List.take_add, List.drop_take, List.take_take, Nat.min_eq_left (Nat.le_sub_of_add_le (Nat.add_comm a n ▸ h2))]
  rw [← e]
  simp [byteArr]
theorem q_drop {tn : List Int} {rc wc : Int} {n : Nat} (h0 : 0 ≤ rc) : ((tn.take wc.toNat).drop rc.toNat).drop n = (tn.take wc.toNat).drop (rc + n).toNat := by
  obtain ⟨a, rfl⟩ := Int.eq_ofNat_of_zero_le h0
  rw [List.drop_drop, show ((a : Int) + (n : Int)).toNat = a + n from rfl, Int.toNat_natCast]
theorem w_nat {tn : List Int} {a b r n sz : Nat} (h1 : a ≤ b) (hw : b < tn.length) (hs : b - a < sz) (hn : (n : Int) = if (sz : Int) - ((b : Int) - a) < ((min (1 + r) (tn.length - b) : Nat) : Int) then (sz : Int) - ((b : Int) - a) else ((min (1 + r) (tn.length - b) : Nat) : Int)) :
    n ≤ 1 + r ∧ 1 ≤ n ∧ b + n ≤ tn.length ∧ b + n ≤ sz + a := by
  have q1 : min (1 + r) (tn.length - b) ≤ 1 + r := Nat.min_le_left _ _
  have q2 : min (1 + r) (tn.length - b) ≤ tn.length - b := Nat.min_le_right _ _
  have q3 : 1 ≤ min (1 + r) (tn.length - b) := Nat.le_min.mpr ⟨Nat.le_add_right _ _, Nat.sub_pos_of_lt hw⟩
  generalize min (1 + r) (tn.length - b) = q at hn q1 q2 q3
  split at hn <;> omega
theorem w_step {tn : List Int} {rc wc tsz r : Int} {n : Nat} {ring : Array UInt8} (h0 : 0 ≤ rc) (h1 : rc ≤ wc) (hw : wc < tn.length) (hs : wc - rc < tsz)
    (hn : (n : Int) = if tsz - (wc - rc) < ((List.take (clipAt tn.length (wc + 1 + r) - clipAt tn.length wc) (List.drop (clipAt tn.length wc) tn)).length : Int) then tsz - (wc - rc) else ((List.take (clipAt tn.length (wc + 1 + r) - clipAt tn.length wc) (List.drop (clipAt tn.length wc) tn)).length : Int))
    (hri : RingIs ring tsz rc (wc + n) ((tn.take wc.toNat).drop rc.toNat ++ List.take n (List.take (clipAt tn.length (wc + 1 + r) - clipAt tn.length wc) (List.drop (clipAt tn.length wc) tn)))) (hr : 0 ≤ r) :
    RingIs ring tsz rc (wc + n) ((tn.take (wc + n).toNat).drop rc.toNat) ∧ 1 ≤ n ∧ wc + n ≤ tn.length ∧ wc + n - rc ≤ tsz := by
  rw [clip_slice (Int.le_trans h0 h1) (Int.le_of_lt hw) hr] at hn hri
  obtain ⟨a, rfl⟩ := Int.eq_ofNat_of_zero_le h0
  obtain ⟨b, rfl⟩ := Int.eq_ofNat_of_zero_le (Int.le_trans h0 h1)
  obtain ⟨c, rfl⟩ := Int.eq_ofNat_of_zero_le hr
  obtain ⟨sz, rfl⟩ := Int.eq_ofNat_of_zero_le (Int.le_trans (Int.sub_nonneg_of_le h1) (Int.le_of_lt hs))
  rw [show (1 + (c : Int)).toNat = 1 + c from rfl] at hn hri
  rw [List.length_take, List.length_drop] at hn
  simp only [Int.toNat_natCast] at hn hri
  rw [show ((b : Int) + (n : Int)).toNat = b + n from rfl, Int.toNat_natCast]
  have h1' : a ≤ b := Int.ofNat_le.mp h1
  have hw' : b < tn.length := Int.ofNat_lt.mp hw
  have hs' : b - a < sz := by clear hn hri; omega
  have hk := w_nat h1' hw' hs' hn
  clear hn h0 h1 hw hs hr
  have e : (tn.take b).drop a ++ List.take n (List.take (1 + c) (List.drop b tn)) = (tn.take (b + n)).drop a := by
    rw [List.take_take, Nat.min_eq_left hk.1, List.take_add, List.drop_append_of_le_length (by rw [List.length_take, Nat.min_eq_left (Nat.le_of_lt hw')]; exact h1')]
  rw [e] at hri
  exact ⟨hri, hk.2.1, Int.ofNat_le.mpr hk.2.2.1, by have h := hk.2.2.2; clear hri e hk hs' hw' h1'; omega⟩
theorem fr_map {g h : Heap} {L : Addr} {f f' : Str → Option Value} (F : Fr g L h f) (e : f = f') : Fr g L h f' := e ▸ F
abbrev tL (w : World) (bx cl : Addr) (bv : List Value) (bs : Int) (bts : Tok) (nb nc : Nat) (tb td tp : Addr) (tsz made : Int) (j1 j2 j3 u1 u2 : Tok) (x d r : Addr) (k1 k2 k3 k4 k5 k6 k7 v1 v2 : Tok) (rest : List (Addr × Obj)) (bk : Int) (btk : Tok) (op : Obj) (rc : Int) (t4 : Tok) (wc : Int) (t5 : Tok) (wo : Bool) (ring : Array UInt8) : List (Addr × Obj) := (bx, W.listOf #[.ref cl, .int (bk) btk, .int bs bts] nb) :: (cl, W.listOf bv.toArray nc) :: (tb, instObj 150 td) :: (td, tdO w tsz (made + 1) j1 j2 j3 u1 u2 tp) :: (tp, op) :: (x, instObj 107 d) :: (d, pdO w made tsz r k1 k2 k3 k4 k5 k6 k7 v1 v2 (.int (rc) t4) (.int (wc) t5) true wo) :: (r, baOf ring) :: rest
abbrev tF (w : World) (tn : List Int) (tsz made : Int) (x : Addr) (bk₀ : Int) (i : Nat) (bk : Int) (op : Obj) (rc wc : Int) (wo : Bool) (ring : Array UInt8) : Prop := bk₀ ≤ bk ∧ bk ≤ bk₀ + 2 * (i) ∧ 0 ≤ rc ∧ rc ≤ wc ∧ wc ≤ (tn.length : Int) ∧ wc - rc < tsz ∧ ((i : Nat) : Int) ≤ wc + rc + (if wo = true then 0 else 1) ∧ (wo = false → wc = (tn.length : Int)) ∧ RingIs ring tsz rc wc ((tn.take (Int.toNat (wc))).drop (Int.toNat (rc))) ∧ op.IsDictOf (PySem.intKind PySem.Challenge.rw_nz0210_01.prog w) [(made, .ref x)]
abbrev tM (tn : List Int) (m : Str → Option Value) (rc : Int) (tt : Tok) (wc : Int) (ta : Tok) (u : Str → Option Value) : Str → Option Value := (fun y => if y = "at" then some (.int (wc) ta) else if y = "out" then some (.bytes (byteArr (tn.take (Int.toNat (rc)))) tt) else if y = "turn" then u y else if y = "octets" then u y else if y = "state" then u y else m y)
abbrev tG (w : World) (tn : List Int) (tsz made : Int) (x : Addr) (bk₀ : Int) (i : Nat) (bk : Int) (op : Obj) (rc wc : Int) (wo : Bool) (ring : Array UInt8) : Prop := bk₀ ≤ bk ∧ bk ≤ bk₀ + 2 * (i) + 1 ∧ 0 ≤ rc ∧ rc ≤ wc ∧ wc ≤ (tn.length : Int) ∧ wc - rc ≤ tsz ∧ ((i : Nat) : Int) ≤ wc + rc + (if wo = true then 0 else 1) ∧ (wo = false → wc = (tn.length : Int)) ∧ (wc = rc → wo = false) ∧ RingIs ring tsz rc wc ((tn.take (Int.toNat (wc))).drop (Int.toNat (rc))) ∧ op.IsDictOf (PySem.intKind PySem.Challenge.rw_nz0210_01.prog w) [(made, .ref x)]
set_option maxHeartbeats 1000000 in
theorem thru_go {w : World} {A : Around} {h₀ : Heap} {L : Addr} {m : Str → Option Value} {s : Shared} {env : Env} {px : Pos} {body : List Stmt} {R : Result → Shared → Prop} {rest : List (Addr × Obj)}
    {bx cl : Addr} {bv : List Value} {bn : List Int} {bk₀ bs : Int} {btk bts : Tok} {nb nc : Nat} {tb td tp : Addr} {tsz made : Int} {j1 j2 j3 u1 u2 : Tok} {x d r : Addr} {k1 k2 k3 k4 k5 k6 k7 v1 v2 : Tok} {tn : List Int} {I : Addr} {n : Nat} {St : Nat → Heap → Prop} {fp : List Addr} {bk : Int} {op : Obj} {t4 t5 tt ta : Tok} {ring : Array UInt8}
    (Wk : Walks PySem.Challenge.rw_nz0210_01.prog w A I fp [I] n (fun i v => ∃ t, v = .int (0 + (i : Int)) t) St) (hst : St 0 s.heap) (hIo : ∀ i h, St i h → ∃ o, h.get? I = some o)
    (hSt : ∀ i h h' o, St (i + 1) h → h.get? I = some o → h'.get? I = some o → St (i + 1) h') (hIL : L ≠ I) (hI0 : h₀.get? I = none) (hLf : L ∉ fp)
    (hx : env.kindOf "turn" = some .local) (hl : env.locals = L) (hp : (env.scope.kind == .class || (env.scope.kind == .module && env.locals != env.globals)) = false) (hn : 2 * tn.length + 1 < n) (hsz : 1 ≤ tsz) (hbk : bk₀ ≤ bk ∧ bk ≤ bk₀)
    (F : Fr h₀ L s.heap (tM tn m 0 tt 0 ta m)) (N : News h₀ L s.heap (tL w bx cl bv bs bts nb nc tb td tp tsz made j1 j2 j3 u1 u2 x d r k1 k2 k3 k4 k5 k6 k7 v1 v2 rest bk btk op 0 t4 0 t5 true ring)) (offI : ∀ p ∈ tL w bx cl bv bs bts nb nc tb td tp tsz made j1 j2 j3 u1 u2 x d r k1 k2 k3 k4 k5 k6 k7 v1 v2 rest bk btk op 0 t4 0 t5 true ring, p.1 ≠ I) (hri : RingIs ring tsz 0 0 []) (hop : op.IsDictOf (PySem.intKind PySem.Challenge.rw_nz0210_01.prog w) [(made, .ref x)])
    (turn : ∀ (i : Nat) (bk : Int) (btk : Tok) (op : Obj) (rc wc : Int) (t4 t5 tt ta : Tok) (wo : Bool) (ring : Array UInt8) (u : Str → Option Value) oI h tk (K : Shared → Prop), i < n → tF w tn tsz made x bk₀ i bk op rc wc wo ring →
      Fr h₀ L h (tM tn m rc tt wc ta u) → News h₀ L h ((I, oI) :: tL w bx cl bv bs bts nb nc tb td tp tsz made j1 j2 j3 u1 u2 x d r k1 k2 k3 k4 k5 k6 k7 v1 v2 rest bk btk op rc t4 wc t5 wo ring) →
      (∀ (bk : Int) (btk : Tok) (op : Obj) (rc wc : Int) (t4 t5 tt ta : Tok) (wo : Bool) (ring : Array UInt8) (u : Str → Option Value) h tk, tF w tn tsz made x bk₀ (i + 1) bk op rc wc wo ring →
        Fr h₀ L h (tM tn m rc tt wc ta u) → News h₀ L h ((I, oI) :: tL w bx cl bv bs bts nb nc tb td tp tsz made j1 j2 j3 u1 u2 x d r k1 k2 k3 k4 k5 k6 k7 v1 v2 rest bk btk op rc t4 wc t5 wo ring) → K { s with heap := h, toks := tk }) →
      wpC (model PySem.Challenge.rw_nz0210_01.prog w) A (execs body env) (fun fl s₃ => match fl with | .next => K s₃ | .cont => K s₃ | .brk => R (.ok .next) s₃ | .ret v => R (.ok (.ret v)) s₃) (fun _ _ => False) { s with heap := h, toks := tk }) :
    codeC (model PySem.Challenge.rw_nz0210_01.prog w) A (.forLoop (.Name "turn" px) (.ref I) body [] env) R s := by
  refine forLoopC (n := n) (fun i s' => ∃ (bk : Int) (btk : Tok) (op : Obj) (rc wc : Int) (t4 t5 tt ta : Tok) (wo : Bool) (ring : Array UInt8) (u : Str → Option Value), ∃ h tk, s' = { s with heap := h, toks := tk } ∧ St i h ∧ (tF w tn tsz made x bk₀ i bk op rc wc wo ring) ∧ Fr h₀ L h (tM tn m rc tt wc ta u) ∧
    News h₀ L h (tL w bx cl bv bs bts nb nc tb td tp tsz made j1 j2 j3 u1 u2 x d r k1 k2 k3 k4 k5 k6 k7 v1 v2 rest bk btk op rc t4 wc t5 wo ring) ∧ (∀ p ∈ tL w bx cl bv bs bts nb nc tb td tp tsz made j1 j2 j3 u1 u2 x d r k1 k2 k3 k4 k5 k6 k7 v1 v2 rest bk btk op rc t4 wc t5 wo ring, p.1 ≠ I)) ?_ ?_ ?_
  · refine ⟨bk, btk, op, 0, 0, t4, t5, tt, ta, true, ring, m, s.heap, s.toks, rfl, hst, ⟨hbk.1, by omega, by omega, by omega, by omega, by omega, by simp, (fun h => nomatch h), ?_, hop⟩, F, N, offI⟩
    simpa using hri
  · rintro i s₁ hi ⟨bk, btk, op, rc, wc, t4, t5, tt, ta, wo, ring, u, h, tk, rfl, hst', hf, F₁, N₁, off₁⟩
    subst hl
    refine Wk.item i _ _ _ hi hst' fun v h₁ tk₁ hP hst₁ hk₁ => ⟨v, rfl, ?_⟩
    have F₂ := LCg.fr_but F₁ hk₁ hIL hI0
    have N₂ := LCg.news_but N₁ hk₁ off₁
    refine wpAny_storeName_local hx F₂.ns (fun h₂ hn₂ hs₂ => ?_) hp
    have hL₀ : h₀.get? env.locals = none := Heap.get?_none_of_le F₂.above
    have F₃ : Fr h₀ env.locals h₂ _ := ⟨hn₂, fun b o e => hs₂.extBut b o (fun q => by rw [q, hL₀] at e; cases e) (F₂.keep b o e), F₂.above⟩
    have hst₂ : St (i + 1) h₂ := Wk.frame _ _ _ hst₁ fun b hb o e => hs₂.extBut b o (fun q => hLf (q ▸ hb)) e
    obtain ⟨oI, eI⟩ := hIo _ _ hst₂
    have N₃ : News h₀ env.locals h₂ ((I, oI) :: tL w bx cl bv bs bts nb nc tb td tp tsz made j1 j2 j3 u1 u2 x d r k1 k2 k3 k4 k5 k6 k7 v1 v2 rest bk btk op rc t4 wc t5 wo ring) := fun p hp => by
      rcases List.mem_cons.mp hp with rfl | hp
      · exact ⟨eI, Ne.symm hIL, hI0⟩
      · exact ⟨hs₂.extBut _ _ (N₂ p hp).2.1 (N₂ p hp).1, (N₂ p hp).2⟩
    refine wpC_mono (turn i bk btk op rc wc t4 t5 tt ta wo ring (fun y => if y = "turn" then some v else u y) oI h₂ (tk₁ + 1) _ hi hf (cast (congrArg (Fr h₀ env.locals h₂) ?_) F₃) N₃ ?_) (fun fl s₃ h => h) fun _ _ z => z
    · exact map_turn
    · intro bk btk op rc wc t4 t5 tt ta wo ring u h tk hf' F₄ N₄
      refine ⟨bk, btk, op, rc, wc, t4, t5, tt, ta, wo, ring, u, h, tk, rfl, hSt _ _ _ _ hst₂ eI (N₄ _ (.head _)).1, hf', F₄, fun p hp => N₄ p (.tail _ hp), ?_⟩
      exact off_map off₁ (by rfl)
  · rintro s₁ ⟨bk, btk, op, rc, wc, t4, t5, tt, ta, wo, ring, u, h, tk, rfl, hst', hf, F₁, N₁, off₁⟩
    obtain ⟨-, -, a, b, c, -, e, -⟩ := hf
    exfalso
    split at e <;> omega
set_option maxHeartbeats 1000000 in
theorem thru_go2 {w : World} {A : Around} {h₀ : Heap} {L : Addr} {m : Str → Option Value} {s : Shared} {env : Env} {px : Pos} {st1 : Stmt} {rest2 : List Stmt} {R : Result → Shared → Prop} {rest : List (Addr × Obj)}
    {bx cl : Addr} {bv : List Value} {bn : List Int} {bk₀ bs : Int} {btk bts : Tok} {nb nc : Nat} {tb td tp : Addr} {tsz made : Int} {j1 j2 j3 u1 u2 : Tok} {x d r : Addr} {k1 k2 k3 k4 k5 k6 k7 v1 v2 : Tok} {tn : List Int} {I : Addr} {n : Nat} {St : Nat → Heap → Prop} {fp : List Addr} {bk : Int} {op : Obj} {t4 t5 tt ta : Tok} {ring : Array UInt8}
    (Wk : Walks PySem.Challenge.rw_nz0210_01.prog w A I fp [I] n (fun i v => ∃ t, v = .int (0 + (i : Int)) t) St) (hst : St 0 s.heap) (hIo : ∀ i h, St i h → ∃ o, h.get? I = some o)
    (hSt : ∀ i h h' o, St (i + 1) h → h.get? I = some o → h'.get? I = some o → St (i + 1) h') (hIL : L ≠ I) (hI0 : h₀.get? I = none) (hLf : L ∉ fp)
    (hx : env.kindOf "turn" = some .local) (hl : env.locals = L) (hp : (env.scope.kind == .class || (env.scope.kind == .module && env.locals != env.globals)) = false) (hn : 2 * tn.length + 1 < n) (hsz : 1 ≤ tsz) (hbk : bk₀ ≤ bk ∧ bk ≤ bk₀)
    (F : Fr h₀ L s.heap (tM tn m 0 tt 0 ta m)) (N : News h₀ L s.heap (tL w bx cl bv bs bts nb nc tb td tp tsz made j1 j2 j3 u1 u2 x d r k1 k2 k3 k4 k5 k6 k7 v1 v2 rest bk btk op 0 t4 0 t5 true ring)) (offI : ∀ p ∈ tL w bx cl bv bs bts nb nc tb td tp tsz made j1 j2 j3 u1 u2 x d r k1 k2 k3 k4 k5 k6 k7 v1 v2 rest bk btk op 0 t4 0 t5 true ring, p.1 ≠ I) (hri : RingIs ring tsz 0 0 []) (hop : op.IsDictOf (PySem.intKind PySem.Challenge.rw_nz0210_01.prog w) [(made, .ref x)])
    (turn1 : ∀ (i : Nat) (bk : Int) (btk : Tok) (op : Obj) (rc wc : Int) (t4 t5 tt ta : Tok) (wo : Bool) (ring : Array UInt8) (u : Str → Option Value) oI h tk (K : Shared → Prop), i < n → tF w tn tsz made x bk₀ i bk op rc wc wo ring →
      Fr h₀ L h (tM tn m rc tt wc ta u) → News h₀ L h ((I, oI) :: tL w bx cl bv bs bts nb nc tb td tp tsz made j1 j2 j3 u1 u2 x d r k1 k2 k3 k4 k5 k6 k7 v1 v2 rest bk btk op rc t4 wc t5 wo ring) →
      (∀ (bk₂ : Int) (btk₂ : Tok) (op₂ : Obj) (wc₂ : Int) (t5₂ ta₂ : Tok) (wo₂ : Bool) (ring₂ : Array UInt8) (u₂ : Str → Option Value) (h₂ : Heap) (tk₂ : Nat), (tG w tn tsz made x bk₀ i bk₂ op₂ rc wc₂ wo₂ ring₂) → Fr h₀ L h₂ (tM tn m rc tt wc₂ ta₂ u₂) → News h₀ L h₂ ((I, oI) :: tL w bx cl bv bs bts nb nc tb td tp tsz made j1 j2 j3 u1 u2 x d r k1 k2 k3 k4 k5 k6 k7 v1 v2 rest bk₂ btk₂ op₂ rc t4 wc₂ t5₂ wo₂ ring₂) → K { s with heap := h₂, toks := tk₂ }) →
      wpC (model PySem.Challenge.rw_nz0210_01.prog w) A (exec st1 env) (fun fl s₃ => fl = .next ∧ K s₃) (fun _ _ => False) { s with heap := h, toks := tk })
    (turn2 : ∀ (i : Nat) (rc : Int) (t4 tt : Tok) oI (bk₂ : Int) (btk₂ : Tok) (op₂ : Obj) (wc₂ : Int) (t5₂ ta₂ : Tok) (wo₂ : Bool) (ring₂ : Array UInt8) (u₂ : Str → Option Value) (h₂ : Heap) (tk₂ : Nat) (K : Shared → Prop), i < n → (tG w tn tsz made x bk₀ i bk₂ op₂ rc wc₂ wo₂ ring₂) → Fr h₀ L h₂ (tM tn m rc tt wc₂ ta₂ u₂) → News h₀ L h₂ ((I, oI) :: tL w bx cl bv bs bts nb nc tb td tp tsz made j1 j2 j3 u1 u2 x d r k1 k2 k3 k4 k5 k6 k7 v1 v2 rest bk₂ btk₂ op₂ rc t4 wc₂ t5₂ wo₂ ring₂) →
      (∀ (bk : Int) (btk : Tok) (op : Obj) (rc wc : Int) (t4 t5 tt ta : Tok) (wo : Bool) (ring : Array UInt8) (u : Str → Option Value) h tk, tF w tn tsz made x bk₀ (i + 1) bk op rc wc wo ring →
        Fr h₀ L h (tM tn m rc tt wc ta u) → News h₀ L h ((I, oI) :: tL w bx cl bv bs bts nb nc tb td tp tsz made j1 j2 j3 u1 u2 x d r k1 k2 k3 k4 k5 k6 k7 v1 v2 rest bk btk op rc t4 wc t5 wo ring) → K { s with heap := h, toks := tk }) →
      wpC (model PySem.Challenge.rw_nz0210_01.prog w) A (execs rest2 env) (fun fl s₃ => match fl with | .next => K s₃ | .cont => K s₃ | .brk => R (.ok .next) s₃ | .ret v => R (.ok (.ret v)) s₃) (fun _ _ => False) { s with heap := h₂, toks := tk₂ }) :
    codeC (model PySem.Challenge.rw_nz0210_01.prog w) A (.forLoop (.Name "turn" px) (.ref I) (st1 :: rest2) [] env) R s := by
  refine thru_go (bn := bn) (tn := tn) (bk₀ := bk₀) Wk hst hIo hSt hIL hI0 hLf hx hl hp hn hsz hbk F N offI hri hop fun i bk btk op rc wc t4 t5 tt ta wo ring u oI h tk K hi hf F1 N1 next => ?_
  refine execsC (wpC_mono (turn1 i bk btk op rc wc t4 t5 tt ta wo ring u oI h tk (fun s' => ∃ (bk₂ : Int) (btk₂ : Tok) (op₂ : Obj) (wc₂ : Int) (t5₂ ta₂ : Tok) (wo₂ : Bool) (ring₂ : Array UInt8) (u₂ : Str → Option Value) (h₂ : Heap) (tk₂ : Nat), s' = { s with heap := h₂, toks := tk₂ } ∧ (tG w tn tsz made x bk₀ i bk₂ op₂ rc wc₂ wo₂ ring₂) ∧ Fr h₀ L h₂ (tM tn m rc tt wc₂ ta₂ u₂) ∧ News h₀ L h₂ ((I, oI) :: tL w bx cl bv bs bts nb nc tb td tp tsz made j1 j2 j3 u1 u2 x d r k1 k2 k3 k4 k5 k6 k7 v1 v2 rest bk₂ btk₂ op₂ rc t4 wc₂ t5₂ wo₂ ring₂)) hi hf F1 N1
    (fun bk₂ btk₂ op₂ wc₂ t5₂ ta₂ wo₂ ring₂ u₂ h₂ tk₂ hm F2 N2 => ⟨bk₂, btk₂, op₂, wc₂, t5₂, ta₂, wo₂, ring₂, u₂, h₂, tk₂, rfl, hm, F2, N2⟩)) (fun fl s' hk => ?_) fun _ _ x => x)
  obtain ⟨rfl, bk₂, btk₂, op₂, wc₂, t5₂, ta₂, wo₂, ring₂, u₂, h₂, tk₂, rfl, hm, F2, N2⟩ := hk
  exact turn2 i rc t4 tt oI bk₂ btk₂ op₂ wc₂ t5₂ ta₂ wo₂ ring₂ u₂ h₂ tk₂ K hi hm F2 N2 next
set_option maxHeartbeats 4000000 in
theorem thru_in {w : World} {A₀ : Around} {dp un : Nat} {gd : Option (List Code)} {base h₀ : Heap} {outer : List Env} {env : Env} {L : Addr} {m mg mb : Str → Option Value} {s : Shared} {p : Program} {loose : List Str} {mean : ExcName → Option Value}
    {rest : List (Addr × Obj)} {R : Result → Shared → Prop}
    {bx cl : Addr} {bv : List Value} {bn : List Int} {bk bs : Int} {btk bts : Tok} {nb nc : Nat} {tb td tp : Addr} {op : Obj} {tsz made : Int} {j1 j2 j3 u1 u2 : Tok} {tn : List Int} {ttk tmo : Tok} {mo : Int}
    (B : Below A₀ base outer h₀) (F : Fr h₀ L s.heap m) (X : (hd.heap_1 w.params).In h₀)
    (N : News h₀ L s.heap ((bx, W.listOf #[.ref cl, .int (bk) btk, .int bs bts] nb) :: (cl, W.listOf bv.toArray nc) :: (tb, instObj 150 td) :: (td, tdO w tsz (made) j1 j2 j3 u1 u2 tp) :: (tp, op) :: rest)) (T : Top p loose mean mg mb h₀)
    (hf : env.frame = some L) (hke : env.scope.kind = .function) (hdep : dp ≤ 380) (hu : un ≤ 900)
    (hbx_cl : NeA bx cl) (hbx_tb : NeA bx tb) (hbx_td : NeA bx td) (hbx_tp : NeA bx tp) (hcl_tb : NeA cl tb) (hcl_td : NeA cl td) (hcl_tp : NeA cl tp) (htb_td : NeA tb td) (htb_tp : NeA tb tp) (htd_tp : NeA td tp) (hr_bx : ∀ z ∈ rest, z.1 ≠ bx) (hr_cl : ∀ z ∈ rest, z.1 ≠ cl) (hr_tb : ∀ z ∈ rest, z.1 ≠ tb) (hr_td : ∀ z ∈ rest, z.1 ≠ td) (hr_tp : ∀ z ∈ rest, z.1 ≠ tp)
    (hbI : IntsAre bv bn) (hbn : bn.length ≤ 40) (hbk0 : 0 ≤ bk) (hbk1 : bk ≤ 80000) (hbs0 : 0 ≤ bs) (hbs1 : bs < 1009)
    (htp : (tp == sysModules) = false) (hkv : op.IsDictOf (PySem.intKind PySem.Challenge.rw_nz0210_01.prog w) []) (hsz : 1 ≤ tsz) (hsz1 : tsz ≤ 40) (hm0 : 0 ≤ made) (hm1 : made ≤ 100)
    (htn : ∀ n ∈ tn, 0 ≤ n ∧ n < 256) (htl : tn.length ≤ 70) (hmo : mo = 3 ∨ mo = 5)
    (kont : ∀ (bk' : Int) btk' op' u2' tt' h tk, bk ≤ bk' → bk' ≤ bk + 2000 → op'.IsDictOf (PySem.intKind PySem.Challenge.rw_nz0210_01.prog w) [] → Fr h₀ L h m → News h₀ L h ((bx, W.listOf #[.ref cl, .int (bk') btk', .int bs bts] nb) :: (cl, W.listOf bv.toArray nc) :: (tb, instObj 150 td) :: (td, tdO w tsz (made + 1) j1 j2 j3 u1 u2' tp) :: (tp, op') :: rest) → R (.ok (.ret (.bytes (byteArr tn) tt'))) { s with heap := h, toks := tk }) :
    codeC (model PySem.Challenge.rw_nz0210_01.prog w) ⟨none, dp, some (env :: outer), gd, un⟩ (.call (.ref 213) ⟨[.ref bx, .ref tb, .bytes (byteArr tn) ttk, .int mo tmo], []⟩) R s := by
  (refine' code_defClean ?k1 ?k2 ?k3 ?k4 ?k5 ?kA ?kF ?kK ?k6 ?k7 ?k8 ?k9 ?kB ?_ ?c2 ?c3 ?c4 ?c5; (case kA => exact rfl); (case kF => first | exact rfl | assumption); (case kK => first | exact rfl | assumption); (case k1 => k_asm); (case k2 => k_asm); (case k3 => k_asm); (case k4 => k_asm); (case k5 => k_asm); (case k6 => k_is); (case k7 => k_is); (case k8 => k_room); (case k9 => first | exact BindsTo.of_eq rfl | exact binds_K (by k_in) rfl (by k_is) rfl rfl rfl | fail "c_enter: no rule for these arguments"); (case c5 => decide); (case kB => exact locs rfl); (case c2 => exact rfl); (case c3 => exact rfl); (case c4 => exact rfl); k_whole; intro g' L' h' FG' F' N' B' X' T'; (try dsimp only); (try k_lift B'); (try k_fold))
  refine execsC (tupSwapC (tupleC1 (callAttrC ?_)))
  (repeat' (first | (k_unfold; (try dsimp only)) | walk1 | (dsimp only; walk1) | (leave1; (try dsimp only)) | fail "no step"))
  refine' callWithK0 (K := hd.heap_1 w.params) ?X0 ?k0 ?_
  case X0 => exact Frag.In.keeps (by assumption) (Fr.keep (by assumption))
  case k0 => k_is
  dsimp only [List.append_nil, List.singleton_append]
  refine' wpC_call (tmake_in ?B ?F ?X (news_rem3 ?N ?R1 ?R2 ?R3) ?T rfl rfl ?hd ?hu htp ?kl hsz hsz1 hm0 ?hm hkv ?n1 ?n2 ?n3 ?n4 ?n5 ?n6 (fun x d r op' u2' k1 k2 k3 k4 k5 k6 k7 t4 t5 h tk la lb lc ld lxd lxr hkv' F' N' => ?_))
  case B => k_asm
  case F => assumption
  case X => k_asm
  case N => assumption
  case T => k_asm
  case R1 => (focus ((repeat (first | exact Rem.head | apply Rem.tail)); done))
  case R2 => (focus ((repeat (first | exact Rem.head | apply Rem.tail)); done))
  case R3 => (focus ((repeat (first | exact Rem.head | apply Rem.tail)); done))
  case hd => k_room
  case hu => k_units
  case kl => decide
  case hm => omega
  case n1 => (focus ((repeat (first | assumption | (refine off_cons ?_ ?_; (focus walk_at "ne")))); done))
  case n2 => (focus ((repeat (first | assumption | (refine off_cons ?_ ?_; (focus walk_at "ne")))); done))
  case n3 => (focus ((repeat (first | assumption | (refine off_cons ?_ ?_; (focus walk_at "ne")))); done))
  case n4 => walk_at "ne"
  case n5 => walk_at "ne"
  case n6 => walk_at "ne"
  have lbx : @LT.lt Nat _ bx d := la _ (.head _)
  have lcl : @LT.lt Nat _ cl d := la _ (.tail _ (.head _))
  have hr_d : ∀ z ∈ rest, z.1 ≠ d := fun z hz => Nat.ne_of_lt (la z (.tail _ (.tail _ hz)))
  have hr_x : ∀ z ∈ rest, z.1 ≠ x := fun z hz => Nat.ne_of_lt (Nat.lt_trans (la z (.tail _ (.tail _ hz))) lxd)
  have hr_r : ∀ z ∈ rest, z.1 ≠ r := fun z hz => Nat.ne_of_lt (Nat.lt_trans (Nat.lt_trans (la z (.tail _ (.tail _ hz))) lxd) lxr)
  clear la
  have hbx_x : NeA bx x := ⟨by omega⟩
  have hbx_d : NeA bx d := ⟨by omega⟩
  have hbx_r : NeA bx r := ⟨by omega⟩
  have hcl_x : NeA cl x := ⟨by omega⟩
  have hcl_d : NeA cl d := ⟨by omega⟩
  have hcl_r : NeA cl r := ⟨by omega⟩
  have htb_x : NeA tb x := ⟨by omega⟩
  have htb_d : NeA tb d := ⟨by omega⟩
  have htb_r : NeA tb r := ⟨by omega⟩
  have htd_x : NeA td x := ⟨by omega⟩
  have htd_d : NeA td d := ⟨by omega⟩
  have htd_r : NeA td r := ⟨by omega⟩
  have htp_x : NeA tp x := ⟨by omega⟩
  have htp_d : NeA tp d := ⟨by omega⟩
  have htp_r : NeA tp r := ⟨by omega⟩
  have hx_d : NeA x d := ⟨by omega⟩
  have hx_r : NeA x r := ⟨by omega⟩
  have hd_r : NeA d r := ⟨by omega⟩
  dsimp only
  (repeat' (first | (k_unfold; (try dsimp only)) | walk1 | (dsimp only; walk1) | (leave1; (try dsimp only)) | fail "no step"))

  refine execsC (forC ?_)
  (repeat' (first | (k_unfold; (try dsimp only)) | walk1 | (dsimp only; walk1) | (leave1; (try dsimp only)) | fail "no step"))
  have er : ((4 * tn.length + 4 : Nat) : Int) = 4 * (tn.length : Int) + 4 := by push_cast; rfl
  refine' iter_range (n := 4 * tn.length + 4) rfl ?F7 ?N7 ?r7 (by omega) fun I h1 F1 N1 W1 st1 fp1 hIL hI0 off1 => ?_
  case F7 => assumption
  case N7 => assumption
  case r7 => (rw [er]; assumption)
  have hI_bx : NeA I bx := ⟨Ne.symm (off1 (bx, _) (by (focus ((repeat (first | exact List.Mem.head _ | refine List.Mem.tail _ ?_)); done))))⟩
  have hI_cl : NeA I cl := ⟨Ne.symm (off1 (cl, _) (by (focus ((repeat (first | exact List.Mem.head _ | refine List.Mem.tail _ ?_)); done))))⟩
  have hI_tb : NeA I tb := ⟨Ne.symm (off1 (tb, _) (by (focus ((repeat (first | exact List.Mem.head _ | refine List.Mem.tail _ ?_)); done))))⟩
  have hI_td : NeA I td := ⟨Ne.symm (off1 (td, _) (by (focus ((repeat (first | exact List.Mem.head _ | refine List.Mem.tail _ ?_)); done))))⟩
  have hI_tp : NeA I tp := ⟨Ne.symm (off1 (tp, _) (by (focus ((repeat (first | exact List.Mem.head _ | refine List.Mem.tail _ ?_)); done))))⟩
  have hI_x : NeA I x := ⟨Ne.symm (off1 (x, _) (by (focus ((repeat (first | exact List.Mem.head _ | refine List.Mem.tail _ ?_)); done))))⟩
  have hI_d : NeA I d := ⟨Ne.symm (off1 (d, _) (by (focus ((repeat (first | exact List.Mem.head _ | refine List.Mem.tail _ ?_)); done))))⟩
  have hI_r : NeA I r := ⟨Ne.symm (off1 (r, _) (by (focus ((repeat (first | exact List.Mem.head _ | refine List.Mem.tail _ ?_)); done))))⟩
  have hr_I : ∀ z ∈ rest, z.1 ≠ I := fun z hz => off1 z (by repeat (first | exact hz | refine List.Mem.tail _ ?_))
  refine' thru_go2 (rest := rest) (bn := bn) (tn := tn) (bk₀ := bk) W1 st1 (fun _ _ st => ⟨_, st⟩) (fun i h h' o st e e' => range_keep _ h h' o st e e') hIL hI0 ?nf ?kx ?kl ?kp (by omega) hsz ⟨Int.le_refl _, Int.le_refl _⟩ (fr_map F1 (map_end ?m1 ?m2 ?m3)) (news_sub N1 ?nn) ?of (ring_nil ?rs) hkv' ?turn1 ?turn2
  case m1 => rfl
  case m2 => rfl
  case m3 => exact fun _ _ _ _ _ _ => rfl
  case nn => (focus ((repeat (first | with_reducible exact fun _ h => h | exact sub_nil | (refine sub_cons ?_ ?_; (focus (focus ((repeat (first | exact List.Mem.head _ | refine List.Mem.tail _ ?_)); done)))) | refine sub_skip ?_)); done))
  case of => (intro p hp; apply off1; revert p hp; (focus ((repeat (first | with_reducible exact fun _ h => h | exact sub_nil | (refine sub_cons ?_ ?_; (focus (focus ((repeat (first | exact List.Mem.head _ | refine List.Mem.tail _ ?_)); done)))) | refine sub_skip ?_)); done)))
  case nf => (intro hm; exact hIL (List.mem_singleton.mp hm))
  case kx => rfl
  case kl => rfl
  case kp => rfl
  case rs => (rw [Array.size_replicate]; omega)
  case turn1 =>
    intro i bk₁ btk₁ op₁ rc wc t4 t5 tt ta wo ring u oI h tk K hi hf F2 N2 next
    dsimp only [tL, tM] at F2 N2
    obtain ⟨hb1, hb2, hr0, hrw, hwl, hws, hiw, hwo, hri, hop⟩ := hf
    refine ifC ?_
    refine wpC_lift ?_
    (repeat' (first | (k_unfold; (try dsimp only)) | walk1 | (dsimp only; walk1) | (leave1; (try dsimp only)) | fail "no step"))
    · refine execsC_lift ?_
      (repeat' (first | (k_unfold; (try dsimp only)) | walk1 | (dsimp only; walk1) | (leave1; (try dsimp only)) | fail "no step"))
      refine execsC_nil ?_
      rename RingIs _ tsz rc (wc + _) _ => hri2
      rename _ = (if tsz - (wc - rc) < _ then _ else _) => hn1
      rename _ = Nat.cast _ => hn0
      subst hn0
      obtain ⟨g1, g2, g3, g4⟩ := w_step hr0 hrw (by assumption) hws hn1 hri2 (by assumption)
      refine ⟨rfl, ?_⟩
      refine' next _ _ _ _ _ _ wo _ _ _ _ ⟨?a1, ?a2, hr0, ?a4, g3, g4, ?a7, ?a8, ?a9, g1, hop⟩ (fr_map ?Ff (map_end ?e1 ?e2 ?e3)) (news_sub ?Nn ?Ns)
      case Ff => assumption
      case Nn => assumption
      case Ns => (focus ((repeat (first | with_reducible exact fun _ h => h | exact sub_nil | (refine sub_cons ?_ ?_; (focus (focus ((repeat (first | exact List.Mem.head _ | refine List.Mem.tail _ ?_)); done)))) | refine sub_skip ?_)); done))
      case e1 => rfl
      case e2 => rfl
      case e3 => (intro y h1 h2 h3 h4 h5; (try dsimp only [tM]); (try simp only [h1, h2, h3, h4, h5, if_false]); (try rfl))
      case a7 => (revert hiw; generalize (if wo = true then (0 : Int) else 1) = c; intro hiw; omega)
      case a8 => (intro e; have := hwo e; omega)
      case a9 => (intro e; omega)
      all_goals omega
    · refine execsC_lift ?_
      rename News _ _ _ _ => Nz
      dsimp only [pdO] at Nz
      (repeat' (first | (k_unfold; (try dsimp only)) | walk1 | (dsimp only; walk1) | (leave1; (try dsimp only)) | fail "no step"))
      all_goals dsimp only
      all_goals refine execsC_nil ?_
      all_goals refine ⟨rfl, ?_⟩
      · subst_vars
        refine' next _ _ _ _ _ _ false _ _ _ _ ⟨?a1p, ?a2p, hr0, hrw, hwl, ?a6p, ?a7p, ?a8p, (fun _ => rfl), hri, ?opp⟩ (fr_map ?Ffp (map_end ?e1p ?e2p ?e3p)) (news_sub ?Nnp ?Nsp)
        case Ffp => assumption
        case Nnp => assumption
        case Nsp => (focus ((repeat (first | with_reducible exact fun _ h => h | exact sub_nil | (refine sub_cons ?_ ?_; (focus (focus ((repeat (first | exact List.Mem.head _ | refine List.Mem.tail _ ?_)); done)))) | refine sub_skip ?_)); done))
        case e1p => rfl
        case e2p => rfl
        case e3p => (intro y h1 h2 h3 h4 h5; (try dsimp only [tM]); (try simp only [h1, h2, h3, h4, h5, if_false]); (try rfl))
        case a7p => (revert hiw; split <;> intro hiw <;> simp only [Bool.false_eq_true, if_false] <;> omega)
        case a8p => (intro _; omega)
        case opp => assumption
        all_goals first | with_reducible assumption | exact Int.le_refl _ | omega
      · subst_vars
        refine' next _ _ _ _ _ _ false _ _ _ _ ⟨?a1q, ?a2q, hr0, hrw, hwl, ?a6q, ?a7q, ?a8q, (fun _ => rfl), hri, ?opq⟩ (fr_map ?Ffq (map_end ?e1q ?e2q ?e3q)) (news_sub ?Nnq ?Nsq)
        case Ffq => assumption
        case Nnq => assumption
        case Nsq => (focus ((repeat (first | with_reducible exact fun _ h => h | exact sub_nil | (refine sub_cons ?_ ?_; (focus (focus ((repeat (first | exact List.Mem.head _ | refine List.Mem.tail _ ?_)); done)))) | refine sub_skip ?_)); done))
        case e1q => rfl
        case e2q => rfl
        case e3q => (intro y h1 h2 h3 h4 h5; (try dsimp only [tM]); (try simp only [h1, h2, h3, h4, h5, if_false]); (try rfl))
        case a7q => (simp only [Bool.false_eq_true, if_false] at hiw ⊢; omega)
        case a8q => (intro _; omega)
        case opq => exact hop
        all_goals first | with_reducible assumption | exact Int.le_refl _ | omega

  case turn2 =>
    intro i rc t4 tt oI bk₂ btk₂ op₂ wc t5 ta wo ring u h tk K hi hf F2 N2 next
    dsimp only [tL, tM] at F2 N2
    obtain ⟨hb1, hb2, hr0, hrw, hwl, hws, hiw, hwo, hwz, hri, hop⟩ := hf
    refine execsC (tupAssignC (callAttrC ?_))
    (repeat' (first | (k_unfold; (try dsimp only)) | walk1 | (dsimp only; walk1) | (leave1; (try dsimp only)) | fail "no step"))
    refine' callWithK1 (K := hd.heap_1 w.params) ?Xr ?kr ?_
    case Xr => k_asm
    case kr => k_is
    (repeat' (first | (k_unfold; (try dsimp only)) | walk1 | (dsimp only; walk1) | (leave1; (try dsimp only)) | fail "no step"))
    have hql : (((tn.take wc.toNat).drop rc.toNat).length : Int) = wc - rc := hri.1
    refine' wpC_call (pread_in (qn := (tn.take wc.toNat).drop rc.toNat) ?uB ?uF ?uX2 (news_rem3 ?uN ?uR1 ?uR2 ?uR3) ?uT rfl rfl ?uhd ?uhu hsz hsz1 hr0 hrw hws ?uwc (RingIs.size' hri) ?un1 ?un2 ?un3 ?un4 ?un5 ?un6 hri ?uqb ?uc0 ?uc1 (And.intro (fun cc D h tk tka tkb l1 l2 l3 lz F' N' => ?_) (fun cc n t4' D h tk tka tkb hn hri' l1 l2 l3 lz F' N' => ?_)))
    case uB => k_asm
    case uF => k_asm
    case uX2 => k_asm
    case uN => k_asm
    case uT => k_asm
    case uR1 => (focus ((repeat (first | exact Rem.head | apply Rem.tail)); done))
    case uR2 => (focus ((repeat (first | exact Rem.head | apply Rem.tail)); done))
    case uR3 => (focus ((repeat (first | exact Rem.head | apply Rem.tail)); done))
    case uhd => k_room
    case uhu => k_units
    case uwc => first | with_reducible assumption | omega
    case un1 => (focus ((repeat (first | assumption | (refine off_cons ?_ ?_; (focus walk_at "ne")))); done))
    case un2 => (focus ((repeat (first | assumption | (refine off_cons ?_ ?_; (focus walk_at "ne")))); done))
    case un3 => (focus ((repeat (first | assumption | (refine off_cons ?_ ?_; (focus walk_at "ne")))); done))
    case un4 => walk_at "ne"
    case un5 => walk_at "ne"
    case un6 => walk_at "ne"
    case uqb => exact fun n hn => htn n (List.mem_of_mem_take (List.mem_of_mem_drop hn))
    case uc0 => first | with_reducible assumption | omega
    case uc1 => first | with_reducible assumption | omega
    · exact absurd (hwz (by omega)) (by rw [cc.2.2]; decide)
    dsimp only
    (try simp only [AllLt, and_true] at lz)
    (repeat' (first | (k_unfold; (try dsimp only)) | walk1 | (dsimp only; walk1) | (leave1; (try dsimp only)) | fail "no step"))
    dsimp only
    refine execsC_lift ?_
    (repeat' (first | (k_unfold; (try dsimp only)) | walk1 | (dsimp only; walk1) | (leave1; (try dsimp only)) | fail "no step"))
    have hnb : rc + (n : Int) ≤ wc := by split at hn <;> omega
    refine KBy.add_bytes (by rw [byteArr_size, byteArr_size, List.length_take, List.length_take]; omega) ?_
    intro tta kka
    rw [bytes_grow hr0 hnb hwl]
    rw [q_drop hr0] at hri'
    (repeat' (first | (k_unfold; (try dsimp only)) | walk1 | (dsimp only; walk1) | (leave1; (try dsimp only)) | fail "no step"))
    dsimp only
    refine execsC_lift ?_
    (repeat' (first | (k_unfold; (try dsimp only)) | walk1 | (dsimp only; walk1) | (leave1; (try dsimp only)) | fail "no step"))
    · have hn0 := n_zero (n := n) hql (by omega) (by assumption)
      subst hn0
      have hz := hwz (by split at hn <;> omega)
      have hl := hwo hz
      subst hz
      subst_vars
      have e : tn.take (rc + ((0 : Nat) : Int)).toNat = tn := List.take_of_length_le (by split at * <;> omega)
      rw [e]
      refine' kont _ _ _ _ _ _ _ ?x1 ?x2 (dict_of ?x3 wo_one) ?x4 (news_sub ?x5 ?x6)
      case x3 => assumption
      case x4 => assumption
      case x5 => assumption
      case x6 => (focus ((repeat (first | with_reducible exact fun _ h => h | exact sub_nil | (refine sub_cons ?_ ?_; (focus (focus ((repeat (first | exact List.Mem.head _ | refine List.Mem.tail _ ?_)); done)))) | refine sub_skip ?_)); done))
      all_goals omega
    · have hn1 := n_pos (n := n) (by assumption)
      dsimp only
      refine execsC_nil ?_
      refine' next _ _ _ (rc + n) wc _ _ _ _ _ _ _ _ _ ⟨?y1, ?y2, ?y3, hnb, hwl, ?y6, ?y7, hwo, hri', hop⟩ (fr_map ?yF (map_end ?y8 ?y9 ?y10)) (news_sub ?yN ?yS)
      case yF => assumption
      case yN => assumption
      case yS => (focus ((repeat (first | with_reducible exact fun _ h => h | exact sub_nil | (refine sub_cons ?_ ?_; (focus (focus ((repeat (first | exact List.Mem.head _ | refine List.Mem.tail _ ?_)); done)))) | refine sub_skip ?_)); done))
      case y8 => rfl
      case y9 => rfl
      case y10 => (intro y h1 h2 h3 h4 h5; (try dsimp only [tM]); (try simp only [h1, h2, h3, h4, h5, if_false]); (try rfl))
      case y7 => (revert hiw; generalize (if wo = true then (0 : Int) else 1) = c; intro hiw; push_cast; omega)
      all_goals (try push_cast); omega


end

/-! part Badc -/
section
theorem linesBadc : True := by
  k_with_none
  k_with "my k_room" => ((try simp only [depth_under_make, depth_under_kw, depth_in1, depth_deeper, depth_caller]); (try simp only [recursionLimit]); first | decide | exact Nat.le_trans (by with_reducible assumption) (by decide) | exact Nat.le_trans (Nat.add_le_add_right (by with_reducible assumption) _) (by decide) | omega)
  k_with "execs cons" => (k_here; dsimp only; k_gentoks)
  k_with "execs nil" => (k_here; dsimp only; k_gentoks)
  k_with "my k_all" => (with_reducible assumption)
  k_with "my k_ne" => (refine neN ?_; (try dsimp only); first | with_reducible assumption | exact Ne.symm (by with_reducible assumption) | exact NeA.ne (by with_reducible assumption) | exact Ne.symm (NeA.ne (by with_reducible assumption)) | exact Nat.ne_of_lt (by walk_at "pick") | exact Nat.ne_of_gt (by walk_at "pick") | exact Nat.ne_of_gt (Nat.lt_add_one_of_lt (by walk_at "pick")) | exact Nat.ne_of_lt (Nat.lt_add_one_of_lt (by walk_at "pick")) | walk_at "pick" | exact Ne.symm (by walk_at "pick") | omega)
  k_with "my k_units" => ((try simp only [units_under_make, units_in1, units_deeper, Around.mark_units, units_caller]); first | exact Nat.le_trans (Nat.add_le_add_right (by with_reducible assumption) _) (by decide) | exact Nat.le_trans (by with_reducible assumption) (by decide) | exact lt_cline1 (by with_reducible assumption) (by decide) | exact lt_cline2 (by with_reducible assumption) (by decide) | ((have hcL' := cLine_is); omega))
  k_with "subscriptTail Subscript Name Constant Slice ref ref" => (k_here; k_dflt (first | (refine' list_upto (s := ⟨_, _, _, _, _⟩) (by k_asm) (by k_asm) (by k_mem) (by with_reducible assumption) (by omega) (by omega) ?_) | (refine' list_from (s := ⟨_, _, _, _, _⟩) (by k_asm) (by k_asm) (by k_mem) (by with_reducible assumption) (by omega) (by omega) ?_)); intro D' ws' h' F' N' l1 hI'; (try k_lt l1); (try k_sweep))
  k_with "subscriptTail" => (k_here; (with_reducible show wpAny _ _ (subscriptTail _ _ (Value.ref _) (Value.int (Int.fmod _ _) _)) _ _ _); k_dflt (refine' ba_sub (by k_asm) (by k_mem) (by l_fact) (by l_fact) (by omega) ?_ (by with_unfolding_all rfl)))
  k_with "setItem ref int int" => (k_here; k_dflt (refine' ba_set (by k_asm) (by k_asm) (by k_upd) (by l_fact) (by l_fact) (by omega) (by omega) (by omega) ?_); intro h' F' N'; (try k_sweep))
  k_with "call builtin:len" => (k_here; (with_reducible show wpAny _ _ (PySem.call (Value.builtin "len") [Value.ref _]) _ _ _); k_dflt (refine' ba_lenN (by k_asm) (by k_mem) (by omega) ?_))
  k_with "exec For Name Subscript cons nil" => (k_here; refine forA ?_)
  k_with "pyIter bytes" => (k_here; refine KBw.pyIter_bytes ?_)
  k_with "call builtin:len" => (k_here; (with_reducible show wpAny _ _ (PySem.call (Value.builtin "len") [Value.ref _]) _ _ _); k_dflt (refine' list_lenN (by k_asm) (by k_mem) (by with_reducible assumption) (by ((try simp only [List.length_take, List.length_drop]); omega)) ?_))
  k_with "pick" => (focus (apply pickL; (iterate 13 (first | done | with_reducible assumption | apply pickR)); done))
  k_with "ne" => ((try dsimp only); first | assumption | exact Ne.symm (by assumption) | exact NeA.ne (by assumption) | exact Ne.symm (NeA.ne (by assumption)) | exact Nat.ne_of_lt (by walk_at "pick") | exact Nat.ne_of_gt (by walk_at "pick") | exact Nat.ne_of_gt (Nat.lt_add_one_of_lt (by walk_at "pick")) | exact Nat.ne_of_lt (Nat.lt_add_one_of_lt (by walk_at "pick")) | walk_at "pick" | exact Ne.symm (by walk_at "pick") | omega)
  k_with "num" => (first | with_reducible assumption | exact Int.le_add_of_nonneg_right (by decide) | exact nb12 (by with_reducible assumption) (by with_reducible assumption) | (focus ((repeat (first | with_reducible assumption | refine Int.add_nonneg ?_ (by decide))); done)) | exact Int.le_trans (by with_reducible assumption) (by decide) | exact Int.le_trans (Int.add_le_add_right (by with_reducible assumption) _) (by decide) | omega)
  k_with "rem" => (focus ((repeat (first | exact Rem.head | apply Rem.tail)); done))
  k_with "off" => (focus ((repeat (first | assumption | (refine off_cons ?_ ?_; (focus walk_at "ne")))); done))
  k_with "mem" => (focus ((repeat (first | exact List.Mem.head _ | refine List.Mem.tail _ ?_)); done))
  trivial
set_option maxHeartbeats 4000000 in
theorem binit_in {w : World} {A₀ : Around} {dp un : Nat} {gd : Option (List Code)} {base h₀ : Heap} {outer : List Env} {env : Env} {L : Addr} {m mg mb : Str → Option Value} {s : Shared} {p : Program} {loose : List Str} {mean : ExcName → Option Value}
    {rest : List (Addr × Obj)} {R : Result → Shared → Prop}
    {e t : Addr} {x : Str} {tx : Tok}
    (B : Below A₀ base outer h₀) (F : Fr h₀ L s.heap m) (X : (hd.heap_1 w.params).In h₀)
    (N : News h₀ L s.heap ((e, { cls := .ref 45, data := .fields #[.ref t, .none, .none, .none, .bool false, .none] }) :: rest)) (T : Top p loose mean mg mb h₀)
    (hf : env.frame = some L) (hke : env.scope.kind = .function) (hdep : dp ≤ 400) (hu : un ≤ 1000)
    (hre : ∀ z ∈ rest, z.1 ≠ e)
    (kont : ∀ t ob h tk, ob.cls = .ref 45 → ob.data = .fields #[.ref t, .none, .none, .none, .bool false, .none] → Fr h₀ L h m → News h₀ L h ((e, ob) :: (t, { cls := .type "tuple", data := .seq [Value.str x tx].toArray }) :: rest) → (∀ q ∈ rest, q.1 ≠ t) → R (.ok (.ret .none)) { s with heap := h, toks := tk }) :
    codeAny (model PySem.Challenge.rw_nz0210_01.prog w) ⟨none, dp, some (env :: outer), gd, un⟩ (.call (.ref 29) ⟨[.ref e, .str x tx], []⟩) R s := by
  (refine' code_def ?k1 ?k2 ?k3 ?k4 ?k5 ?kA ?kF ?kK ?k6 ?k7 ?k8 ?k9 ?kB ?_ ?c2 ?c3 ?c4 ?c5; (case kA => exact rfl); (case kF => first | exact rfl | assumption); (case kK => first | exact rfl | assumption); (case k1 => k_asm); (case k2 => k_asm); (case k3 => k_asm); (case k4 => k_asm); (case k5 => k_asm); (case k6 => k_is); (case k7 => k_is); (case k8 => k_room); (case k9 => first | exact BindsTo.of_eq rfl | exact binds_K (by k_in) rfl (by k_is) rfl rfl rfl | fail "k_enter: no rule for these arguments"); (case c5 => decide); (case kB => exact locs rfl); (case c2 => exact rfl); (case c3 => exact rfl); (case c4 => exact rfl); k_whole; intro g' L' h' FG' F' N' B' X' T'; (try dsimp only); (try k_lift B'); (try k_fold))
  (repeat' (first | (k_unfold; (try dsimp only)) | walk1 | (dsimp only; walk1) | (leave1; (try dsimp only)) | fail "no step"))
  refine' method_type (K := hd.heap_1 w.params) (v := .builtin "ValueError.__init__") ?F ?X ?t ?s ?e ?h ?_
  case F => k_asm
  case X => k_asm
  case t => first | rfl | kernel_rfl
  case s => decide +kernel
  case e => first | k_is | rfl | decide +kernel
  case h => decide +kernel
  (repeat' (first | (k_unfold; (try dsimp only)) | walk1 | (dsimp only; walk1) | (leave1; (try dsimp only)) | fail "no step"))
  obtain ⟨nm, qn, Nn, bs, bm, hdct, sn, sub, ab, col, dd, k0, k1, k2, k3, k5, hC, hcB, -, -⟩ := bad_cls (C := 45) (T := "ValueError") (newId := "ValueError.__new__") (Frag.In.keeps (by assumption) (Fr.keep (by assumption))) (by first | rfl | decide +kernel)
  refine' exc_init_call PySem.F.excBase_ValueError hC hcB ?F4 ?N4 hre ?r4 (fun t' h4 F4 N4 ot hte => ?_)
  case F4 => assumption
  case N4 => assumption
  case r4 => exact (show 1 ≤ sizeLine by rw [sizeLine_eq]; decide)
  clear hC
  (repeat' (first | (k_unfold; (try dsimp only)) | walk1 | (dsimp only; walk1) | (leave1; (try dsimp only)) | fail "no step"))
  refine' set_first (K := hd.heap_1 w.params) ?X6 ?F6 ?N6 ?o6 ⟨_, rfl⟩ ?c6 ?d6 ?v6 ?s6 ?t6 (fun dx h6 tk6 F6 N6 => ?_)
  case X6 => exact Frag.In.keeps (by assumption) (Fr.keep (by assumption))
  case F6 => assumption
  case N6 => assumption
  case o6 =>
    intro z hz
    rcases List.mem_cons.mp hz with rfl | hz
    · exact hte
    · exact hre z hz
  case c6 => exact rfl
  case d6 => rfl
  case v6 => rfl
  case s6 => k_is
  case t6 => k_is
  (repeat' (first | (k_unfold; (try dsimp only)) | walk1 | (dsimp only; walk1) | (leave1; (try dsimp only)) | fail "no step"))
  refine' kont _ _ _ _ ?c8 ?d8 ?F8 ?N8 ot
  case F8 => assumption
  case N8 => assumption
  case c8 => rfl
  case d8 => rfl
set_option maxHeartbeats 4000000 in
theorem bad_call {w : World} {A₀ : Around} {dp un : Nat} {gd : Option (List Code)} {base h₀ : Heap} {outer : List Env} {env : Env} {L : Addr} {m mg mb : Str → Option Value} {s : Shared} {p : Program} {loose : List Str} {mean : ExcName → Option Value}
    {news : List (Addr × Obj)}  {x : Str} {tx : Tok} {Q : Value → Shared → Prop} {E : Value → Shared → Prop}
    (B : Below A₀ base outer h₀) (F : Fr h₀ L s.heap m) (X : (hd.heap_1 w.params).In h₀) (N : News h₀ L s.heap news) (T : Top p loose mean mg mb h₀) (hf : env.frame = some L) (hke : env.scope.kind = .function) (hdep : dp ≤ 395) (hu : un ≤ 980)
    (kont : ∀ e t ob h' tk, ob.cls = .ref 45 → ob.data = .fields #[.ref t, .none, .none, .none, .bool false, .none] → Fr h₀ L h' m → News h₀ L h' ((e, ob) :: (t, { cls := .type "tuple", data := .seq [Value.str x tx].toArray }) :: news) → (∀ q ∈ news, q.1 ≠ e) → (∀ q ∈ news, q.1 ≠ t) → Q (.ref e) { s with heap := h', toks := tk }) :
    wpAny (model PySem.Challenge.rw_nz0210_01.prog w) ⟨none, dp, some (env :: outer), gd, un⟩ (call (.ref 45) [.str x tx]) Q E s := by
  have KX := X.keeps F.keep
  obtain ⟨nm, qn, Nn, bs, bm, hdct, sn, sub, ab, col, dd, k0, k1, k2, k3, k5, hC, hcB, hcA, hcN⟩ := bad_cls (C := 45) (T := "ValueError") (newId := "ValueError.__new__") KX (by first | rfl | decide +kernel)
  obtain ⟨h, g, d, tk, os⟩ := s
  refine call_exc_own (fI := 29) KX hC PySem.F.excBase_ValueError hcB hcA hcN (by k_is) (by k_is) (show 1 ≤ sizeLine by rw [sizeLine_eq]; decide) fun h' e hm => ?_
  obtain ⟨keeps, new, t, he, htn, ht⟩ := hm
  have none0 : ∀ a, h.get? a = none → h₀.get? a = none := fun a ha => by
    cases q : h₀.get? a with
    | none => rfl
    | some o => have := F.keep _ _ q; rw [ha] at this; cases this
  have F1 : Fr h₀ L h' m := F.keeps keeps
  have oe : ∀ q ∈ news, q.1 ≠ e := fun q hq z => by have := (N q hq).1; rw [z, new] at this; cases this
  have heL : e ≠ L := fun z => by obtain ⟨o, _, _, ho, _⟩ := F.ns; rw [← z, new] at ho; cases ho
  have N1 : News h₀ L h' ((e, { cls := .ref 45, data := .fields #[.ref t, .none, .none, .none, .bool false, .none] }) :: news) := fun q hq => by
    rcases List.mem_cons.mp hq with rfl | hq
    · exact ⟨he, heL, none0 _ new⟩
    · exact ⟨keeps _ _ (N q hq).1, (N q hq).2⟩
  refine wpAny_call ?_
  refine' binit_in B ?F X ?N T hf hke ?hd ?hu oe ?_
  case F => exact F1
  case N => exact N1
  case hd => exact (show dp + 1 ≤ 400 by omega)
  case hu => ((try show (Around.under _ _).units ≤ 1000); (try simp only [units_under_make]); first | omega | exact (show un + 2 ≤ 1000 by omega) | exact (show un + 1 ≤ 1000 by omega) | exact (show un + 5 ≤ 1000 by omega))
  intro t2 ob h2 tk2 hc hdd F2 N2 ot
  exact ⟨rfl, kont e t2 ob h2 tk2 hc hdd F2 N2 oe ot⟩

end

/-! part LawW -/
section
theorem linesLawW : True := by
  k_with_none
  k_with "my k_room" => ((try simp only [depth_under_make, depth_under_kw, depth_in1, depth_deeper, depth_caller]); (try simp only [recursionLimit]); first | decide | exact Nat.le_trans (by with_reducible assumption) (by decide) | exact Nat.le_trans (Nat.add_le_add_right (by with_reducible assumption) _) (by decide) | omega)
  k_with "execs cons" => (k_here; dsimp only; k_gentoks)
  k_with "execs nil" => (k_here; dsimp only; k_gentoks)
  k_with "my k_all" => (with_reducible assumption)
  k_with "my k_ne" => (refine neN ?_; (try dsimp only); first | with_reducible assumption | exact Ne.symm (by with_reducible assumption) | exact NeA.ne (by with_reducible assumption) | exact Ne.symm (NeA.ne (by with_reducible assumption)) | exact Nat.ne_of_lt (by walk_at "pick") | exact Nat.ne_of_gt (by walk_at "pick") | exact Nat.ne_of_gt (Nat.lt_add_one_of_lt (by walk_at "pick")) | exact Nat.ne_of_lt (Nat.lt_add_one_of_lt (by walk_at "pick")) | walk_at "pick" | exact Ne.symm (by walk_at "pick") | omega)
  k_with "my k_units" => ((try simp only [units_under_make, units_in1, units_deeper, Around.mark_units, units_caller]); first | exact Nat.le_trans (Nat.add_le_add_right (by with_reducible assumption) _) (by decide) | exact Nat.le_trans (by with_reducible assumption) (by decide) | exact lt_cline1 (by with_reducible assumption) (by decide) | exact lt_cline2 (by with_reducible assumption) (by decide) | ((have hcL' := cLine_is); omega))
  k_with "subscriptTail Subscript Name Constant Slice ref ref" => (k_here; k_dflt (first | (refine' list_upto (s := ⟨_, _, _, _, _⟩) (by k_asm) (by k_asm) (by k_mem) (by with_reducible assumption) (by omega) (by omega) ?_) | (refine' list_from (s := ⟨_, _, _, _, _⟩) (by k_asm) (by k_asm) (by k_mem) (by with_reducible assumption) (by omega) (by omega) ?_)); intro D' ws' h' F' N' l1 hI'; (try k_lt l1); (try k_sweep))
  k_with "subscriptTail" => (k_here; (with_reducible show wpAny _ _ (subscriptTail _ _ (Value.ref _) (Value.int (Int.fmod _ _) _)) _ _ _); k_dflt (refine' ba_sub (by k_asm) (by k_mem) (by l_fact) (by l_fact) (by omega) ?_ (by with_unfolding_all rfl)))
  k_with "setItem ref int int" => (k_here; k_dflt (refine' ba_set (by k_asm) (by k_asm) (by k_upd) (by l_fact) (by l_fact) (by omega) (by omega) (by omega) ?_); intro h' F' N'; (try k_sweep))
  k_with "call builtin:len" => (k_here; (with_reducible show wpAny _ _ (PySem.call (Value.builtin "len") [Value.ref _]) _ _ _); k_dflt (refine' ba_lenN (by k_asm) (by k_mem) (by omega) ?_))
  k_with "exec For Name Subscript cons nil" => (k_here; refine forA ?_)
  k_with "pyIter bytes" => (k_here; refine KBw.pyIter_bytes ?_)
  k_with "call builtin:len" => (k_here; (with_reducible show wpAny _ _ (PySem.call (Value.builtin "len") [Value.ref _]) _ _ _); k_dflt (refine' list_lenN (by k_asm) (by k_mem) (by with_reducible assumption) (by ((try simp only [List.length_take, List.length_drop]); omega)) ?_))
  k_with "pick" => (focus (apply pickL; (iterate 13 (first | done | with_reducible assumption | apply pickR)); done))
  k_with "ne" => ((try dsimp only); first | assumption | exact Ne.symm (by assumption) | exact NeA.ne (by assumption) | exact Ne.symm (NeA.ne (by assumption)) | exact Nat.ne_of_lt (by walk_at "pick") | exact Nat.ne_of_gt (by walk_at "pick") | exact Nat.ne_of_gt (Nat.lt_add_one_of_lt (by walk_at "pick")) | exact Nat.ne_of_lt (Nat.lt_add_one_of_lt (by walk_at "pick")) | walk_at "pick" | exact Ne.symm (by walk_at "pick") | omega)
  k_with "num" => (first | with_reducible assumption | exact Int.le_add_of_nonneg_right (by decide) | exact nb12 (by with_reducible assumption) (by with_reducible assumption) | (focus ((repeat (first | with_reducible assumption | refine Int.add_nonneg ?_ (by decide))); done)) | exact Int.le_trans (by with_reducible assumption) (by decide) | exact Int.le_trans (Int.add_le_add_right (by with_reducible assumption) _) (by decide) | omega)
  k_with "rem" => (focus ((repeat (first | exact Rem.head | apply Rem.tail)); done))
  k_with "off" => (focus ((repeat (first | assumption | (refine off_cons ?_ ?_; (focus walk_at "ne")))); done))
  k_with "mem" => (focus ((repeat (first | exact List.Mem.head _ | refine List.Mem.tail _ ?_)); done))
  trivial
set_option maxHeartbeats 4000000 in
theorem deed_w {w : World} {A₀ : Around} {dp un : Nat} {gd : Option (List Code)} {base h₀ : Heap} {outer : List Env} {env : Env} {L : Addr} {m mg mb : Str → Option Value} {s : Shared} {p : Program} {loose : List Str} {mean : ExcName → Option Value}
    {rest : List (Addr × Obj)} {R : Result → Shared → Prop}
    {bx cl : Addr} {bv : List Value} {bn : List Int} {bk bs : Int} {btk bts : Tok} {nb nc : Nat} {tb td tp : Addr} {op : Obj} {kvs : List (Int × Value)} {tsz made : Int} {j1 j2 j3 u1 u2 : Tok} {od q : Addr} {oo : Obj} {tz : Tok} {qv : List Value} {qn : List Int} {nq : Nat} {x d r : Addr} {id sz rc wc : Int} {ro wo : Bool} {ring : Array UInt8} {k1 k2 k3 k4 k5 k6 k7 t1 t2 t4 t5 : Tok} {cn : Addr} {c0 : Int} {tc0 : Tok} {sh : Bool} {ncn : Nat}
    (B : Below A₀ base outer h₀) (F : Fr h₀ L s.heap m) (X : (hd.heap_1 w.params).In h₀)
    (N : News h₀ L s.heap ((bx, W.listOf #[.ref cl, .int (bk) btk, .int bs bts] nb) :: (cl, W.listOf bv.toArray nc) :: (tb, instObj 150 td) :: (td, tdO w tsz made j1 j2 j3 u1 u2 tp) :: (tp, op) :: (od, oo) :: (q, W.listOf qv.toArray nq) :: (x, instObj 107 d) :: (d, pdO w id sz r k1 k2 k3 k4 k5 k6 k7 t1 t2 (.int rc t4) (.int wc t5) ro wo) :: (r, baOf ring) :: (cn, W.listOf #[.int (c0) tc0, .bool sh] ncn) :: rest)) (T : Top p loose mean mg mb h₀)
    (hf : env.frame = some L) (hke : env.scope.kind = .function) (hdep : dp ≤ 380) (hu : un ≤ 900)
    (AD : List.Pairwise (fun a b : Addr × Obj => b.1 ≠ a.1) ((bx, W.listOf #[.ref cl, .int (bk) btk, .int bs bts] nb) :: (cl, W.listOf bv.toArray nc) :: (tb, instObj 150 td) :: (td, tdO w tsz made j1 j2 j3 u1 u2 tp) :: (tp, op) :: (od, oo) :: (q, W.listOf qv.toArray nq) :: (x, instObj 107 d) :: (d, pdO w id sz r k1 k2 k3 k4 k5 k6 k7 t1 t2 (.int rc t4) (.int wc t5) ro wo) :: (r, baOf ring) :: (cn, W.listOf #[.int (c0) tc0, .bool sh] ncn) :: rest)) (hbI : IntsAre bv bn) (hbn : bn.length ≤ 40) (hbk0 : 0 ≤ bk) (hbk1 : bk ≤ 80000) (hbs0 : 0 ≤ bs) (hbs1 : bs < 1009)
    (htp : (tp == sysModules) = false) (hkl : kvs.length ≤ 1000) (hkv : op.IsDictOf (PySem.intKind PySem.Challenge.rw_nz0210_01.prog w) kvs)
    (hD : oo.IsDictOf (PySem.strKind PySem.Challenge.rw_nz0210_01.prog w) [(Str.ofString "size", .int sz tz), (Str.ofString "queue", .ref q), (Str.ofString "reads", .bool ro), (Str.ofString "writes", .bool wo)]) (hsys : (od == sysModules) = false) (hI : IntsAre qv qn) (hqb : ∀ n ∈ qn, 0 ≤ n ∧ n < 256) (hsz : 1 ≤ sz) (hsz1 : sz ≤ 40)
    (hr0 : 0 ≤ rc) (hrw : rc ≤ wc) (hws : wc - rc ≤ sz) (hwc : wc ≤ 100000) (hri : RingIs ring sz rc wc qn) (hc0 : 0 ≤ c0) (hc1 : c0 ≤ 100000)
    (kont : ∀ (bk' : Int) btk' kvs' op' oo' q' qv' qn' nq' (rc' wc' : Int) ro' wo' ring' t4' t5' (c0' : Int) tc0' h tk, bk ≤ bk' → bk' ≤ bk + 4 → (kvs' = kvs ∨ kvs' = without kvs id) → op'.IsDictOf (PySem.intKind PySem.Challenge.rw_nz0210_01.prog w) kvs' → oo'.IsDictOf (PySem.strKind PySem.Challenge.rw_nz0210_01.prog w) [(Str.ofString "size", .int sz tz), (Str.ofString "queue", .ref q'), (Str.ofString "reads", .bool ro'), (Str.ofString "writes", .bool wo')] →
      IntsAre qv' qn' → (∀ n ∈ qn', 0 ≤ n ∧ n < 256) → 0 ≤ rc' → rc' ≤ wc' → wc' - rc' ≤ sz → wc' ≤ wc + 64 → RingIs ring' sz rc' wc' qn' → 0 ≤ c0' → c0' ≤ c0 + 64 → Fr h₀ L h m →
      News h₀ L h ((bx, W.listOf #[.ref cl, .int (bk') btk', .int bs bts] nb) :: (cl, W.listOf bv.toArray nc) :: (tb, instObj 150 td) :: (td, tdO w tsz made j1 j2 j3 u1 u2 tp) :: (tp, op') :: (od, oo') :: (q', W.listOf (List.toArray qv') nq') :: (x, instObj 107 d) :: (d, pdO w id sz r k1 k2 k3 k4 k5 k6 k7 t1 t2 (.int rc' t4') (.int wc' t5') ro' wo') :: (r, baOf ring') :: (cn, W.listOf #[.int (c0') tc0', .bool sh] ncn) :: rest) → List.Pairwise (fun a b : Addr × Obj => b.1 ≠ a.1) ((bx, W.listOf #[.ref cl, .int (bk') btk', .int bs bts] nb) :: (cl, W.listOf bv.toArray nc) :: (tb, instObj 150 td) :: (td, tdO w tsz made j1 j2 j3 u1 u2 tp) :: (tp, op') :: (od, oo') :: (q', W.listOf (List.toArray qv') nq') :: (x, instObj 107 d) :: (d, pdO w id sz r k1 k2 k3 k4 k5 k6 k7 t1 t2 (.int rc' t4') (.int wc' t5') ro' wo') :: (r, baOf ring') :: (cn, W.listOf #[.int (c0') tc0', .bool sh] ncn) :: rest) → R (.ok (.ret (.bool true))) { s with heap := h, toks := tk }) :
    codeC (model PySem.Challenge.rw_nz0210_01.prog w) ⟨none, dp, some (env :: outer), gd, un⟩ (.call (.ref 201) ⟨[.ref bx, .ref tb, .ref od, .ref x, .ref cn], []⟩) R s := by
  have AD' := AD
  simp only [List.pairwise_cons] at AD'
  obtain ⟨pbx, pcl, ptb, ptd, ptp, pod, pq, px, pd, pr, pcn, pz⟩ := AD'
  have gbx_cl : NeA bx cl := ⟨Ne.symm (pbx (cl, _) (by (focus ((repeat (first | exact List.Mem.head _ | refine List.Mem.tail _ ?_)); done))))⟩
  have gbx_tb : NeA bx tb := ⟨Ne.symm (pbx (tb, _) (by (focus ((repeat (first | exact List.Mem.head _ | refine List.Mem.tail _ ?_)); done))))⟩
  have gbx_td : NeA bx td := ⟨Ne.symm (pbx (td, _) (by (focus ((repeat (first | exact List.Mem.head _ | refine List.Mem.tail _ ?_)); done))))⟩
  have gbx_tp : NeA bx tp := ⟨Ne.symm (pbx (tp, _) (by (focus ((repeat (first | exact List.Mem.head _ | refine List.Mem.tail _ ?_)); done))))⟩
  have gbx_od : NeA bx od := ⟨Ne.symm (pbx (od, _) (by (focus ((repeat (first | exact List.Mem.head _ | refine List.Mem.tail _ ?_)); done))))⟩
  have gbx_q : NeA bx q := ⟨Ne.symm (pbx (q, _) (by (focus ((repeat (first | exact List.Mem.head _ | refine List.Mem.tail _ ?_)); done))))⟩
  have gbx_x : NeA bx x := ⟨Ne.symm (pbx (x, _) (by (focus ((repeat (first | exact List.Mem.head _ | refine List.Mem.tail _ ?_)); done))))⟩
  have gbx_d : NeA bx d := ⟨Ne.symm (pbx (d, _) (by (focus ((repeat (first | exact List.Mem.head _ | refine List.Mem.tail _ ?_)); done))))⟩
  have gbx_r : NeA bx r := ⟨Ne.symm (pbx (r, _) (by (focus ((repeat (first | exact List.Mem.head _ | refine List.Mem.tail _ ?_)); done))))⟩
  have gbx_cn : NeA bx cn := ⟨Ne.symm (pbx (cn, _) (by (focus ((repeat (first | exact List.Mem.head _ | refine List.Mem.tail _ ?_)); done))))⟩
  have gcl_tb : NeA cl tb := ⟨Ne.symm (pcl (tb, _) (by (focus ((repeat (first | exact List.Mem.head _ | refine List.Mem.tail _ ?_)); done))))⟩
  have gcl_td : NeA cl td := ⟨Ne.symm (pcl (td, _) (by (focus ((repeat (first | exact List.Mem.head _ | refine List.Mem.tail _ ?_)); done))))⟩
  have gcl_tp : NeA cl tp := ⟨Ne.symm (pcl (tp, _) (by (focus ((repeat (first | exact List.Mem.head _ | refine List.Mem.tail _ ?_)); done))))⟩
  have gcl_od : NeA cl od := ⟨Ne.symm (pcl (od, _) (by (focus ((repeat (first | exact List.Mem.head _ | refine List.Mem.tail _ ?_)); done))))⟩
  have gcl_q : NeA cl q := ⟨Ne.symm (pcl (q, _) (by (focus ((repeat (first | exact List.Mem.head _ | refine List.Mem.tail _ ?_)); done))))⟩
  have gcl_x : NeA cl x := ⟨Ne.symm (pcl (x, _) (by (focus ((repeat (first | exact List.Mem.head _ | refine List.Mem.tail _ ?_)); done))))⟩
  have gcl_d : NeA cl d := ⟨Ne.symm (pcl (d, _) (by (focus ((repeat (first | exact List.Mem.head _ | refine List.Mem.tail _ ?_)); done))))⟩
  have gcl_r : NeA cl r := ⟨Ne.symm (pcl (r, _) (by (focus ((repeat (first | exact List.Mem.head _ | refine List.Mem.tail _ ?_)); done))))⟩
  have gcl_cn : NeA cl cn := ⟨Ne.symm (pcl (cn, _) (by (focus ((repeat (first | exact List.Mem.head _ | refine List.Mem.tail _ ?_)); done))))⟩
  have gtb_td : NeA tb td := ⟨Ne.symm (ptb (td, _) (by (focus ((repeat (first | exact List.Mem.head _ | refine List.Mem.tail _ ?_)); done))))⟩
  have gtb_tp : NeA tb tp := ⟨Ne.symm (ptb (tp, _) (by (focus ((repeat (first | exact List.Mem.head _ | refine List.Mem.tail _ ?_)); done))))⟩
  have gtb_od : NeA tb od := ⟨Ne.symm (ptb (od, _) (by (focus ((repeat (first | exact List.Mem.head _ | refine List.Mem.tail _ ?_)); done))))⟩
  have gtb_q : NeA tb q := ⟨Ne.symm (ptb (q, _) (by (focus ((repeat (first | exact List.Mem.head _ | refine List.Mem.tail _ ?_)); done))))⟩
  have gtb_x : NeA tb x := ⟨Ne.symm (ptb (x, _) (by (focus ((repeat (first | exact List.Mem.head _ | refine List.Mem.tail _ ?_)); done))))⟩
  have gtb_d : NeA tb d := ⟨Ne.symm (ptb (d, _) (by (focus ((repeat (first | exact List.Mem.head _ | refine List.Mem.tail _ ?_)); done))))⟩
  have gtb_r : NeA tb r := ⟨Ne.symm (ptb (r, _) (by (focus ((repeat (first | exact List.Mem.head _ | refine List.Mem.tail _ ?_)); done))))⟩
  have gtb_cn : NeA tb cn := ⟨Ne.symm (ptb (cn, _) (by (focus ((repeat (first | exact List.Mem.head _ | refine List.Mem.tail _ ?_)); done))))⟩
  have gtd_tp : NeA td tp := ⟨Ne.symm (ptd (tp, _) (by (focus ((repeat (first | exact List.Mem.head _ | refine List.Mem.tail _ ?_)); done))))⟩
  have gtd_od : NeA td od := ⟨Ne.symm (ptd (od, _) (by (focus ((repeat (first | exact List.Mem.head _ | refine List.Mem.tail _ ?_)); done))))⟩
  have gtd_q : NeA td q := ⟨Ne.symm (ptd (q, _) (by (focus ((repeat (first | exact List.Mem.head _ | refine List.Mem.tail _ ?_)); done))))⟩
  have gtd_x : NeA td x := ⟨Ne.symm (ptd (x, _) (by (focus ((repeat (first | exact List.Mem.head _ | refine List.Mem.tail _ ?_)); done))))⟩
  have gtd_d : NeA td d := ⟨Ne.symm (ptd (d, _) (by (focus ((repeat (first | exact List.Mem.head _ | refine List.Mem.tail _ ?_)); done))))⟩
  have gtd_r : NeA td r := ⟨Ne.symm (ptd (r, _) (by (focus ((repeat (first | exact List.Mem.head _ | refine List.Mem.tail _ ?_)); done))))⟩
  have gtd_cn : NeA td cn := ⟨Ne.symm (ptd (cn, _) (by (focus ((repeat (first | exact List.Mem.head _ | refine List.Mem.tail _ ?_)); done))))⟩
  have gtp_od : NeA tp od := ⟨Ne.symm (ptp (od, _) (by (focus ((repeat (first | exact List.Mem.head _ | refine List.Mem.tail _ ?_)); done))))⟩
  have gtp_q : NeA tp q := ⟨Ne.symm (ptp (q, _) (by (focus ((repeat (first | exact List.Mem.head _ | refine List.Mem.tail _ ?_)); done))))⟩
  have gtp_x : NeA tp x := ⟨Ne.symm (ptp (x, _) (by (focus ((repeat (first | exact List.Mem.head _ | refine List.Mem.tail _ ?_)); done))))⟩
  have gtp_d : NeA tp d := ⟨Ne.symm (ptp (d, _) (by (focus ((repeat (first | exact List.Mem.head _ | refine List.Mem.tail _ ?_)); done))))⟩
  have gtp_r : NeA tp r := ⟨Ne.symm (ptp (r, _) (by (focus ((repeat (first | exact List.Mem.head _ | refine List.Mem.tail _ ?_)); done))))⟩
  have gtp_cn : NeA tp cn := ⟨Ne.symm (ptp (cn, _) (by (focus ((repeat (first | exact List.Mem.head _ | refine List.Mem.tail _ ?_)); done))))⟩
  have god_q : NeA od q := ⟨Ne.symm (pod (q, _) (by (focus ((repeat (first | exact List.Mem.head _ | refine List.Mem.tail _ ?_)); done))))⟩
  have god_x : NeA od x := ⟨Ne.symm (pod (x, _) (by (focus ((repeat (first | exact List.Mem.head _ | refine List.Mem.tail _ ?_)); done))))⟩
  have god_d : NeA od d := ⟨Ne.symm (pod (d, _) (by (focus ((repeat (first | exact List.Mem.head _ | refine List.Mem.tail _ ?_)); done))))⟩
  have god_r : NeA od r := ⟨Ne.symm (pod (r, _) (by (focus ((repeat (first | exact List.Mem.head _ | refine List.Mem.tail _ ?_)); done))))⟩
  have god_cn : NeA od cn := ⟨Ne.symm (pod (cn, _) (by (focus ((repeat (first | exact List.Mem.head _ | refine List.Mem.tail _ ?_)); done))))⟩
  have gq_x : NeA q x := ⟨Ne.symm (pq (x, _) (by (focus ((repeat (first | exact List.Mem.head _ | refine List.Mem.tail _ ?_)); done))))⟩
  have gq_d : NeA q d := ⟨Ne.symm (pq (d, _) (by (focus ((repeat (first | exact List.Mem.head _ | refine List.Mem.tail _ ?_)); done))))⟩
  have gq_r : NeA q r := ⟨Ne.symm (pq (r, _) (by (focus ((repeat (first | exact List.Mem.head _ | refine List.Mem.tail _ ?_)); done))))⟩
  have gq_cn : NeA q cn := ⟨Ne.symm (pq (cn, _) (by (focus ((repeat (first | exact List.Mem.head _ | refine List.Mem.tail _ ?_)); done))))⟩
  have gx_d : NeA x d := ⟨Ne.symm (px (d, _) (by (focus ((repeat (first | exact List.Mem.head _ | refine List.Mem.tail _ ?_)); done))))⟩
  have gx_r : NeA x r := ⟨Ne.symm (px (r, _) (by (focus ((repeat (first | exact List.Mem.head _ | refine List.Mem.tail _ ?_)); done))))⟩
  have gx_cn : NeA x cn := ⟨Ne.symm (px (cn, _) (by (focus ((repeat (first | exact List.Mem.head _ | refine List.Mem.tail _ ?_)); done))))⟩
  have gd_r : NeA d r := ⟨Ne.symm (pd (r, _) (by (focus ((repeat (first | exact List.Mem.head _ | refine List.Mem.tail _ ?_)); done))))⟩
  have gd_cn : NeA d cn := ⟨Ne.symm (pd (cn, _) (by (focus ((repeat (first | exact List.Mem.head _ | refine List.Mem.tail _ ?_)); done))))⟩
  have gr_cn : NeA r cn := ⟨Ne.symm (pr (cn, _) (by (focus ((repeat (first | exact List.Mem.head _ | refine List.Mem.tail _ ?_)); done))))⟩
  have e_bx : ∀ z ∈ rest, z.1 ≠ bx := fun z hz => pbx z (by repeat (first | exact hz | refine List.Mem.tail _ ?_))
  have e_cl : ∀ z ∈ rest, z.1 ≠ cl := fun z hz => pcl z (by repeat (first | exact hz | refine List.Mem.tail _ ?_))
  have e_tb : ∀ z ∈ rest, z.1 ≠ tb := fun z hz => ptb z (by repeat (first | exact hz | refine List.Mem.tail _ ?_))
  have e_td : ∀ z ∈ rest, z.1 ≠ td := fun z hz => ptd z (by repeat (first | exact hz | refine List.Mem.tail _ ?_))
  have e_tp : ∀ z ∈ rest, z.1 ≠ tp := fun z hz => ptp z (by repeat (first | exact hz | refine List.Mem.tail _ ?_))
  have e_od : ∀ z ∈ rest, z.1 ≠ od := fun z hz => pod z (by repeat (first | exact hz | refine List.Mem.tail _ ?_))
  have e_q : ∀ z ∈ rest, z.1 ≠ q := fun z hz => pq z (by repeat (first | exact hz | refine List.Mem.tail _ ?_))
  have e_x : ∀ z ∈ rest, z.1 ≠ x := fun z hz => px z (by repeat (first | exact hz | refine List.Mem.tail _ ?_))
  have e_d : ∀ z ∈ rest, z.1 ≠ d := fun z hz => pd z (by repeat (first | exact hz | refine List.Mem.tail _ ?_))
  have e_r : ∀ z ∈ rest, z.1 ≠ r := fun z hz => pr z (by repeat (first | exact hz | refine List.Mem.tail _ ?_))
  have e_cn : ∀ z ∈ rest, z.1 ≠ cn := fun z hz => pcn z (by repeat (first | exact hz | refine List.Mem.tail _ ?_))
  refine' deed_in (nb := nb) (nc := nc) (ncn := ncn) (kvs := kvs) (q := q) (nq := nq) B F X N T hf hke hdep hu gbx_cl gbx_tb gbx_td gbx_tp gbx_od gbx_q gbx_x gbx_d gbx_r gbx_cn gcl_tb gcl_td gcl_tp gcl_od gcl_q gcl_x gcl_d gcl_r gcl_cn gtb_td gtb_tp gtb_od gtb_q gtb_x gtb_d gtb_r gtb_cn gtd_tp gtd_od gtd_q gtd_x gtd_d gtd_r gtd_cn gtp_od gtp_q gtp_x gtp_d gtp_r gtp_cn god_q god_x god_d god_r god_cn gq_x gq_d gq_r gq_cn gx_d gx_r gx_cn gd_r gd_cn gr_cn e_bx e_cl e_tb e_td e_tp e_od e_q e_x e_d e_r e_cn hbI hbn hbk0 hbk1 hbs0 hbs1 htp hkl hkv hD hsys hI hqb hsz hsz1 hr0 hrw hws hwc hri hc0 hc1 ?_
  intro bk' btk' kvs' op' oo' q' qv' qn' nq' rc' wc' ro' wo' ring' t4' t5' c0' tc0' h tk a1 a2 a3 a4 a5 a6 a7 a8 a9 a10 a11 a12 a13 a14 nbx ncl ntb ntd ntp nod nx nd nr ncn nz F' N'
  refine kont bk' btk' kvs' op' oo' q' qv' qn' nq' rc' wc' ro' wo' ring' t4' t5' c0' tc0' h tk a1 a2 a3 a4 a5 a6 a7 a8 a9 a10 a11 a12 a13 a14 F' N' ?_
  simp only [List.pairwise_cons]
  refine ⟨?_, ?_, ?_, ?_, ?_, ?_, ?_, ?_, ?_, ?_, ?_, pz⟩
  all_goals (focus ((repeat (first | assumption | (refine off_cons ?_ ?_; (focus ((try dsimp only); first | assumption | exact Ne.symm (by assumption) | exact NeA.ne (by assumption) | exact Ne.symm (NeA.ne (by assumption))))))); done))
set_option maxHeartbeats 4000000 in
theorem alike_w {w : World} {A₀ : Around} {dp un : Nat} {gd : Option (List Code)} {base h₀ : Heap} {outer : List Env} {env : Env} {L : Addr} {m mg mb : Str → Option Value} {s : Shared} {p : Program} {loose : List Str} {mean : ExcName → Option Value}
    {rest : List (Addr × Obj)} {R : Result → Shared → Prop}
    {bx cl : Addr} {bv : List Value} {bn : List Int} {bk bs : Int} {btk bts : Tok} {nb nc : Nat} {tb td tp : Addr} {op : Obj} {kvs : List (Int × Value)} {tsz made : Int} {j1 j2 j3 u1 u2 : Tok} {od q : Addr} {oo : Obj} {tz : Tok} {qv : List Value} {qn : List Int} {nq : Nat} {x d r : Addr} {id sz rc wc : Int} {ro wo : Bool} {ring : Array UInt8} {k1 k2 k3 k4 k5 k6 k7 t1 t2 t4 t5 : Tok} {cn : Addr} {c0 : Int} {tc0 : Tok} {sh : Bool} {ncn : Nat}
    (B : Below A₀ base outer h₀) (F : Fr h₀ L s.heap m) (X : (hd.heap_1 w.params).In h₀)
    (N : News h₀ L s.heap ((bx, W.listOf #[.ref cl, .int (bk) btk, .int bs bts] nb) :: (cl, W.listOf bv.toArray nc) :: (tb, instObj 150 td) :: (td, tdO w tsz made j1 j2 j3 u1 u2 tp) :: (tp, op) :: (od, oo) :: (q, W.listOf qv.toArray nq) :: (x, instObj 107 d) :: (d, pdO w id sz r k1 k2 k3 k4 k5 k6 k7 t1 t2 (.int rc t4) (.int wc t5) ro wo) :: (r, baOf ring) :: (cn, W.listOf #[.int (c0) tc0, .bool sh] ncn) :: rest)) (T : Top p loose mean mg mb h₀)
    (hf : env.frame = some L) (hke : env.scope.kind = .function) (hdep : dp ≤ 380) (hu : un ≤ 900)
    (AD : List.Pairwise (fun a b : Addr × Obj => b.1 ≠ a.1) ((bx, W.listOf #[.ref cl, .int (bk) btk, .int bs bts] nb) :: (cl, W.listOf bv.toArray nc) :: (tb, instObj 150 td) :: (td, tdO w tsz made j1 j2 j3 u1 u2 tp) :: (tp, op) :: (od, oo) :: (q, W.listOf qv.toArray nq) :: (x, instObj 107 d) :: (d, pdO w id sz r k1 k2 k3 k4 k5 k6 k7 t1 t2 (.int rc t4) (.int wc t5) ro wo) :: (r, baOf ring) :: (cn, W.listOf #[.int (c0) tc0, .bool sh] ncn) :: rest)) 
    (htp : (tp == sysModules) = false) (hkl : kvs.length ≤ 1000) (hkv : op.IsDictOf (PySem.intKind PySem.Challenge.rw_nz0210_01.prog w) kvs)
    (hD : oo.IsDictOf (PySem.strKind PySem.Challenge.rw_nz0210_01.prog w) [(Str.ofString "size", .int sz tz), (Str.ofString "queue", .ref q), (Str.ofString "reads", .bool ro), (Str.ofString "writes", .bool wo)]) (hsys : (od == sysModules) = false) (hI : IntsAre qv qn) (hqb : ∀ n ∈ qn, 0 ≤ n ∧ n < 256) (hsz : 1 ≤ sz) (hsz1 : sz ≤ 40)
    (hr0 : 0 ≤ rc) (hrw : rc ≤ wc) (hws : wc - rc ≤ sz) (hwc : wc ≤ 100000) (hri : RingIs ring sz rc wc qn) 
    (kont : ∀ h tk, Fr h₀ L h m → News h₀ L h ((bx, W.listOf #[.ref cl, .int (bk) btk, .int bs bts] nb) :: (cl, W.listOf bv.toArray nc) :: (tb, instObj 150 td) :: (td, tdO w tsz made j1 j2 j3 u1 u2 tp) :: (tp, op) :: (od, oo) :: (q, W.listOf qv.toArray nq) :: (x, instObj 107 d) :: (d, pdO w id sz r k1 k2 k3 k4 k5 k6 k7 t1 t2 (.int rc t4) (.int wc t5) ro wo) :: (r, baOf ring) :: (cn, W.listOf #[.int (c0) tc0, .bool sh] ncn) :: rest) → R (.ok (.ret (.bool true))) { s with heap := h, toks := tk }) :
    codeAny (model PySem.Challenge.rw_nz0210_01.prog w) ⟨none, dp, some (env :: outer), gd, un⟩ (.call (.ref 189) ⟨[.ref od, .ref x], []⟩) R s := by
  have AD' := AD
  simp only [List.pairwise_cons] at AD'
  obtain ⟨pbx, pcl, ptb, ptd, ptp, pod, pq, px, pd, pr, pcn, pz⟩ := AD'
  have gbx_cl : NeA bx cl := ⟨Ne.symm (pbx (cl, _) (by (focus ((repeat (first | exact List.Mem.head _ | refine List.Mem.tail _ ?_)); done))))⟩
  have gbx_tb : NeA bx tb := ⟨Ne.symm (pbx (tb, _) (by (focus ((repeat (first | exact List.Mem.head _ | refine List.Mem.tail _ ?_)); done))))⟩
  have gbx_td : NeA bx td := ⟨Ne.symm (pbx (td, _) (by (focus ((repeat (first | exact List.Mem.head _ | refine List.Mem.tail _ ?_)); done))))⟩
  have gbx_tp : NeA bx tp := ⟨Ne.symm (pbx (tp, _) (by (focus ((repeat (first | exact List.Mem.head _ | refine List.Mem.tail _ ?_)); done))))⟩
  have gbx_od : NeA bx od := ⟨Ne.symm (pbx (od, _) (by (focus ((repeat (first | exact List.Mem.head _ | refine List.Mem.tail _ ?_)); done))))⟩
  have gbx_q : NeA bx q := ⟨Ne.symm (pbx (q, _) (by (focus ((repeat (first | exact List.Mem.head _ | refine List.Mem.tail _ ?_)); done))))⟩
  have gbx_x : NeA bx x := ⟨Ne.symm (pbx (x, _) (by (focus ((repeat (first | exact List.Mem.head _ | refine List.Mem.tail _ ?_)); done))))⟩
  have gbx_d : NeA bx d := ⟨Ne.symm (pbx (d, _) (by (focus ((repeat (first | exact List.Mem.head _ | refine List.Mem.tail _ ?_)); done))))⟩
  have gbx_r : NeA bx r := ⟨Ne.symm (pbx (r, _) (by (focus ((repeat (first | exact List.Mem.head _ | refine List.Mem.tail _ ?_)); done))))⟩
  have gbx_cn : NeA bx cn := ⟨Ne.symm (pbx (cn, _) (by (focus ((repeat (first | exact List.Mem.head _ | refine List.Mem.tail _ ?_)); done))))⟩
  have gcl_tb : NeA cl tb := ⟨Ne.symm (pcl (tb, _) (by (focus ((repeat (first | exact List.Mem.head _ | refine List.Mem.tail _ ?_)); done))))⟩
  have gcl_td : NeA cl td := ⟨Ne.symm (pcl (td, _) (by (focus ((repeat (first | exact List.Mem.head _ | refine List.Mem.tail _ ?_)); done))))⟩
  have gcl_tp : NeA cl tp := ⟨Ne.symm (pcl (tp, _) (by (focus ((repeat (first | exact List.Mem.head _ | refine List.Mem.tail _ ?_)); done))))⟩
  have gcl_od : NeA cl od := ⟨Ne.symm (pcl (od, _) (by (focus ((repeat (first | exact List.Mem.head _ | refine List.Mem.tail _ ?_)); done))))⟩
  have gcl_q : NeA cl q := ⟨Ne.symm (pcl (q, _) (by (focus ((repeat (first | exact List.Mem.head _ | refine List.Mem.tail _ ?_)); done))))⟩
  have gcl_x : NeA cl x := ⟨Ne.symm (pcl (x, _) (by (focus ((repeat (first | exact List.Mem.head _ | refine List.Mem.tail _ ?_)); done))))⟩
  have gcl_d : NeA cl d := ⟨Ne.symm (pcl (d, _) (by (focus ((repeat (first | exact List.Mem.head _ | refine List.Mem.tail _ ?_)); done))))⟩
  have gcl_r : NeA cl r := ⟨Ne.symm (pcl (r, _) (by (focus ((repeat (first | exact List.Mem.head _ | refine List.Mem.tail _ ?_)); done))))⟩
  have gcl_cn : NeA cl cn := ⟨Ne.symm (pcl (cn, _) (by (focus ((repeat (first | exact List.Mem.head _ | refine List.Mem.tail _ ?_)); done))))⟩
  have gtb_td : NeA tb td := ⟨Ne.symm (ptb (td, _) (by (focus ((repeat (first | exact List.Mem.head _ | refine List.Mem.tail _ ?_)); done))))⟩
  have gtb_tp : NeA tb tp := ⟨Ne.symm (ptb (tp, _) (by (focus ((repeat (first | exact List.Mem.head _ | refine List.Mem.tail _ ?_)); done))))⟩
  have gtb_od : NeA tb od := ⟨Ne.symm (ptb (od, _) (by (focus ((repeat (first | exact List.Mem.head _ | refine List.Mem.tail _ ?_)); done))))⟩
  have gtb_q : NeA tb q := ⟨Ne.symm (ptb (q, _) (by (focus ((repeat (first | exact List.Mem.head _ | refine List.Mem.tail _ ?_)); done))))⟩
  have gtb_x : NeA tb x := ⟨Ne.symm (ptb (x, _) (by (focus ((repeat (first | exact List.Mem.head _ | refine List.Mem.tail _ ?_)); done))))⟩
  have gtb_d : NeA tb d := ⟨Ne.symm (ptb (d, _) (by (focus ((repeat (first | exact List.Mem.head _ | refine List.Mem.tail _ ?_)); done))))⟩
  have gtb_r : NeA tb r := ⟨Ne.symm (ptb (r, _) (by (focus ((repeat (first | exact List.Mem.head _ | refine List.Mem.tail _ ?_)); done))))⟩
  have gtb_cn : NeA tb cn := ⟨Ne.symm (ptb (cn, _) (by (focus ((repeat (first | exact List.Mem.head _ | refine List.Mem.tail _ ?_)); done))))⟩
  have gtd_tp : NeA td tp := ⟨Ne.symm (ptd (tp, _) (by (focus ((repeat (first | exact List.Mem.head _ | refine List.Mem.tail _ ?_)); done))))⟩
  have gtd_od : NeA td od := ⟨Ne.symm (ptd (od, _) (by (focus ((repeat (first | exact List.Mem.head _ | refine List.Mem.tail _ ?_)); done))))⟩
  have gtd_q : NeA td q := ⟨Ne.symm (ptd (q, _) (by (focus ((repeat (first | exact List.Mem.head _ | refine List.Mem.tail _ ?_)); done))))⟩
  have gtd_x : NeA td x := ⟨Ne.symm (ptd (x, _) (by (focus ((repeat (first | exact List.Mem.head _ | refine List.Mem.tail _ ?_)); done))))⟩
  have gtd_d : NeA td d := ⟨Ne.symm (ptd (d, _) (by (focus ((repeat (first | exact List.Mem.head _ | refine List.Mem.tail _ ?_)); done))))⟩
  have gtd_r : NeA td r := ⟨Ne.symm (ptd (r, _) (by (focus ((repeat (first | exact List.Mem.head _ | refine List.Mem.tail _ ?_)); done))))⟩
  have gtd_cn : NeA td cn := ⟨Ne.symm (ptd (cn, _) (by (focus ((repeat (first | exact List.Mem.head _ | refine List.Mem.tail _ ?_)); done))))⟩
  have gtp_od : NeA tp od := ⟨Ne.symm (ptp (od, _) (by (focus ((repeat (first | exact List.Mem.head _ | refine List.Mem.tail _ ?_)); done))))⟩
  have gtp_q : NeA tp q := ⟨Ne.symm (ptp (q, _) (by (focus ((repeat (first | exact List.Mem.head _ | refine List.Mem.tail _ ?_)); done))))⟩
  have gtp_x : NeA tp x := ⟨Ne.symm (ptp (x, _) (by (focus ((repeat (first | exact List.Mem.head _ | refine List.Mem.tail _ ?_)); done))))⟩
  have gtp_d : NeA tp d := ⟨Ne.symm (ptp (d, _) (by (focus ((repeat (first | exact List.Mem.head _ | refine List.Mem.tail _ ?_)); done))))⟩
  have gtp_r : NeA tp r := ⟨Ne.symm (ptp (r, _) (by (focus ((repeat (first | exact List.Mem.head _ | refine List.Mem.tail _ ?_)); done))))⟩
  have gtp_cn : NeA tp cn := ⟨Ne.symm (ptp (cn, _) (by (focus ((repeat (first | exact List.Mem.head _ | refine List.Mem.tail _ ?_)); done))))⟩
  have god_q : NeA od q := ⟨Ne.symm (pod (q, _) (by (focus ((repeat (first | exact List.Mem.head _ | refine List.Mem.tail _ ?_)); done))))⟩
  have god_x : NeA od x := ⟨Ne.symm (pod (x, _) (by (focus ((repeat (first | exact List.Mem.head _ | refine List.Mem.tail _ ?_)); done))))⟩
  have god_d : NeA od d := ⟨Ne.symm (pod (d, _) (by (focus ((repeat (first | exact List.Mem.head _ | refine List.Mem.tail _ ?_)); done))))⟩
  have god_r : NeA od r := ⟨Ne.symm (pod (r, _) (by (focus ((repeat (first | exact List.Mem.head _ | refine List.Mem.tail _ ?_)); done))))⟩
  have god_cn : NeA od cn := ⟨Ne.symm (pod (cn, _) (by (focus ((repeat (first | exact List.Mem.head _ | refine List.Mem.tail _ ?_)); done))))⟩
  have gq_x : NeA q x := ⟨Ne.symm (pq (x, _) (by (focus ((repeat (first | exact List.Mem.head _ | refine List.Mem.tail _ ?_)); done))))⟩
  have gq_d : NeA q d := ⟨Ne.symm (pq (d, _) (by (focus ((repeat (first | exact List.Mem.head _ | refine List.Mem.tail _ ?_)); done))))⟩
  have gq_r : NeA q r := ⟨Ne.symm (pq (r, _) (by (focus ((repeat (first | exact List.Mem.head _ | refine List.Mem.tail _ ?_)); done))))⟩
  have gq_cn : NeA q cn := ⟨Ne.symm (pq (cn, _) (by (focus ((repeat (first | exact List.Mem.head _ | refine List.Mem.tail _ ?_)); done))))⟩
  have gx_d : NeA x d := ⟨Ne.symm (px (d, _) (by (focus ((repeat (first | exact List.Mem.head _ | refine List.Mem.tail _ ?_)); done))))⟩
  have gx_r : NeA x r := ⟨Ne.symm (px (r, _) (by (focus ((repeat (first | exact List.Mem.head _ | refine List.Mem.tail _ ?_)); done))))⟩
  have gx_cn : NeA x cn := ⟨Ne.symm (px (cn, _) (by (focus ((repeat (first | exact List.Mem.head _ | refine List.Mem.tail _ ?_)); done))))⟩
  have gd_r : NeA d r := ⟨Ne.symm (pd (r, _) (by (focus ((repeat (first | exact List.Mem.head _ | refine List.Mem.tail _ ?_)); done))))⟩
  have gd_cn : NeA d cn := ⟨Ne.symm (pd (cn, _) (by (focus ((repeat (first | exact List.Mem.head _ | refine List.Mem.tail _ ?_)); done))))⟩
  have gr_cn : NeA r cn := ⟨Ne.symm (pr (cn, _) (by (focus ((repeat (first | exact List.Mem.head _ | refine List.Mem.tail _ ?_)); done))))⟩
  have e_bx : ∀ z ∈ rest, z.1 ≠ bx := fun z hz => pbx z (by repeat (first | exact hz | refine List.Mem.tail _ ?_))
  have e_cl : ∀ z ∈ rest, z.1 ≠ cl := fun z hz => pcl z (by repeat (first | exact hz | refine List.Mem.tail _ ?_))
  have e_tb : ∀ z ∈ rest, z.1 ≠ tb := fun z hz => ptb z (by repeat (first | exact hz | refine List.Mem.tail _ ?_))
  have e_td : ∀ z ∈ rest, z.1 ≠ td := fun z hz => ptd z (by repeat (first | exact hz | refine List.Mem.tail _ ?_))
  have e_tp : ∀ z ∈ rest, z.1 ≠ tp := fun z hz => ptp z (by repeat (first | exact hz | refine List.Mem.tail _ ?_))
  have e_od : ∀ z ∈ rest, z.1 ≠ od := fun z hz => pod z (by repeat (first | exact hz | refine List.Mem.tail _ ?_))
  have e_q : ∀ z ∈ rest, z.1 ≠ q := fun z hz => pq z (by repeat (first | exact hz | refine List.Mem.tail _ ?_))
  have e_x : ∀ z ∈ rest, z.1 ≠ x := fun z hz => px z (by repeat (first | exact hz | refine List.Mem.tail _ ?_))
  have e_d : ∀ z ∈ rest, z.1 ≠ d := fun z hz => pd z (by repeat (first | exact hz | refine List.Mem.tail _ ?_))
  have e_r : ∀ z ∈ rest, z.1 ≠ r := fun z hz => pr z (by repeat (first | exact hz | refine List.Mem.tail _ ?_))
  have e_cn : ∀ z ∈ rest, z.1 ≠ cn := fun z hz => pcn z (by repeat (first | exact hz | refine List.Mem.tail _ ?_))
  have hql : (qn.length : Int) = wc - rc := hri.1
  refine' alike_in (nq := nq) (rest := (bx, W.listOf #[.ref cl, .int (bk) btk, .int bs bts] nb) :: (cl, W.listOf bv.toArray nc) :: (tb, instObj 150 td) :: (td, tdO w tsz made j1 j2 j3 u1 u2 tp) :: (tp, op) :: (cn, W.listOf #[.int (c0) tc0, .bool sh] ncn) :: rest) B F X (news_sub N ?S) T hf hke (by omega) (by omega) hD hsys hI hqb hsz hsz1 (by omega) ?a1 ?a2 ?a3 hr0 hrw hws (by omega) (RingIs.size' hri) ?a4 ?a5 ?a6 ?a7 ?a8 ?a9 hql ?b1 ?b2 ?b3 ?b4 ?b5 ?b6 (fun h tk F' N' => ?_)
  case S => (focus ((repeat (first | with_reducible exact fun _ h => h | exact sub_nil | (refine sub_cons ?_ ?_; (focus (focus ((repeat (first | exact List.Mem.head _ | refine List.Mem.tail _ ?_)); done)))) | refine sub_skip ?_)); done))
  case a1 => (focus ((repeat (first | assumption | (refine off_cons ?_ ?_; (focus ((try dsimp only); first | assumption | exact Ne.symm (by assumption) | exact NeA.ne (by assumption) | exact Ne.symm (NeA.ne (by assumption))))))); done))
  case a2 => (focus ((repeat (first | assumption | (refine off_cons ?_ ?_; (focus ((try dsimp only); first | assumption | exact Ne.symm (by assumption) | exact NeA.ne (by assumption) | exact Ne.symm (NeA.ne (by assumption))))))); done))
  case a3 => walk_at "ne"
  case a4 => (focus ((repeat (first | assumption | (refine off_cons ?_ ?_; (focus ((try dsimp only); first | assumption | exact Ne.symm (by assumption) | exact NeA.ne (by assumption) | exact Ne.symm (NeA.ne (by assumption))))))); done))
  case a5 => (focus ((repeat (first | assumption | (refine off_cons ?_ ?_; (focus ((try dsimp only); first | assumption | exact Ne.symm (by assumption) | exact NeA.ne (by assumption) | exact Ne.symm (NeA.ne (by assumption))))))); done))
  case a6 => (focus ((repeat (first | assumption | (refine off_cons ?_ ?_; (focus ((try dsimp only); first | assumption | exact Ne.symm (by assumption) | exact NeA.ne (by assumption) | exact Ne.symm (NeA.ne (by assumption))))))); done))
  case a7 => walk_at "ne"
  case a8 => walk_at "ne"
  case a9 => walk_at "ne"
  case b1 => walk_at "ne"
  case b2 => walk_at "ne"
  case b3 => walk_at "ne"
  case b4 => walk_at "ne"
  case b5 => walk_at "ne"
  case b6 => walk_at "ne"
  have e : (ro == ro && wo == wo) = true := by simp
  rw [e]
  exact kont h tk F' (news_sub N' (by (focus ((repeat (first | with_reducible exact fun _ h => h | exact sub_nil | (refine sub_cons ?_ ?_; (focus (focus ((repeat (first | exact List.Mem.head _ | refine List.Mem.tail _ ?_)); done)))) | refine sub_skip ?_)); done))))
set_option maxHeartbeats 4000000 in
theorem tclose_w {w : World} {A₀ : Around} {dp un : Nat} {gd : Option (List Code)} {base h₀ : Heap} {outer : List Env} {env : Env} {L : Addr} {m mg mb : Str → Option Value} {s : Shared} {p : Program} {loose : List Str} {mean : ExcName → Option Value}
    {rest : List (Addr × Obj)} {R : Result → Shared → Prop}
    {bx cl : Addr} {bv : List Value} {bn : List Int} {bk bs : Int} {btk bts : Tok} {nb nc : Nat} {tb td tp : Addr} {op : Obj} {kvs : List (Int × Value)} {tsz made : Int} {j1 j2 j3 u1 u2 : Tok} {od q : Addr} {oo : Obj} {tz : Tok} {qv : List Value} {qn : List Int} {nq : Nat} {x d r : Addr} {id sz rc wc : Int} {ro wo : Bool} {ring : Array UInt8} {k1 k2 k3 k4 k5 k6 k7 t1 t2 t4 t5 : Tok} {cn : Addr} {c0 : Int} {tc0 : Tok} {sh : Bool} {ncn : Nat} {sd : Int} {tsd : Tok}
    (B : Below A₀ base outer h₀) (F : Fr h₀ L s.heap m) (X : (hd.heap_1 w.params).In h₀)
    (N : News h₀ L s.heap ((bx, W.listOf #[.ref cl, .int (bk) btk, .int bs bts] nb) :: (cl, W.listOf bv.toArray nc) :: (tb, instObj 150 td) :: (td, tdO w tsz made j1 j2 j3 u1 u2 tp) :: (tp, op) :: (od, oo) :: (q, W.listOf qv.toArray nq) :: (x, instObj 107 d) :: (d, pdO w id sz r k1 k2 k3 k4 k5 k6 k7 t1 t2 (.int rc t4) (.int wc t5) ro wo) :: (r, baOf ring) :: (cn, W.listOf #[.int (c0) tc0, .bool sh] ncn) :: rest)) (T : Top p loose mean mg mb h₀)
    (hf : env.frame = some L) (hke : env.scope.kind = .function) (hdep : dp ≤ 380) (hu : un ≤ 900)
    (AD : List.Pairwise (fun a b : Addr × Obj => b.1 ≠ a.1) ((bx, W.listOf #[.ref cl, .int (bk) btk, .int bs bts] nb) :: (cl, W.listOf bv.toArray nc) :: (tb, instObj 150 td) :: (td, tdO w tsz made j1 j2 j3 u1 u2 tp) :: (tp, op) :: (od, oo) :: (q, W.listOf qv.toArray nq) :: (x, instObj 107 d) :: (d, pdO w id sz r k1 k2 k3 k4 k5 k6 k7 t1 t2 (.int rc t4) (.int wc t5) ro wo) :: (r, baOf ring) :: (cn, W.listOf #[.int (c0) tc0, .bool sh] ncn) :: rest)) (hsd : sd = 0 ∨ sd = 1) 
    (htp : (tp == sysModules) = false) (hkl : kvs.length ≤ 1000) (hkv : op.IsDictOf (PySem.intKind PySem.Challenge.rw_nz0210_01.prog w) kvs)
     (hsz : 1 ≤ sz) (hsz1 : sz ≤ 40)
    (hr0 : 0 ≤ rc) (hrw : rc ≤ wc) (hws : wc - rc ≤ sz) (hwc : wc ≤ 100000) (hri : RingIs ring sz rc wc qn) 
    (kont : ∀ op' kvs' h tk ro' wo', ro' = (if sd = 0 then false else ro) → wo' = (if sd = 0 then wo else false) → (kvs' = if (ro' || wo') = true then kvs else without kvs id) → op'.IsDictOf (PySem.intKind PySem.Challenge.rw_nz0210_01.prog w) kvs' →
   Fr h₀ L h m → News h₀ L h ((bx, W.listOf #[.ref cl, .int (bk) btk, .int bs bts] nb) :: (cl, W.listOf bv.toArray nc) :: (tb, instObj 150 td) :: (td, tdO w tsz made j1 j2 j3 u1 u2 tp) :: (tp, op') :: (od, oo) :: (q, W.listOf qv.toArray nq) :: (x, instObj 107 d) :: (d, pdO w id sz r k1 k2 k3 k4 k5 k6 k7 t1 t2 (.int rc t4) (.int wc t5) ro' wo') :: (r, baOf ring) :: (cn, W.listOf #[.int (c0) tc0, .bool sh] ncn) :: rest) → List.Pairwise (fun a b : Addr × Obj => b.1 ≠ a.1) ((bx, W.listOf #[.ref cl, .int (bk) btk, .int bs bts] nb) :: (cl, W.listOf bv.toArray nc) :: (tb, instObj 150 td) :: (td, tdO w tsz made j1 j2 j3 u1 u2 tp) :: (tp, op') :: (od, oo) :: (q, W.listOf qv.toArray nq) :: (x, instObj 107 d) :: (d, pdO w id sz r k1 k2 k3 k4 k5 k6 k7 t1 t2 (.int rc t4) (.int wc t5) ro' wo') :: (r, baOf ring) :: (cn, W.listOf #[.int (c0) tc0, .bool sh] ncn) :: rest) → R (.ok (.ret .none)) { s with heap := h, toks := tk }) :
    codeAny (model PySem.Challenge.rw_nz0210_01.prog w) ⟨none, dp, some (env :: outer), gd, un⟩ (.call (.ref 140) ⟨[.ref tb, .ref x, .int sd tsd], []⟩) R s := by
  have AD' := AD
  simp only [List.pairwise_cons] at AD'
  obtain ⟨pbx, pcl, ptb, ptd, ptp, pod, pq, px, pd, pr, pcn, pz⟩ := AD'
  have gbx_cl : NeA bx cl := ⟨Ne.symm (pbx (cl, _) (by (focus ((repeat (first | exact List.Mem.head _ | refine List.Mem.tail _ ?_)); done))))⟩
  have gbx_tb : NeA bx tb := ⟨Ne.symm (pbx (tb, _) (by (focus ((repeat (first | exact List.Mem.head _ | refine List.Mem.tail _ ?_)); done))))⟩
  have gbx_td : NeA bx td := ⟨Ne.symm (pbx (td, _) (by (focus ((repeat (first | exact List.Mem.head _ | refine List.Mem.tail _ ?_)); done))))⟩
  have gbx_tp : NeA bx tp := ⟨Ne.symm (pbx (tp, _) (by (focus ((repeat (first | exact List.Mem.head _ | refine List.Mem.tail _ ?_)); done))))⟩
  have gbx_od : NeA bx od := ⟨Ne.symm (pbx (od, _) (by (focus ((repeat (first | exact List.Mem.head _ | refine List.Mem.tail _ ?_)); done))))⟩
  have gbx_q : NeA bx q := ⟨Ne.symm (pbx (q, _) (by (focus ((repeat (first | exact List.Mem.head _ | refine List.Mem.tail _ ?_)); done))))⟩
  have gbx_x : NeA bx x := ⟨Ne.symm (pbx (x, _) (by (focus ((repeat (first | exact List.Mem.head _ | refine List.Mem.tail _ ?_)); done))))⟩
  have gbx_d : NeA bx d := ⟨Ne.symm (pbx (d, _) (by (focus ((repeat (first | exact List.Mem.head _ | refine List.Mem.tail _ ?_)); done))))⟩
  have gbx_r : NeA bx r := ⟨Ne.symm (pbx (r, _) (by (focus ((repeat (first | exact List.Mem.head _ | refine List.Mem.tail _ ?_)); done))))⟩
  have gbx_cn : NeA bx cn := ⟨Ne.symm (pbx (cn, _) (by (focus ((repeat (first | exact List.Mem.head _ | refine List.Mem.tail _ ?_)); done))))⟩
  have gcl_tb : NeA cl tb := ⟨Ne.symm (pcl (tb, _) (by (focus ((repeat (first | exact List.Mem.head _ | refine List.Mem.tail _ ?_)); done))))⟩
  have gcl_td : NeA cl td := ⟨Ne.symm (pcl (td, _) (by (focus ((repeat (first | exact List.Mem.head _ | refine List.Mem.tail _ ?_)); done))))⟩
  have gcl_tp : NeA cl tp := ⟨Ne.symm (pcl (tp, _) (by (focus ((repeat (first | exact List.Mem.head _ | refine List.Mem.tail _ ?_)); done))))⟩
  have gcl_od : NeA cl od := ⟨Ne.symm (pcl (od, _) (by (focus ((repeat (first | exact List.Mem.head _ | refine List.Mem.tail _ ?_)); done))))⟩
  have gcl_q : NeA cl q := ⟨Ne.symm (pcl (q, _) (by (focus ((repeat (first | exact List.Mem.head _ | refine List.Mem.tail _ ?_)); done))))⟩
  have gcl_x : NeA cl x := ⟨Ne.symm (pcl (x, _) (by (focus ((repeat (first | exact List.Mem.head _ | refine List.Mem.tail _ ?_)); done))))⟩
  have gcl_d : NeA cl d := ⟨Ne.symm (pcl (d, _) (by (focus ((repeat (first | exact List.Mem.head _ | refine List.Mem.tail _ ?_)); done))))⟩
  have gcl_r : NeA cl r := ⟨Ne.symm (pcl (r, _) (by (focus ((repeat (first | exact List.Mem.head _ | refine List.Mem.tail _ ?_)); done))))⟩
  have gcl_cn : NeA cl cn := ⟨Ne.symm (pcl (cn, _) (by (focus ((repeat (first | exact List.Mem.head _ | refine List.Mem.tail _ ?_)); done))))⟩
  have gtb_td : NeA tb td := ⟨Ne.symm (ptb (td, _) (by (focus ((repeat (first | exact List.Mem.head _ | refine List.Mem.tail _ ?_)); done))))⟩
  have gtb_tp : NeA tb tp := ⟨Ne.symm (ptb (tp, _) (by (focus ((repeat (first | exact List.Mem.head _ | refine List.Mem.tail _ ?_)); done))))⟩
  have gtb_od : NeA tb od := ⟨Ne.symm (ptb (od, _) (by (focus ((repeat (first | exact List.Mem.head _ | refine List.Mem.tail _ ?_)); done))))⟩
  have gtb_q : NeA tb q := ⟨Ne.symm (ptb (q, _) (by (focus ((repeat (first | exact List.Mem.head _ | refine List.Mem.tail _ ?_)); done))))⟩
  have gtb_x : NeA tb x := ⟨Ne.symm (ptb (x, _) (by (focus ((repeat (first | exact List.Mem.head _ | refine List.Mem.tail _ ?_)); done))))⟩
  have gtb_d : NeA tb d := ⟨Ne.symm (ptb (d, _) (by (focus ((repeat (first | exact List.Mem.head _ | refine List.Mem.tail _ ?_)); done))))⟩
  have gtb_r : NeA tb r := ⟨Ne.symm (ptb (r, _) (by (focus ((repeat (first | exact List.Mem.head _ | refine List.Mem.tail _ ?_)); done))))⟩
  have gtb_cn : NeA tb cn := ⟨Ne.symm (ptb (cn, _) (by (focus ((repeat (first | exact List.Mem.head _ | refine List.Mem.tail _ ?_)); done))))⟩
  have gtd_tp : NeA td tp := ⟨Ne.symm (ptd (tp, _) (by (focus ((repeat (first | exact List.Mem.head _ | refine List.Mem.tail _ ?_)); done))))⟩
  have gtd_od : NeA td od := ⟨Ne.symm (ptd (od, _) (by (focus ((repeat (first | exact List.Mem.head _ | refine List.Mem.tail _ ?_)); done))))⟩
  have gtd_q : NeA td q := ⟨Ne.symm (ptd (q, _) (by (focus ((repeat (first | exact List.Mem.head _ | refine List.Mem.tail _ ?_)); done))))⟩
  have gtd_x : NeA td x := ⟨Ne.symm (ptd (x, _) (by (focus ((repeat (first | exact List.Mem.head _ | refine List.Mem.tail _ ?_)); done))))⟩
  have gtd_d : NeA td d := ⟨Ne.symm (ptd (d, _) (by (focus ((repeat (first | exact List.Mem.head _ | refine List.Mem.tail _ ?_)); done))))⟩
  have gtd_r : NeA td r := ⟨Ne.symm (ptd (r, _) (by (focus ((repeat (first | exact List.Mem.head _ | refine List.Mem.tail _ ?_)); done))))⟩
  have gtd_cn : NeA td cn := ⟨Ne.symm (ptd (cn, _) (by (focus ((repeat (first | exact List.Mem.head _ | refine List.Mem.tail _ ?_)); done))))⟩
  have gtp_od : NeA tp od := ⟨Ne.symm (ptp (od, _) (by (focus ((repeat (first | exact List.Mem.head _ | refine List.Mem.tail _ ?_)); done))))⟩
  have gtp_q : NeA tp q := ⟨Ne.symm (ptp (q, _) (by (focus ((repeat (first | exact List.Mem.head _ | refine List.Mem.tail _ ?_)); done))))⟩
  have gtp_x : NeA tp x := ⟨Ne.symm (ptp (x, _) (by (focus ((repeat (first | exact List.Mem.head _ | refine List.Mem.tail _ ?_)); done))))⟩
  have gtp_d : NeA tp d := ⟨Ne.symm (ptp (d, _) (by (focus ((repeat (first | exact List.Mem.head _ | refine List.Mem.tail _ ?_)); done))))⟩
  have gtp_r : NeA tp r := ⟨Ne.symm (ptp (r, _) (by (focus ((repeat (first | exact List.Mem.head _ | refine List.Mem.tail _ ?_)); done))))⟩
  have gtp_cn : NeA tp cn := ⟨Ne.symm (ptp (cn, _) (by (focus ((repeat (first | exact List.Mem.head _ | refine List.Mem.tail _ ?_)); done))))⟩
  have god_q : NeA od q := ⟨Ne.symm (pod (q, _) (by (focus ((repeat (first | exact List.Mem.head _ | refine List.Mem.tail _ ?_)); done))))⟩
  have god_x : NeA od x := ⟨Ne.symm (pod (x, _) (by (focus ((repeat (first | exact List.Mem.head _ | refine List.Mem.tail _ ?_)); done))))⟩
  have god_d : NeA od d := ⟨Ne.symm (pod (d, _) (by (focus ((repeat (first | exact List.Mem.head _ | refine List.Mem.tail _ ?_)); done))))⟩
  have god_r : NeA od r := ⟨Ne.symm (pod (r, _) (by (focus ((repeat (first | exact List.Mem.head _ | refine List.Mem.tail _ ?_)); done))))⟩
  have god_cn : NeA od cn := ⟨Ne.symm (pod (cn, _) (by (focus ((repeat (first | exact List.Mem.head _ | refine List.Mem.tail _ ?_)); done))))⟩
  have gq_x : NeA q x := ⟨Ne.symm (pq (x, _) (by (focus ((repeat (first | exact List.Mem.head _ | refine List.Mem.tail _ ?_)); done))))⟩
  have gq_d : NeA q d := ⟨Ne.symm (pq (d, _) (by (focus ((repeat (first | exact List.Mem.head _ | refine List.Mem.tail _ ?_)); done))))⟩
  have gq_r : NeA q r := ⟨Ne.symm (pq (r, _) (by (focus ((repeat (first | exact List.Mem.head _ | refine List.Mem.tail _ ?_)); done))))⟩
  have gq_cn : NeA q cn := ⟨Ne.symm (pq (cn, _) (by (focus ((repeat (first | exact List.Mem.head _ | refine List.Mem.tail _ ?_)); done))))⟩
  have gx_d : NeA x d := ⟨Ne.symm (px (d, _) (by (focus ((repeat (first | exact List.Mem.head _ | refine List.Mem.tail _ ?_)); done))))⟩
  have gx_r : NeA x r := ⟨Ne.symm (px (r, _) (by (focus ((repeat (first | exact List.Mem.head _ | refine List.Mem.tail _ ?_)); done))))⟩
  have gx_cn : NeA x cn := ⟨Ne.symm (px (cn, _) (by (focus ((repeat (first | exact List.Mem.head _ | refine List.Mem.tail _ ?_)); done))))⟩
  have gd_r : NeA d r := ⟨Ne.symm (pd (r, _) (by (focus ((repeat (first | exact List.Mem.head _ | refine List.Mem.tail _ ?_)); done))))⟩
  have gd_cn : NeA d cn := ⟨Ne.symm (pd (cn, _) (by (focus ((repeat (first | exact List.Mem.head _ | refine List.Mem.tail _ ?_)); done))))⟩
  have gr_cn : NeA r cn := ⟨Ne.symm (pr (cn, _) (by (focus ((repeat (first | exact List.Mem.head _ | refine List.Mem.tail _ ?_)); done))))⟩
  have e_bx : ∀ z ∈ rest, z.1 ≠ bx := fun z hz => pbx z (by repeat (first | exact hz | refine List.Mem.tail _ ?_))
  have e_cl : ∀ z ∈ rest, z.1 ≠ cl := fun z hz => pcl z (by repeat (first | exact hz | refine List.Mem.tail _ ?_))
  have e_tb : ∀ z ∈ rest, z.1 ≠ tb := fun z hz => ptb z (by repeat (first | exact hz | refine List.Mem.tail _ ?_))
  have e_td : ∀ z ∈ rest, z.1 ≠ td := fun z hz => ptd z (by repeat (first | exact hz | refine List.Mem.tail _ ?_))
  have e_tp : ∀ z ∈ rest, z.1 ≠ tp := fun z hz => ptp z (by repeat (first | exact hz | refine List.Mem.tail _ ?_))
  have e_od : ∀ z ∈ rest, z.1 ≠ od := fun z hz => pod z (by repeat (first | exact hz | refine List.Mem.tail _ ?_))
  have e_q : ∀ z ∈ rest, z.1 ≠ q := fun z hz => pq z (by repeat (first | exact hz | refine List.Mem.tail _ ?_))
  have e_x : ∀ z ∈ rest, z.1 ≠ x := fun z hz => px z (by repeat (first | exact hz | refine List.Mem.tail _ ?_))
  have e_d : ∀ z ∈ rest, z.1 ≠ d := fun z hz => pd z (by repeat (first | exact hz | refine List.Mem.tail _ ?_))
  have e_r : ∀ z ∈ rest, z.1 ≠ r := fun z hz => pr z (by repeat (first | exact hz | refine List.Mem.tail _ ?_))
  have e_cn : ∀ z ∈ rest, z.1 ≠ cn := fun z hz => pcn z (by repeat (first | exact hz | refine List.Mem.tail _ ?_))
  refine' tclose_in (kvs := kvs) (rest := (bx, W.listOf #[.ref cl, .int (bk) btk, .int bs bts] nb) :: (cl, W.listOf bv.toArray nc) :: (od, oo) :: (q, W.listOf qv.toArray nq) :: (cn, W.listOf #[.int (c0) tc0, .bool sh] ncn) :: rest) B F X (news_sub N ?S) T hf hke (by omega) (by omega) hsz hsz1 hr0 hrw hws (by omega) (RingIs.size' hri) ?a1 ?a2 ?a3 ?a4 ?a5 ?a6 hsd htp hkl ?b1 ?b2 ?b3 ?c0 ?c1 ?c2 ?c3 ?c4 ?c5 ?c6 ?c7 ?c8 ?c9 ?c10 ?c11 hkv (fun op' kvs' h tk ro' wo' e1 e2 e3 hk F' N' => kont op' kvs' h tk ro' wo' e1 e2 e3 hk F' (news_sub N' ?S2) ?A)
  case S => (focus ((repeat (first | with_reducible exact fun _ h => h | exact sub_nil | (refine sub_cons ?_ ?_; (focus (focus ((repeat (first | exact List.Mem.head _ | refine List.Mem.tail _ ?_)); done)))) | refine sub_skip ?_)); done))
  case S2 => (focus ((repeat (first | with_reducible exact fun _ h => h | exact sub_nil | (refine sub_cons ?_ ?_; (focus (focus ((repeat (first | exact List.Mem.head _ | refine List.Mem.tail _ ?_)); done)))) | refine sub_skip ?_)); done))
  case A =>
    simp only [List.pairwise_cons]
    refine ⟨?_, ?_, ?_, ?_, ?_, ?_, ?_, ?_, ?_, ?_, ?_, pz⟩
    all_goals (focus ((repeat (first | assumption | (refine off_cons ?_ ?_; (focus ((try dsimp only); first | assumption | exact Ne.symm (by assumption) | exact NeA.ne (by assumption) | exact Ne.symm (NeA.ne (by assumption))))))); done))
  case b1 => (focus ((repeat (first | assumption | (refine off_cons ?_ ?_; (focus ((try dsimp only); first | assumption | exact Ne.symm (by assumption) | exact NeA.ne (by assumption) | exact Ne.symm (NeA.ne (by assumption))))))); done))
  case b2 => (focus ((repeat (first | assumption | (refine off_cons ?_ ?_; (focus ((try dsimp only); first | assumption | exact Ne.symm (by assumption) | exact NeA.ne (by assumption) | exact Ne.symm (NeA.ne (by assumption))))))); done))
  case b3 => (focus ((repeat (first | assumption | (refine off_cons ?_ ?_; (focus ((try dsimp only); first | assumption | exact Ne.symm (by assumption) | exact NeA.ne (by assumption) | exact Ne.symm (NeA.ne (by assumption))))))); done))
  case a1 => (focus ((repeat (first | assumption | (refine off_cons ?_ ?_; (focus ((try dsimp only); first | assumption | exact Ne.symm (by assumption) | exact NeA.ne (by assumption) | exact Ne.symm (NeA.ne (by assumption))))))); done))
  case a2 => (focus ((repeat (first | assumption | (refine off_cons ?_ ?_; (focus ((try dsimp only); first | assumption | exact Ne.symm (by assumption) | exact NeA.ne (by assumption) | exact Ne.symm (NeA.ne (by assumption))))))); done))
  case a3 => (focus ((repeat (first | assumption | (refine off_cons ?_ ?_; (focus ((try dsimp only); first | assumption | exact Ne.symm (by assumption) | exact NeA.ne (by assumption) | exact Ne.symm (NeA.ne (by assumption))))))); done))
  case a4 => walk_at "ne"
  case a5 => walk_at "ne"
  case a6 => walk_at "ne"
  case c0 => walk_at "ne"
  case c1 => walk_at "ne"
  case c2 => walk_at "ne"
  case c3 => walk_at "ne"
  case c4 => walk_at "ne"
  case c5 => walk_at "ne"
  case c6 => walk_at "ne"
  case c7 => walk_at "ne"
  case c8 => walk_at "ne"
  case c9 => walk_at "ne"
  case c10 => walk_at "ne"
  case c11 => walk_at "ne"
end

/-! part Chan -/
section
theorem linesChan : True := by
  k_with_none
  k_with "my k_room" => ((try simp only [depth_under_make, depth_under_kw, depth_in1, depth_deeper, depth_caller]); (try simp only [recursionLimit]); first | decide | exact Nat.le_trans (by with_reducible assumption) (by decide) | exact Nat.le_trans (Nat.add_le_add_right (by with_reducible assumption) _) (by decide) | omega)
  k_with "execs cons" => (k_here; dsimp only; k_gentoks)
  k_with "execs nil" => (k_here; dsimp only; k_gentoks)
  k_with "my k_all" => (with_reducible assumption)
  k_with "my k_ne" => (refine neN ?_; (try dsimp only); first | with_reducible assumption | exact Ne.symm (by with_reducible assumption) | exact NeA.ne (by with_reducible assumption) | exact Ne.symm (NeA.ne (by with_reducible assumption)) | exact Nat.ne_of_lt (by walk_at "pick") | exact Nat.ne_of_gt (by walk_at "pick") | exact Nat.ne_of_gt (Nat.lt_add_one_of_lt (by walk_at "pick")) | exact Nat.ne_of_lt (Nat.lt_add_one_of_lt (by walk_at "pick")) | walk_at "pick" | exact Ne.symm (by walk_at "pick") | omega)
  k_with "my k_units" => ((try simp only [units_under_make, units_in1, units_deeper, Around.mark_units, units_caller]); first | exact Nat.le_trans (Nat.add_le_add_right (by with_reducible assumption) _) (by decide) | exact Nat.le_trans (by with_reducible assumption) (by decide) | exact lt_cline1 (by with_reducible assumption) (by decide) | exact lt_cline2 (by with_reducible assumption) (by decide) | ((have hcL' := cLine_is); omega))
  k_with "subscriptTail Subscript Name Constant Slice ref ref" => (k_here; k_dflt (first | (refine' list_upto (s := ⟨_, _, _, _, _⟩) (by k_asm) (by k_asm) (by k_mem) (by with_reducible assumption) (by omega) (by omega) ?_) | (refine' list_from (s := ⟨_, _, _, _, _⟩) (by k_asm) (by k_asm) (by k_mem) (by with_reducible assumption) (by omega) (by omega) ?_)); intro D' ws' h' F' N' l1 hI'; (try k_lt l1); (try k_sweep))
  k_with "subscriptTail" => (k_here; (with_reducible show wpAny _ _ (subscriptTail _ _ (Value.ref _) (Value.int (Int.fmod _ _) _)) _ _ _); k_dflt (refine' ba_sub (by k_asm) (by k_mem) (by l_fact) (by l_fact) (by omega) ?_ (by with_unfolding_all rfl)))
  k_with "setItem ref int int" => (k_here; k_dflt (refine' ba_set (by k_asm) (by k_asm) (by k_upd) (by l_fact) (by l_fact) (by omega) (by omega) (by omega) ?_); intro h' F' N'; (try k_sweep))
  k_with "call builtin:len" => (k_here; (with_reducible show wpAny _ _ (PySem.call (Value.builtin "len") [Value.ref _]) _ _ _); k_dflt (refine' ba_lenN (by k_asm) (by k_mem) (by omega) ?_))
  k_with "exec For Name Subscript cons nil" => (k_here; refine forA ?_)
  k_with "pyIter bytes" => (k_here; refine KBw.pyIter_bytes ?_)
  k_with "call builtin:len" => (k_here; (with_reducible show wpAny _ _ (PySem.call (Value.builtin "len") [Value.ref _]) _ _ _); k_dflt (refine' list_lenN (by k_asm) (by k_mem) (by with_reducible assumption) (by ((try simp only [List.length_take, List.length_drop]); omega)) ?_))
  k_with "pick" => (focus (apply pickL; (iterate 13 (first | done | with_reducible assumption | apply pickR)); done))
  k_with "ne" => ((try dsimp only); first | assumption | exact Ne.symm (by assumption) | exact NeA.ne (by assumption) | exact Ne.symm (NeA.ne (by assumption)) | exact Nat.ne_of_lt (by walk_at "pick") | exact Nat.ne_of_gt (by walk_at "pick") | exact Nat.ne_of_gt (Nat.lt_add_one_of_lt (by walk_at "pick")) | exact Nat.ne_of_lt (Nat.lt_add_one_of_lt (by walk_at "pick")) | walk_at "pick" | exact Ne.symm (by walk_at "pick") | omega)
  k_with "num" => (first | with_reducible assumption | exact Int.le_add_of_nonneg_right (by decide) | exact nb12 (by with_reducible assumption) (by with_reducible assumption) | (focus ((repeat (first | with_reducible assumption | refine Int.add_nonneg ?_ (by decide))); done)) | exact Int.le_trans (by with_reducible assumption) (by decide) | exact Int.le_trans (Int.add_le_add_right (by with_reducible assumption) _) (by decide) | omega)
  k_with "rem" => (focus ((repeat (first | exact Rem.head | apply Rem.tail)); done))
  k_with "off" => (focus ((repeat (first | assumption | (refine off_cons ?_ ?_; (focus walk_at "ne")))); done))
  k_with "mem" => (focus ((repeat (first | exact List.Mem.head _ | refine List.Mem.tail _ ?_)); done))
  k_with "call ref" => (k_here; (with_reducible show wpAny _ _ (call (Value.ref 83) _) _ _ _); k_dflt ((refine' wpAny_call (channel_in (by k_asm) (by k_asm) (by k_asm) (news_rem2 (by k_asm) (by walk_at "rem") (by walk_at "rem")) (by k_asm) rfl rfl (by k_room) (by k_units) (fun _ _ _ _ _ _ _ _ lz _ _ => ?_)))) <;> (try dsimp only))
  trivial
set_option maxHeartbeats 4000000 in
theorem chan_in {w : World} {A₀ : Around} {dp un : Nat} {gd : Option (List Code)} {base h₀ : Heap} {outer : List Env} {env : Env} {L : Addr} {m mg mb : Str → Option Value} {s : Shared} {p : Program} {loose : List Str} {mean : ExcName → Option Value}
    {rest : List (Addr × Obj)} {R : Result → Shared → Prop}
    {pl : Addr} {np : Nat} {sz : Int} {ps : List PS}
    (B : Below A₀ base outer h₀) (F : Fr h₀ L s.heap m) (X : (hd.heap_1 w.params).In h₀)
    (N : News h₀ L s.heap ((pl, W.listOf (ps.map fun p => Value.ref p.x).toArray np) :: rest)) (T : Top p loose mean mg mb h₀)
    (hf : env.frame = some L) (hke : env.scope.kind = .function) (hdep : dp ≤ 390) (hu : un ≤ 950)
    (hps : ∀ p ∈ ps, (p.x, instObj 107 p.d) ∈ rest ∧ (p.d, p.pd w sz) ∈ rest) (hnd : (ps.map (·.id)).Nodup) (hlen : ps.length ≤ 3)
    (kont : ∀ h tk, Fr h₀ L h m → News h₀ L h ((pl, W.listOf (ps.map fun p => Value.ref p.x).toArray np) :: rest) → R (.ok (.ret (.bool true))) { s with heap := h, toks := tk }) :
    codeC (model PySem.Challenge.rw_nz0210_01.prog w) ⟨none, dp, some (env :: outer), gd, un⟩ (.call (.ref 206) ⟨[.ref pl], []⟩) R s := by
  (refine' code_defCleanC ?k1 ?k2 ?k3 ?k4 ?k5 ?kA ?kF ?kK ?k6 ?k7 ?k8 ?k9 ?kB ?kD ?_ ?c2 ?c3 ?c4; (case kA => exact rfl); (case kF => first | exact rfl | assumption); (case kK => first | exact rfl | assumption); (case k1 => k_asm); (case k2 => k_asm); (case k3 => k_asm); (case k4 => k_asm); (case k5 => k_asm); (case k6 => k_is); (case k7 => k_is); (case k8 => k_room); (case k9 => first | exact BindsTo.of_eq rfl | exact binds_K (by k_in) rfl (by k_is) rfl rfl rfl | fail "c_enterC: no rule for these arguments"); (case kB => exact rfl); (case kD => decide +kernel); (case c2 => exact rfl); (case c3 => exact rfl); (case c4 => exact rfl); k_whole; intro g' L' h' tk' cells' FG' F' N' Y' B' X' T' l1; (try k_lt l1); k_cells Y'; (try simp only [List.cons_append, List.nil_append] at N'); (try dsimp only); (try k_lift B'); (try k_fold))
  refine execsC (nameC ?_)
  refine evalLCC (by rfl) rfl (by decide) (by intro _; rfl) ?_
  (repeat' (first | (k_unfold; (try dsimp only)) | walk1 | (dsimp only; walk1) | (leave1; (try dsimp only)) | fail "no step"))
  refine' iter_list rfl ?F1 ?N1 ?m1 fun I h1 F1 N1 W1 st1 fp1 hIL hI0 off1 => ?_
  case F1 => assumption
  case N1 => assumption
  case m1 => (focus ((repeat (first | exact List.Mem.head _ | refine List.Mem.tail _ ?_)); done))
  refine blockTold rfl hlen (.tail _ (.head _)) W1 st1 fp1 F1 N1 hIL hI0 off1 (by decide) rfl (by rfl) (by rfl) (by decide) (by intro _ _; rfl) ?inner1 ?step1 ?fin1
  case inner1 =>
    intro nw oI C oC D oD m₂ h tk hb hC F2 N2
    (repeat' (first | (k_unfold; (try dsimp only)) | walk1 | (dsimp only; walk1) | (leave1; (try dsimp only)) | fail "no step"))
    · assumption
    · assumption
    · exact Nat.ne_of_lt (all_lt (l := (I, oI) :: (C, oC) :: (D, oD) :: nw) (by assumption) _ (by assumption))
  case step1 =>
    intro j nw p t I2 oI2 D2 oD2 oI C oC D oD m₂ h tk hj hp hb hC hx hs F2 N2
    have N3 := news_two N2 (.tail _ (.tail _ (.tail _ (.tail _ (.tail _ (hb _ (.tail _ (.tail _ (hps p hp).1)))))))) (.tail _ (.tail _ (.tail _ (.tail _ (.tail _ (hb _ (.tail _ (.tail _ (hps p hp).2))))))))
    clear N2
    refine wpC_lift ?_
    (repeat' (first | (k_unfold; (try dsimp only)) | walk1 | (dsimp only; walk1) | (leave1; (try dsimp only)) | fail "no step"))
    · assumption
    · refine' news_sub ?N4 ?S4
      case N4 => assumption
      case S4 => (focus ((repeat (first | with_reducible exact fun _ h => h | exact sub_nil | (refine sub_cons ?_ ?_; (focus (focus ((repeat (first | exact List.Mem.head _ | refine List.Mem.tail _ ?_)); done)))) | refine sub_skip ?_)); done))
    · exact Nat.ne_of_lt (all_lt (l := (I2, oI2) :: (D2, oD2) :: (I, oI) :: (C, oC) :: (D, oD) :: nw) (by assumption) _ (by assumption))
  case fin1 =>
    intro D C h tk m' ys cs hT hdj F2 N2 o1 hn hC0 hCL hCD offC
    refine finE (T := fun a b => a = ys ∧ b = _) ⟨rfl, rfl⟩ F2 N2 o1 hn hC0 hCL hCD offC ?_
    rintro D h tk _ _ ⟨rfl, rfl⟩ F2 N2 o1
    obtain ⟨rest2, N3, hT3, hoc, hDc, hpc, hrr, hoD, hpD, -, -⟩ := told_led N2 hdj hT o1 (fun z hz => Nat.ne_of_lt (Nat.lt_succ_of_lt (all_lt (l := (pl, _) :: rest) (by assumption) z hz)))
    clear N2 o1 hdj
    (repeat' (first | (k_unfold; (try dsimp only)) | walk1 | (dsimp only; walk1) | (leave1; (try dsimp only)) | fail "no step"))
    dsimp only
    refine execsC (asgLCC (by rfl) (by rfl) rfl (by decide) (by intro _; rfl) ?_)
    (repeat' (first | (k_unfold; (try dsimp only)) | walk1 | (dsimp only; walk1) | (leave1; (try dsimp only)) | fail "no step"))
    refine' iter_list rfl ?F5 ?N5 ?m5 fun I h1 F1 N1 W1 st1 fp1 hIL hI0 off1 => ?_
    case F5 => assumption
    case N5 => assumption
    case m5 => (focus ((repeat (first | exact List.Mem.head _ | refine List.Mem.tail _ ?_)); done))
    refine blockTold rfl hlen (.tail _ (.head _)) W1 st1 fp1 F1 N1 hIL hI0 off1 (by decide) rfl (by rfl) (by rfl) (by decide) (by intro _ _; rfl) ?inner2 ?step2 ?fin2
    case inner2 =>
      intro nw oI C oC D oD m₂ h tk hb hC F2 N2
      (repeat' (first | (k_unfold; (try dsimp only)) | walk1 | (dsimp only; walk1) | (leave1; (try dsimp only)) | fail "no step"))
      · assumption
      · assumption
      · exact Nat.ne_of_lt (all_lt (l := (I, oI) :: (C, oC) :: (D, oD) :: nw) (by assumption) _ (by assumption))
    case step2 =>
      intro j nw p t I2 oI2 D2 oD2 oI C oC D oD m₂ h tk hj hp hb hC hx hs F2 N2
      have N3 := news_two N2 (.tail _ (.tail _ (.tail _ (.tail _ (.tail _ (hb _ (.tail _ (.tail _ (.tail _ (hrr _ (hps p hp).1)))))))))) (.tail _ (.tail _ (.tail _ (.tail _ (.tail _ (hb _ (.tail _ (.tail _ (.tail _ (hrr _ (hps p hp).2))))))))))
      clear N2
      refine wpC_lift ?_
      (repeat' (first | (k_unfold; (try dsimp only)) | walk1 | (dsimp only; walk1) | (leave1; (try dsimp only)) | fail "no step"))
      · assumption
      · refine' news_sub ?N6 ?S6
        case N6 => assumption
        case S6 => (focus ((repeat (first | with_reducible exact fun _ h => h | exact sub_nil | (refine sub_cons ?_ ?_; (focus (focus ((repeat (first | exact List.Mem.head _ | refine List.Mem.tail _ ?_)); done)))) | refine sub_skip ?_)); done))
      · exact Nat.ne_of_lt (all_lt (l := (I2, oI2) :: (D2, oD2) :: (I, oI) :: (C, oC) :: (D, oD) :: nw) (by assumption) _ (by assumption))
    case fin2 =>
      intro D C h tk m' ys cs hT hdj F2 N2 o1 hn hC0 hCL hCD offC
      refine' finA (T := fun a b => a = ys ∧ b = _) ⟨rfl, rfl⟩ F2 N2 o1 hn hC0 hCL hCD offC ?fa ?fb ?fc ?_
      case fa => rfl
      case fb => rfl
      case fc => rfl
      rintro D h tk _ _ ⟨rfl, rfl⟩ F2 N2 o1
      obtain ⟨rest3, N3, hT4, hr3⟩ := told_led2 N2 hT
      clear N2 o1 hdj
      dsimp only
      refine execsC (retC (andVC ?_))
      refine wpC_lift ?_
      (repeat' (first | (k_unfold; (try dsimp only)) | walk1 | (dsimp only; walk1) | (leave1; (try dsimp only)) | fail "no step"))
      refine' told_eq N3 (TC.mono hT3 (fun z hz => .tail _ (.tail _ (.tail _ (.tail _ (hr3 z hz)))))) (TC.mono hT4 (fun z hz => .tail _ (.tail _ (.tail _ (.tail _ hz))))) ?ea ?eb ?eu ?_
      case ea => (focus ((repeat (first | exact List.Mem.head _ | refine List.Mem.tail _ ?_)); done))
      case eb => (focus ((repeat (first | exact List.Mem.head _ | refine List.Mem.tail _ ?_)); done))
      case eu => k_units
      (repeat' (first | (k_unfold; (try dsimp only)) | walk1 | (dsimp only; walk1) | (leave1; (try dsimp only)) | fail "no step"))
      refine compareC ?_
      refine evalLCC (by rfl) rfl (by decide) (by intro _; rfl) ?_
      (repeat' (first | (k_unfold; (try dsimp only)) | walk1 | (dsimp only; walk1) | (leave1; (try dsimp only)) | fail "no step"))
      have hyl := hT3.length
      rw [keysOf_length] at hyl
      refine' Calls.call_len_list (News.isList N3 ?em) ?ef ?_
      case em => (focus ((repeat (first | exact List.Mem.head _ | refine List.Mem.tail _ ?_)); done))
      case ef => (rw [List.size_toArray, hyl]; omega)
      rw [List.size_toArray, hyl]
      (repeat' (first | (k_unfold; (try dsimp only)) | walk1 | (dsimp only; walk1) | (leave1; (try dsimp only)) | fail "no step"))
      refine' iter_range (n := 2 * ps.length) rfl ?F7 ?N7 ?r7 (by omega) fun I h1 F1 N1 W1 st1 fp1 hIL hI0 off1 => ?_
      case F7 => assumption
      case N7 => assumption
      case r7 => assumption
      refine' blockCF (T := fun nw => nw = _) W1 (fun _ _ st => ⟨_, st⟩) (fun i h h' o nw st e e' _ _ => range_keep _ h h' o st e e') ?g1 rfl ?g2 st1 fp1 F1 N1 hIL hI0 off1 rfl ?step3 ?fin3
      case g1 => decide
      case g2 => rfl
      case step3 =>
        rintro i _ _ oI C oC D' m₂ h tk hi rfl ⟨t, rfl⟩ hC hx F2 N2 o3 hne
        rw [Int.zero_add] at hx
        refine wpC_lift ?_
        (repeat' (first | (k_unfold; (try dsimp only)) | walk1 | (dsimp only; walk1) | (leave1; (try dsimp only)) | fail "no step"))
        obtain ⟨v, hv⟩ := get_ex hyl hi
        refine' item_at N2 ?im (by omega) (by omega) hv ?_
        case im => (focus ((repeat (first | exact List.Mem.head _ | refine List.Mem.tail _ ?_)); done))
        (repeat' (first | (k_unfold; (try dsimp only)) | walk1 | (dsimp only; walk1) | (leave1; (try dsimp only)) | fail "no step"))
        refine' list_uptoV (s := ⟨_, _, _, _, _⟩) F2 N2 ?ul (by omega) (by rw [hyl]; omega) fun D8 h8 F8 N8 l8 => ?_
        case ul => (focus ((repeat (first | exact List.Mem.head _ | refine List.Mem.tail _ ?_)); done))
        (repeat' (first | (k_unfold; (try dsimp only)) | walk1 | (dsimp only; walk1) | (leave1; (try dsimp only)) | fail "no step"))
        refine' told_in (s := ⟨_, _, _, _, _⟩) N8 (TC.mono hT3 ?tm) (keysOf_nodup ps hnd) ?ti hv ?tu ?_
        case tm => exact fun z hz => .tail _ (.tail _ (.tail _ (.tail _ (.tail _ (.tail _ (.tail _ (.tail _ (hr3 z hz))))))))
        case ti => exact .head _
        case tu => k_units
        (repeat' (first | (k_unfold; (try dsimp only)) | walk1 | (dsimp only; walk1) | (leave1; (try dsimp only)) | fail "no step"))
        exact ⟨_, _, _, rfl, F8, news_tail N8, o3, rfl⟩
      case fin3 =>
        rintro D9 C9 h tk m' _ rfl F2 N2 o1 hn hC0 hCL hCD offC
        refine finE (T := fun a b => a = [] ∧ b = _) ⟨rfl, rfl⟩ F2 N2 o1 hn hC0 hCL hCD offC ?_
        rintro D h tk _ _ ⟨rfl, rfl⟩ F2 N2 o1
        (repeat' (first | (k_unfold; (try dsimp only)) | walk1 | (dsimp only; walk1) | (leave1; (try dsimp only)) | fail "no step"))
        refine' kont _ _ ?F9 (news_sub ?N9 ?S9)
        case F9 => assumption
        case N9 => assumption
        case S9 =>
          intro z hz
          rcases List.mem_cons.mp hz with rfl | hz
          · (focus ((repeat (first | exact List.Mem.head _ | refine List.Mem.tail _ ?_)); done))
          · repeat (first | exact hr3 z (hrr z hz) | refine List.Mem.tail _ ?_)
end

/-! part Refd -/
section
theorem linesRefd : True := by
  k_with_none
  k_with "my k_room" => ((try simp only [depth_under_make, depth_under_kw, depth_in1, depth_deeper, depth_caller]); (try simp only [recursionLimit]); first | decide | exact Nat.le_trans (by with_reducible assumption) (by decide) | exact Nat.le_trans (Nat.add_le_add_right (by with_reducible assumption) _) (by decide) | omega)
  k_with "execs cons" => (k_here; dsimp only; k_gentoks)
  k_with "execs nil" => (k_here; dsimp only; k_gentoks)
  k_with "my k_all" => (with_reducible assumption)
  k_with "my k_ne" => (refine neN ?_; (try dsimp only); first | with_reducible assumption | exact Ne.symm (by with_reducible assumption) | exact NeA.ne (by with_reducible assumption) | exact Ne.symm (NeA.ne (by with_reducible assumption)) | exact Nat.ne_of_lt (by walk_at "pick") | exact Nat.ne_of_gt (by walk_at "pick") | exact Nat.ne_of_gt (Nat.lt_add_one_of_lt (by walk_at "pick")) | exact Nat.ne_of_lt (Nat.lt_add_one_of_lt (by walk_at "pick")) | walk_at "pick" | exact Ne.symm (by walk_at "pick") | omega)
  k_with "my k_units" => ((try simp only [units_under_make, units_in1, units_deeper, Around.mark_units, units_caller]); first | exact Nat.le_trans (Nat.add_le_add_right (by with_reducible assumption) _) (by decide) | exact Nat.le_trans (by with_reducible assumption) (by decide) | exact lt_cline1 (by with_reducible assumption) (by decide) | exact lt_cline2 (by with_reducible assumption) (by decide) | ((have hcL' := cLine_is); omega))
  k_with "subscriptTail Subscript Name Constant Slice ref ref" => (k_here; k_dflt (first | (refine' list_upto (s := ⟨_, _, _, _, _⟩) (by k_asm) (by k_asm) (by k_mem) (by with_reducible assumption) (by omega) (by omega) ?_) | (refine' list_from (s := ⟨_, _, _, _, _⟩) (by k_asm) (by k_asm) (by k_mem) (by with_reducible assumption) (by omega) (by omega) ?_)); intro D' ws' h' F' N' l1 hI'; (try k_lt l1); (try k_sweep))
  k_with "subscriptTail" => (k_here; (with_reducible show wpAny _ _ (subscriptTail _ _ (Value.ref _) (Value.int (Int.fmod _ _) _)) _ _ _); k_dflt (refine' ba_sub (by k_asm) (by k_mem) (by l_fact) (by l_fact) (by omega) ?_ (by with_unfolding_all rfl)))
  k_with "setItem ref int int" => (k_here; k_dflt (refine' ba_set (by k_asm) (by k_asm) (by k_upd) (by l_fact) (by l_fact) (by omega) (by omega) (by omega) ?_); intro h' F' N'; (try k_sweep))
  k_with "call builtin:len" => (k_here; (with_reducible show wpAny _ _ (PySem.call (Value.builtin "len") [Value.ref _]) _ _ _); k_dflt (refine' ba_lenN (by k_asm) (by k_mem) (by omega) ?_))
  k_with "exec For Name Subscript cons nil" => (k_here; refine forA ?_)
  k_with "pyIter bytes" => (k_here; refine KBw.pyIter_bytes ?_)
  k_with "call builtin:len" => (k_here; (with_reducible show wpAny _ _ (PySem.call (Value.builtin "len") [Value.ref _]) _ _ _); k_dflt (refine' list_lenN (by k_asm) (by k_mem) (by with_reducible assumption) (by ((try simp only [List.length_take, List.length_drop]); omega)) ?_))
  k_with "pick" => (focus (apply pickL; (iterate 13 (first | done | with_reducible assumption | apply pickR)); done))
  k_with "ne" => ((try dsimp only); first | assumption | exact Ne.symm (by assumption) | exact NeA.ne (by assumption) | exact Ne.symm (NeA.ne (by assumption)) | exact Nat.ne_of_lt (by walk_at "pick") | exact Nat.ne_of_gt (by walk_at "pick") | exact Nat.ne_of_gt (Nat.lt_add_one_of_lt (by walk_at "pick")) | exact Nat.ne_of_lt (Nat.lt_add_one_of_lt (by walk_at "pick")) | walk_at "pick" | exact Ne.symm (by walk_at "pick") | omega)
  k_with "num" => (first | with_reducible assumption | exact Int.le_add_of_nonneg_right (by decide) | exact nb12 (by with_reducible assumption) (by with_reducible assumption) | (focus ((repeat (first | with_reducible assumption | refine Int.add_nonneg ?_ (by decide))); done)) | exact Int.le_trans (by with_reducible assumption) (by decide) | exact Int.le_trans (Int.add_le_add_right (by with_reducible assumption) _) (by decide) | omega)
  k_with "rem" => (focus ((repeat (first | exact Rem.head | apply Rem.tail)); done))
  k_with "off" => (focus ((repeat (first | assumption | (refine off_cons ?_ ?_; (focus walk_at "ne")))); done))
  k_with "mem" => (focus ((repeat (first | exact List.Mem.head _ | refine List.Mem.tail _ ?_)); done))
  k_with "exec Raise some none" => (k_here; refine' Raise_newD (by first | rfl | with_unfolding_all rfl | assumption) ?_)
  trivial
set_option maxHeartbeats 4000000 in
theorem refused_in {w : World} {A₀ : Around} {dp un : Nat} {gd : Option (List Code)} {h₀ base : Heap} {env : Env} {L : Addr} {m mg mb : Str → Option Value} {s : Shared} {p : Program} {loose : List Str} {mean : ExcName → Option Value}
    {news : List (Addr × Obj)} {R : Result → Shared → Prop}
    (B : Below A₀ base [] h₀) (F : Fr h₀ L s.heap m) (X : (hd.heap_1 w.params).In h₀) (N : News h₀ L s.heap news) (T : Top p loose mean mg mb h₀) (XB : (hd.heap_1 w.params).In base) (TB : Top p loose mean mg mb base)
    (hf : env.frame = some L) (hke : env.scope.kind = .function) (hdep : dp ≤ 390) (hu : un ≤ 950)
    (kont : ∀ h tk, Fr h₀ L h m → News h₀ L h news → R (.ok (.ret (.bool true))) { s with heap := h, toks := tk }) :
    codeAny (model PySem.Challenge.rw_nz0210_01.prog w) ⟨none, dp, some [env], gd, un⟩ (.call (.ref 220) ⟨[], []⟩) R s := by
  refine' code_defS0X ?k1 ?k2 ?k3 ?k4 ?k5 ?kA hf hke ?k6 ?k7 ?k8 ?k9 ?kB ?_ ?c2 ?c3 ?c4 ?c5
  case kA => exact rfl
  case k1 => k_asm
  case k2 => k_asm
  case k3 => k_asm
  case k4 => k_asm
  case k5 => k_asm
  case k6 => k_is
  case k7 => k_is
  case k8 => k_room
  case k9 => exact BindsTo.of_eq rfl
  case kB => exact locs rfl
  case c2 => exact rfl
  case c3 => exact rfl
  case c4 => exact rfl
  case c5 => decide
  intro g' L' h' FG' F' N' B' X' T' D'
  dsimp only
  (repeat' (first | (k_unfold; (try dsimp only)) | walk1 | (dsimp only; walk1) | (leave1; (try dsimp only)) | fail "no step"))
  refine' bad_call ?Bb ?Fb ?Xb ?Nb ?Tb rfl rfl ?hdb ?hub (fun e t ob h' tk hc hd F' N' oe ot => ?_)
  case Bb => k_asm
  case Fb => k_asm
  case Xb => k_asm
  case Nb => k_asm
  case Tb => k_asm
  case hdb => k_room
  case hub => k_units
  obtain ⟨c, dx, da, sl⟩ := ob
  dsimp only at hc hd
  subst hc hd
  obtain ⟨nm, qn, Nn, bs, bm, hdct, sn, sub, ab, col, dd, k0, k1, k2, k3, k5, newId, hC, hbase, _⟩ := kts_cls (C := 45) (T := "ValueError") (Frag.In.keeps (by assumption) F'.keep) (by first | rfl | decide +kernel)
  refine ⟨e, t, 45, dx, sl, nm, qn, Nn, bs, bm, hdct, sn, sub, ab, col, dd, k0, k1, k2, k3, k5, newId, rfl, hC, hbase, (N' _ (.head _)).1, ?_⟩
  clear hC hbase
  (repeat' (first | (k_unfold; (try dsimp only)) | walk1 | (dsimp only; walk1) | (leave1; (try dsimp only)) | fail "no step"))
  refine' leave_raiseD ?kK ?kF ?kN oe ot ?kc ?kd (fun h₂ t₂ S₂ R₂ U₂ => ?_)
  case kK => k_asm
  case kF => assumption
  case kN => assumption
  case kc => rfl
  case kd => rfl
  (repeat' (first | (k_unfold; (try dsimp only)) | walk1 | (dsimp only; walk1) | (leave1; (try dsimp only)) | fail "no step"))
  unfold InitBack
  dsimp only
  (repeat' (first | (k_unfold; (try dsimp only)) | walk1 | (dsimp only; walk1) | (leave1; (try dsimp only)) | fail "no step"))
  refine' kont _ _ ?F2 (news_sub ?N2 ?S2)
  case F2 => assumption
  case N2 => assumption
  case S2 => (focus ((repeat (first | with_reducible exact fun _ h => h | exact sub_nil | (refine sub_cons ?_ ?_; (focus (focus ((repeat (first | exact List.Mem.head _ | refine List.Mem.tail _ ?_)); done)))) | refine sub_skip ?_)); done))
end

/-! part TCount -/
section
theorem linesTCount : True := by
  k_with_none
  k_with "my k_room" => ((try simp only [depth_under_make, depth_under_kw, depth_in1, depth_deeper, depth_caller]); (try simp only [recursionLimit]); first | decide | exact Nat.le_trans (by with_reducible assumption) (by decide) | exact Nat.le_trans (Nat.add_le_add_right (by with_reducible assumption) _) (by decide) | omega)
  k_with "execs cons" => (k_here; dsimp only; k_gentoks)
  k_with "execs nil" => (k_here; dsimp only; k_gentoks)
  k_with "my k_all" => (with_reducible assumption)
  k_with "my k_ne" => (refine neN ?_; (try dsimp only); first | with_reducible assumption | exact Ne.symm (by with_reducible assumption) | exact NeA.ne (by with_reducible assumption) | exact Ne.symm (NeA.ne (by with_reducible assumption)) | exact Nat.ne_of_lt (by walk_at "pick") | exact Nat.ne_of_gt (by walk_at "pick") | exact Nat.ne_of_gt (Nat.lt_add_one_of_lt (by walk_at "pick")) | exact Nat.ne_of_lt (Nat.lt_add_one_of_lt (by walk_at "pick")) | walk_at "pick" | exact Ne.symm (by walk_at "pick") | omega)
  k_with "my k_units" => ((try simp only [units_under_make, units_in1, units_deeper, Around.mark_units, units_caller]); first | exact Nat.le_trans (Nat.add_le_add_right (by with_reducible assumption) _) (by decide) | exact Nat.le_trans (by with_reducible assumption) (by decide) | exact lt_cline1 (by with_reducible assumption) (by decide) | exact lt_cline2 (by with_reducible assumption) (by decide) | ((have hcL' := cLine_is); omega))
  k_with "subscriptTail Subscript Name Constant Slice ref ref" => (k_here; k_dflt (first | (refine' list_upto (s := ⟨_, _, _, _, _⟩) (by k_asm) (by k_asm) (by k_mem) (by with_reducible assumption) (by omega) (by omega) ?_) | (refine' list_from (s := ⟨_, _, _, _, _⟩) (by k_asm) (by k_asm) (by k_mem) (by with_reducible assumption) (by omega) (by omega) ?_)); intro D' ws' h' F' N' l1 hI'; (try k_lt l1); (try k_sweep))
  k_with "subscriptTail" => (k_here; (with_reducible show wpAny _ _ (subscriptTail _ _ (Value.ref _) (Value.int (Int.fmod _ _) _)) _ _ _); k_dflt (refine' ba_sub (by k_asm) (by k_mem) (by l_fact) (by l_fact) (by omega) ?_ (by with_unfolding_all rfl)))
  k_with "setItem ref int int" => (k_here; k_dflt (refine' ba_set (by k_asm) (by k_asm) (by k_upd) (by l_fact) (by l_fact) (by omega) (by omega) (by omega) ?_); intro h' F' N'; (try k_sweep))
  k_with "call builtin:len" => (k_here; (with_reducible show wpAny _ _ (PySem.call (Value.builtin "len") [Value.ref _]) _ _ _); k_dflt (refine' ba_lenN (by k_asm) (by k_mem) (by omega) ?_))
  k_with "exec For Name Subscript cons nil" => (k_here; refine forA ?_)
  k_with "pyIter bytes" => (k_here; refine KBw.pyIter_bytes ?_)
  k_with "call builtin:len" => (k_here; (with_reducible show wpAny _ _ (PySem.call (Value.builtin "len") [Value.ref _]) _ _ _); k_dflt (refine' list_lenN (by k_asm) (by k_mem) (by with_reducible assumption) (by ((try simp only [List.length_take, List.length_drop]); omega)) ?_))
  k_with "pick" => (focus (apply pickL; (iterate 13 (first | done | with_reducible assumption | apply pickR)); done))
  k_with "ne" => ((try dsimp only); first | assumption | exact Ne.symm (by assumption) | exact NeA.ne (by assumption) | exact Ne.symm (NeA.ne (by assumption)) | exact Nat.ne_of_lt (by walk_at "pick") | exact Nat.ne_of_gt (by walk_at "pick") | exact Nat.ne_of_gt (Nat.lt_add_one_of_lt (by walk_at "pick")) | exact Nat.ne_of_lt (Nat.lt_add_one_of_lt (by walk_at "pick")) | walk_at "pick" | exact Ne.symm (by walk_at "pick") | omega)
  k_with "num" => (first | with_reducible assumption | exact Int.le_add_of_nonneg_right (by decide) | exact nb12 (by with_reducible assumption) (by with_reducible assumption) | (focus ((repeat (first | with_reducible assumption | refine Int.add_nonneg ?_ (by decide))); done)) | exact Int.le_trans (by with_reducible assumption) (by decide) | exact Int.le_trans (Int.add_le_add_right (by with_reducible assumption) _) (by decide) | omega)
  k_with "rem" => (focus ((repeat (first | exact Rem.head | apply Rem.tail)); done))
  k_with "off" => (focus ((repeat (first | assumption | (refine off_cons ?_ ?_; (focus walk_at "ne")))); done))
  k_with "mem" => (focus ((repeat (first | exact List.Mem.head _ | refine List.Mem.tail _ ?_)); done))
  k_with "call builtin:len" => (k_here; k_dflt (refine' kda_len (knd := PySem.intKind _ _) (by k_asm) (by k_mem) (by k_asm) (by assumption) (by omega) ?_))
  trivial
set_option maxHeartbeats 2000000 in
theorem tcount_in {w : World} {A₀ : Around} {dp un : Nat} {gd : Option (List Code)} {base h₀ : Heap} {outer : List Env} {env : Env} {L : Addr} {m mg mb : Str → Option Value} {s : Shared} {p : Program} {loose : List Str} {mean : ExcName → Option Value}
    {rest : List (Addr × Obj)} {R : Result → Shared → Prop}
    {tb td tp : Addr} {op : Obj} {kvs : List (Int × Value)} {tsz made : Int} {j1 j2 j3 u1 u2 : Tok}
    (B : Below A₀ base outer h₀) (F : Fr h₀ L s.heap m) (X : (hd.heap_1 w.params).In h₀)
    (N : News h₀ L s.heap ((tb, instObj 150 td) :: (td, tdO w tsz made j1 j2 j3 u1 u2 tp) :: (tp, op) :: rest)) (T : Top p loose mean mg mb h₀)
    (hf : env.frame = some L) (hke : env.scope.kind = .function) (hdep : dp ≤ 400) (hu : un ≤ 1000)
    (htp : (tp == sysModules) = false) (hkl : kvs.length ≤ 1000) (hkv : op.IsDictOf (PySem.intKind PySem.Challenge.rw_nz0210_01.prog w) kvs)
    (kont : ∀ h tk t, Fr h₀ L h m → News h₀ L h ((tb, instObj 150 td) :: (td, tdO w tsz made j1 j2 j3 u1 u2 tp) :: (tp, op) :: rest) → R (.ok (.ret (.int kvs.length t))) { s with heap := h, toks := tk }) :
    codeAny (model PySem.Challenge.rw_nz0210_01.prog w) ⟨none, dp, some (env :: outer), gd, un⟩ (.call (.ref 147) ⟨[.ref tb], []⟩) R s := by
  dsimp only [pdO, tdO] at N
  (refine' code_def ?k1 ?k2 ?k3 ?k4 ?k5 ?kA ?kF ?kK ?k6 ?k7 ?k8 ?k9 ?kB ?_ ?c2 ?c3 ?c4 ?c5; (case kA => exact rfl); (case kF => first | exact rfl | assumption); (case kK => first | exact rfl | assumption); (case k1 => k_asm); (case k2 => k_asm); (case k3 => k_asm); (case k4 => k_asm); (case k5 => k_asm); (case k6 => k_is); (case k7 => k_is); (case k8 => k_room); (case k9 => first | exact BindsTo.of_eq rfl | exact binds_K (by k_in) rfl (by k_is) rfl rfl rfl | fail "k_enter: no rule for these arguments"); (case c5 => decide); (case kB => exact locs rfl); (case c2 => exact rfl); (case c3 => exact rfl); (case c4 => exact rfl); k_whole; intro g' L' h' FG' F' N' B' X' T'; (try dsimp only); (try k_lift B'); (try k_fold))
  (repeat' (first | (k_unfold; (try dsimp only)) | walk1 | (dsimp only; walk1) | (leave1; (try dsimp only)) | fail "no step"))
  refine' kont _ _ _ ?F ?N
  case F => assumption
  case N => assumption
end

/-! part LawT7 -/
section
theorem linesLawT7 : True := by
  k_with_none
  k_with "my k_room" => ((try simp only [depth_under_make, depth_under_kw, depth_in1, depth_deeper, depth_caller]); (try simp only [recursionLimit]); first | decide | exact Nat.le_trans (by with_reducible assumption) (by decide) | exact Nat.le_trans (Nat.add_le_add_right (by with_reducible assumption) _) (by decide) | omega)
  k_with "execs cons" => (k_here; dsimp only; k_gentoks)
  k_with "execs nil" => (k_here; dsimp only; k_gentoks)
  k_with "my k_all" => (with_reducible assumption)
  k_with "my k_ne" => (refine neN ?_; (try dsimp only); first | with_reducible assumption | exact Ne.symm (by with_reducible assumption) | exact NeA.ne (by with_reducible assumption) | exact Ne.symm (NeA.ne (by with_reducible assumption)) | exact Nat.ne_of_lt (by walk_at "pick") | exact Nat.ne_of_gt (by walk_at "pick") | exact Nat.ne_of_gt (Nat.lt_add_one_of_lt (by walk_at "pick")) | exact Nat.ne_of_lt (Nat.lt_add_one_of_lt (by walk_at "pick")) | walk_at "pick" | exact Ne.symm (by walk_at "pick") | omega)
  k_with "my k_units" => ((try simp only [units_under_make, units_in1, units_deeper, Around.mark_units, units_caller]); first | exact Nat.le_trans (Nat.add_le_add_right (by with_reducible assumption) _) (by decide) | exact Nat.le_trans (by with_reducible assumption) (by decide) | exact lt_cline1 (by with_reducible assumption) (by decide) | exact lt_cline2 (by with_reducible assumption) (by decide) | ((have hcL' := cLine_is); omega))
  k_with "subscriptTail Subscript Name Constant Slice ref ref" => (k_here; k_dflt (first | (refine' list_upto (s := ⟨_, _, _, _, _⟩) (by k_asm) (by k_asm) (by k_mem) (by with_reducible assumption) (by omega) (by omega) ?_) | (refine' list_from (s := ⟨_, _, _, _, _⟩) (by k_asm) (by k_asm) (by k_mem) (by with_reducible assumption) (by omega) (by omega) ?_)); intro D' ws' h' F' N' l1 hI'; (try k_lt l1); (try k_sweep))
  k_with "subscriptTail" => (k_here; (with_reducible show wpAny _ _ (subscriptTail _ _ (Value.ref _) (Value.int (Int.fmod _ _) _)) _ _ _); k_dflt (refine' ba_sub (by k_asm) (by k_mem) (by l_fact) (by l_fact) (by omega) ?_ (by with_unfolding_all rfl)))
  k_with "setItem ref int int" => (k_here; k_dflt (refine' ba_set (by k_asm) (by k_asm) (by k_upd) (by l_fact) (by l_fact) (by omega) (by omega) (by omega) ?_); intro h' F' N'; (try k_sweep))
  k_with "call builtin:len" => (k_here; (with_reducible show wpAny _ _ (PySem.call (Value.builtin "len") [Value.ref _]) _ _ _); k_dflt (refine' ba_lenN (by k_asm) (by k_mem) (by omega) ?_))
  k_with "exec For Name Subscript cons nil" => (k_here; refine forA ?_)
  k_with "pyIter bytes" => (k_here; refine KBw.pyIter_bytes ?_)
  k_with "call builtin:len" => (k_here; (with_reducible show wpAny _ _ (PySem.call (Value.builtin "len") [Value.ref _]) _ _ _); k_dflt (refine' list_lenN (by k_asm) (by k_mem) (by with_reducible assumption) (by ((try simp only [List.length_take, List.length_drop]); omega)) ?_))
  k_with "pick" => (focus (apply pickL; (iterate 13 (first | done | with_reducible assumption | apply pickR)); done))
  k_with "ne" => ((try dsimp only); first | assumption | exact Ne.symm (by assumption) | exact NeA.ne (by assumption) | exact Ne.symm (NeA.ne (by assumption)) | exact Nat.ne_of_lt (by walk_at "pick") | exact Nat.ne_of_gt (by walk_at "pick") | exact Nat.ne_of_gt (Nat.lt_add_one_of_lt (by walk_at "pick")) | exact Nat.ne_of_lt (Nat.lt_add_one_of_lt (by walk_at "pick")) | walk_at "pick" | exact Ne.symm (by walk_at "pick") | omega)
  k_with "num" => (first | with_reducible assumption | exact Int.le_add_of_nonneg_right (by decide) | exact nb12 (by with_reducible assumption) (by with_reducible assumption) | (focus ((repeat (first | with_reducible assumption | refine Int.add_nonneg ?_ (by decide))); done)) | exact Int.le_trans (by with_reducible assumption) (by decide) | exact Int.le_trans (Int.add_le_add_right (by with_reducible assumption) _) (by decide) | omega)
  k_with "rem" => (focus ((repeat (first | exact Rem.head | apply Rem.tail)); done))
  k_with "off" => (focus ((repeat (first | assumption | (refine off_cons ?_ ?_; (focus walk_at "ne")))); done))
  k_with "mem" => (focus ((repeat (first | exact List.Mem.head _ | refine List.Mem.tail _ ?_)); done))
  k_with "my_mem" => (repeat (first | exact List.Mem.head _ | refine List.Mem.tail _ ?_))
  k_with "call builtin:len" => (k_here; (with_reducible show wpAny _ _ (PySem.call (Value.builtin "len") [Value.ref _]) _ _ _); k_dflt (refine' len_map (by k_asm) (by walk_at "my_mem") (by omega) ?_); intro t k)
  k_with "call ref" => (k_here; (try dsimp only); (with_reducible show wpAny _ _ (call (Value.ref 147) _) _ _ _); k_dflt ((refine' wpAny_call (tcount_in (by k_asm) (by k_asm) (by k_asm) (news_rem3 (by k_asm) (by walk_at "rem") (by walk_at "rem") (by walk_at "rem")) (by k_asm) rfl rfl (by k_room) (by k_units) (by assumption) ?_ (by assumption) (fun _ _ _ _ _ => ?_))); (next => omega)))
  trivial
def lawOf : Stmt → List Stmt × Scope
  | .FunctionDef _ _ b _ _ _ sc _ _ _ => (b, sc)
  | _ => ([], default)
def lawBody : List Stmt := (lawOf (PySem.Challenge.rw_nz0210_01.prog.main.body.getLast?.getD default)).1
def lawScope : Scope := (lawOf (PySem.Challenge.rw_nz0210_01.prog.main.body.getLast?.getD default)).2
def PG (w : World) (sz b : Int) (p : PS) : Prop :=
  p.oo.IsDictOf (PySem.strKind PySem.Challenge.rw_nz0210_01.prog w) [(Str.ofString "size", .int sz p.tz), (Str.ofString "queue", .ref p.q), (Str.ofString "reads", .bool p.ro), (Str.ofString "writes", .bool p.wo)] ∧ (p.od == sysModules) = false ∧
    IntsAre p.qv p.qn ∧ (∀ n ∈ p.qn, 0 ≤ n ∧ n < 256) ∧ 0 ≤ p.rc ∧ p.rc ≤ p.wc ∧ p.wc - p.rc ≤ sz ∧ p.wc ≤ b ∧ RingIs p.ring sz p.rc p.wc p.qn
theorem PG.up {w : World} {sz b b' : Int} {p : PS} (h : PG w sz b p) (hb : b ≤ b') : PG w sz b' p := ⟨h.1, h.2.1, h.2.2.1, h.2.2.2.1, h.2.2.2.2.1, h.2.2.2.2.2.1, h.2.2.2.2.2.2.1, Int.le_trans h.2.2.2.2.2.2.2.1 hb, h.2.2.2.2.2.2.2.2⟩
theorem len_map {prog : Program} {w : World} {A : Around} {E : Value → Shared → Prop} {s : Shared} {h₀ : Heap} {L D : Addr} {news : List (Addr × Obj)} {qs : List PS} {g : PS → Value} {Q : Value → Shared → Prop}
    (N : News h₀ L s.heap news) (hm : (D, LCg.lst (qs.map g)) ∈ news) (hc : qs.length ≤ 3) (h : ∀ t k, Q (.int qs.length t) { s with toks := k }) : wpAny (model prog w) A (PySem.call (.builtin "len") [.ref D]) Q E s :=
  Calls.call_len_list (News.isList N hm) (by simp; omega) (by simpa using h _ _)
set_option maxHeartbeats 4000000 in
theorem law7 {w : World} {h₀ : Heap} {fa : Addr} {cd : Value} {m mg mb : Str → Option Value} {s : Shared} {p : Program} {loose : List Str} {mean : ExcName → Option Value} {Q : Flow → Shared → Prop} {E : Value → Shared → Prop}
    {bx cl tb td tp cn pl bl : Addr} {bv : List Value} {bn : List Int} {bk bs : Int} {btk bts : Tok} {op ot : Obj} {kvs : List (Int × Value)} {sz made : Int} {j1 j2 j3 u1 u2 : Tok} {c0 : Int} {tc0 : Tok} {sh : Bool} {qs : List PS}
    (B : Below callerA h₀ [] h₀) (F : Fr h₀ h₀.objs.size s.heap (fun y => if y = Str.ofString "count" then some (.ref cn) else if y = Str.ofString "book" then some (.ref bl) else if y = Str.ofString "pipes" then some (.ref pl) else if y = Str.ofString "box" then some (.ref bx) else if y = Str.ofString "is_short" then some (.bool sh) else if y = Str.ofString "cells" then some (.ref cl) else m y)) (X : (hd.heap_1 w.params).In h₀) (N : News h₀ h₀.objs.size s.heap ((bx, W.listOf #[.ref cl, .int (bk) btk, .int bs bts] 0) :: (cl, W.listOf bv.toArray 0) :: (tb, instObj 150 td) :: (td, tdO w sz (made) j1 j2 j3 u1 u2 tp) :: (tp, op) :: (cn, W.listOf #[.int (c0) tc0, .bool sh] 0) :: (pl, LCg.lst (qs.map fun p => Value.ref p.x)) :: (bl, LCg.lst (qs.map fun p => Value.ref p.od)) :: (h₀.objs.size + 1 + 1, ot) :: allp w sz qs)) (T : Top p loose mean mg mb h₀)
    (hot : ot.data = .cell (some (.ref tb))) (htp : (tp == sysModules) = false)
    (hkv : op.IsDictOf (PySem.intKind PySem.Challenge.rw_nz0210_01.prog w) kvs) (hlen : qs.length ≤ 3) (hkl : kvs.length = qs.length) (hnd : (qs.map (·.id)).Nodup)
    (kont : ∀ h tk, Fr h₀ h₀.objs.size h (fun y => if y = Str.ofString "count" then some (.ref cn) else if y = Str.ofString "book" then some (.ref bl) else if y = Str.ofString "pipes" then some (.ref pl) else if y = Str.ofString "box" then some (.ref bx) else if y = Str.ofString "is_short" then some (.bool sh) else if y = Str.ofString "cells" then some (.ref cl) else m y) → News h₀ h₀.objs.size h ((bx, W.listOf #[.ref cl, .int (bk) btk, .int bs bts] 0) :: (cl, W.listOf bv.toArray 0) :: (tb, instObj 150 td) :: (td, tdO w sz (made) j1 j2 j3 u1 u2 tp) :: (tp, op) :: (cn, W.listOf #[.int (c0) tc0, .bool sh] 0) :: (pl, LCg.lst (qs.map fun p => Value.ref p.x)) :: (bl, LCg.lst (qs.map fun p => Value.ref p.od)) :: (h₀.objs.size + 1 + 1, ot) :: allp w sz qs) → wpC (model PySem.Challenge.rw_nz0210_01.prog w) (callerA.deeper (envOfC (Str.ofString "law") lawScope h₀.objs.size fa cd)) (execs (lawBody.drop 8) (envOfC (Str.ofString "law") lawScope h₀.objs.size fa cd)) Q E { s with heap := h, toks := tk }) :
    wpC (model PySem.Challenge.rw_nz0210_01.prog w) (callerA.deeper (envOfC (Str.ofString "law") lawScope h₀.objs.size fa cd)) (execs (lawBody.drop 7) (envOfC (Str.ofString "law") lawScope h₀.objs.size fa cd)) Q E s := by
  w_top on
  have eb : lawBody.drop 7 = lawBody.drop 7 := rfl
  conv at eb => rhs; whnf
  have es : lawScope = lawScope := rfl
  conv at es => rhs; unfold lawScope; whnf
  rw [eb, es]
  clear eb es

  refine execsC ?_
  refine ifC (orC (notC (truthC (callNameC ?_))))
  (repeat' (first | (k_unfold; (try dsimp only)) | walk1 | (dsimp only; walk1) | (leave1; (try dsimp only)) | fail "no step"))
  refine' callWithK1 (K := hd.heap_1 w.params) ?ck ?cq ?_
  case ck => exact X
  case cq => k_is
  (repeat' (first | (k_unfold; (try dsimp only)) | walk1 | (dsimp only; walk1) | (leave1; (try dsimp only)) | fail "no step"))
  refine' wpC_call (chan_in (ps := qs) (sz := sz) ?cB ?cF ?cX (news_rem ?cN ?cR) ?cT rfl rfl ?chd ?chu ?chps hnd (by omega) (fun h tk Fk Nk => ?_))
  case cB => k_asm
  case cF => k_asm
  case cX => k_asm
  case cN => k_asm
  case cT => k_asm
  case cR => (focus ((repeat (first | exact Rem.head | apply Rem.tail)); done))
  case chd => k_room
  case chu => k_units
  case chps =>
    intro p hp
    have hm1 : (p.x, instObj 107 p.d) ∈ allp w sz qs := List.mem_flatMap.mpr ⟨p, hp, .tail _ (.tail _ (.head _))⟩
    have hm2 : (p.d, p.pd w sz) ∈ allp w sz qs := List.mem_flatMap.mpr ⟨p, hp, .tail _ (.tail _ (.tail _ (.head _)))⟩
    exact ⟨by repeat (first | exact hm1 | refine List.Mem.tail _ ?_), by repeat (first | exact hm2 | refine List.Mem.tail _ ?_)⟩
  have N2 : News h₀ h₀.objs.size h ((bx, W.listOf #[.ref cl, .int (bk) btk, .int bs bts] 0) :: (cl, W.listOf bv.toArray 0) :: (tb, instObj 150 td) :: (td, tdO w sz (made) j1 j2 j3 u1 u2 tp) :: (tp, op) :: (cn, W.listOf #[.int (c0) tc0, .bool sh] 0) :: (pl, LCg.lst (qs.map fun p => Value.ref p.x)) :: (bl, LCg.lst (qs.map fun p => Value.ref p.od)) :: (h₀.objs.size + 1 + 1, ot) :: allp w sz qs) := news_sub Nk ?nk
  case nk => (focus ((repeat (first | with_reducible exact fun _ h => h | exact sub_nil | (refine sub_cons ?_ ?_; (focus (focus ((repeat (first | exact List.Mem.head _ | refine List.Mem.tail _ ?_)); done)))) | refine sub_skip ?_)); done))
  clear Nk F N
  dsimp only
  (repeat' (first | (k_unfold; (try dsimp only)) | walk1 | (dsimp only; walk1) | (leave1; (try dsimp only)) | fail "no step"))
  refine wpC_lift ?_
  (repeat' (first | (k_unfold; (try dsimp only)) | walk1 | (dsimp only; walk1) | (leave1; (try dsimp only)) | fail "no step"))
  · exfalso
    rename ¬ _ => hne
    omega
  · refine execsC_nil ?_
    dsimp only
    refine' kont _ _ ?kF (news_sub ?kN ?kS)
    case kF => assumption
    case kN => assumption
    case kS => (focus ((repeat (first | with_reducible exact fun _ h => h | exact sub_nil | (refine sub_cons ?_ ?_; (focus (focus ((repeat (first | exact List.Mem.head _ | refine List.Mem.tail _ ?_)); done)))) | refine sub_skip ?_)); done))

end

/-! part LawT8 -/
section
theorem linesLawT8 : True := by
  k_with_none
  k_with "my k_room" => ((try simp only [depth_under_make, depth_under_kw, depth_in1, depth_deeper, depth_caller]); (try simp only [recursionLimit]); first | decide | exact Nat.le_trans (by with_reducible assumption) (by decide) | exact Nat.le_trans (Nat.add_le_add_right (by with_reducible assumption) _) (by decide) | omega)
  k_with "execs cons" => (k_here; dsimp only; k_gentoks)
  k_with "execs nil" => (k_here; dsimp only; k_gentoks)
  k_with "my k_all" => (with_reducible assumption)
  k_with "my k_ne" => (refine neN ?_; (try dsimp only); first | with_reducible assumption | exact Ne.symm (by with_reducible assumption) | exact NeA.ne (by with_reducible assumption) | exact Ne.symm (NeA.ne (by with_reducible assumption)) | exact Nat.ne_of_lt (by walk_at "pick") | exact Nat.ne_of_gt (by walk_at "pick") | exact Nat.ne_of_gt (Nat.lt_add_one_of_lt (by walk_at "pick")) | exact Nat.ne_of_lt (Nat.lt_add_one_of_lt (by walk_at "pick")) | walk_at "pick" | exact Ne.symm (by walk_at "pick") | omega)
  k_with "my k_units" => ((try simp only [units_under_make, units_in1, units_deeper, Around.mark_units, units_caller]); first | exact Nat.le_trans (Nat.add_le_add_right (by with_reducible assumption) _) (by decide) | exact Nat.le_trans (by with_reducible assumption) (by decide) | exact lt_cline1 (by with_reducible assumption) (by decide) | exact lt_cline2 (by with_reducible assumption) (by decide) | ((have hcL' := cLine_is); omega))
  k_with "subscriptTail Subscript Name Constant Slice ref ref" => (k_here; k_dflt (first | (refine' list_upto (s := ⟨_, _, _, _, _⟩) (by k_asm) (by k_asm) (by k_mem) (by with_reducible assumption) (by omega) (by omega) ?_) | (refine' list_from (s := ⟨_, _, _, _, _⟩) (by k_asm) (by k_asm) (by k_mem) (by with_reducible assumption) (by omega) (by omega) ?_)); intro D' ws' h' F' N' l1 hI'; (try k_lt l1); (try k_sweep))
  k_with "subscriptTail" => (k_here; (with_reducible show wpAny _ _ (subscriptTail _ _ (Value.ref _) (Value.int (Int.fmod _ _) _)) _ _ _); k_dflt (refine' ba_sub (by k_asm) (by k_mem) (by l_fact) (by l_fact) (by omega) ?_ (by with_unfolding_all rfl)))
  k_with "setItem ref int int" => (k_here; k_dflt (refine' ba_set (by k_asm) (by k_asm) (by k_upd) (by l_fact) (by l_fact) (by omega) (by omega) (by omega) ?_); intro h' F' N'; (try k_sweep))
  k_with "call builtin:len" => (k_here; (with_reducible show wpAny _ _ (PySem.call (Value.builtin "len") [Value.ref _]) _ _ _); k_dflt (refine' ba_lenN (by k_asm) (by k_mem) (by omega) ?_))
  k_with "exec For Name Subscript cons nil" => (k_here; refine forA ?_)
  k_with "pyIter bytes" => (k_here; refine KBw.pyIter_bytes ?_)
  k_with "call builtin:len" => (k_here; (with_reducible show wpAny _ _ (PySem.call (Value.builtin "len") [Value.ref _]) _ _ _); k_dflt (refine' list_lenN (by k_asm) (by k_mem) (by with_reducible assumption) (by ((try simp only [List.length_take, List.length_drop]); omega)) ?_))
  k_with "pick" => (focus (apply pickL; (iterate 13 (first | done | with_reducible assumption | apply pickR)); done))
  k_with "ne" => ((try dsimp only); first | assumption | exact Ne.symm (by assumption) | exact NeA.ne (by assumption) | exact Ne.symm (NeA.ne (by assumption)) | exact Nat.ne_of_lt (by walk_at "pick") | exact Nat.ne_of_gt (by walk_at "pick") | exact Nat.ne_of_gt (Nat.lt_add_one_of_lt (by walk_at "pick")) | exact Nat.ne_of_lt (Nat.lt_add_one_of_lt (by walk_at "pick")) | walk_at "pick" | exact Ne.symm (by walk_at "pick") | omega)
  k_with "num" => (first | with_reducible assumption | exact Int.le_add_of_nonneg_right (by decide) | exact nb12 (by with_reducible assumption) (by with_reducible assumption) | (focus ((repeat (first | with_reducible assumption | refine Int.add_nonneg ?_ (by decide))); done)) | exact Int.le_trans (by with_reducible assumption) (by decide) | exact Int.le_trans (Int.add_le_add_right (by with_reducible assumption) _) (by decide) | omega)
  k_with "rem" => (focus ((repeat (first | exact Rem.head | apply Rem.tail)); done))
  k_with "off" => (focus ((repeat (first | assumption | (refine off_cons ?_ ?_; (focus walk_at "ne")))); done))
  k_with "mem" => (focus ((repeat (first | exact List.Mem.head _ | refine List.Mem.tail _ ?_)); done))
  k_with "call ref" => (k_here; (with_reducible show wpAny _ _ (call (Value.ref 161) _) _ _ _); k_dflt ((refine' wpAny_call (take_u (bk := _) (btk := _) (by k_asm) (by k_asm) (by k_asm) (by k_asm) (by k_asm) rfl rfl (by k_room) (by k_units) (by k_updF) (by k_mem) (by walk_at "ne") (by assumption) (by assumption) (by walk_at "num") (by walk_at "num") (by walk_at "num") (by walk_at "num") (by first | omega | exact (pick3 (by assumption) (by assumption)).1 | exact (pick2 (by assumption) (by assumption)).1) (by first | omega | exact Int.le_trans (pick3 (by assumption) (by assumption)).2 (by decide) | exact Int.le_trans (pick2 (by assumption) (by assumption)).2 (by decide)) ?_))); intro r t h t' tk hr0 hr1 F' N'; (try dsimp only at N'); (try dsimp only); revert r t h t' tk hr0 hr1 F' N'; intro _ _ _ _ _ _ _ _ _)
  k_with "my_mem" => (repeat (first | exact List.Mem.head _ | refine List.Mem.tail _ ?_))
  k_with "call builtin:len" => (k_here; (with_reducible show wpAny _ _ (PySem.call (Value.builtin "len") [Value.ref _]) _ _ _); k_dflt (refine' len_map (by k_asm) (by walk_at "my_mem") (by omega) ?_); intro t k)
  k_with "subscriptTail" => (k_here; (with_reducible show wpAny _ _ (subscriptTail _ _ (Value.ref _) (Value.int _ _)) _ _ _); k_dflt (refine' item_at (by k_asm) (by walk_at "my_mem") (by omega) (by omega) (by assumption) ?_))
  trivial
def turnBody : List Stmt := match lawBody.drop 8 with | (.For _ _ b _ _) :: _ => b | _ => []
theorem map_law {f : Str → Option Value} {cn bl pl bx cl : Addr} {sh : Bool} (h1 : f (Str.ofString "count") = some (.ref cn)) (h2 : f (Str.ofString "book") = some (.ref bl)) (h3 : f (Str.ofString "pipes") = some (.ref pl)) (h4 : f (Str.ofString "box") = some (.ref bx)) (h5 : f (Str.ofString "is_short") = some (.bool sh)) (h6 : f (Str.ofString "cells") = some (.ref cl)) :
    f = (fun y => if y = Str.ofString "count" then some (.ref cn) else if y = Str.ofString "book" then some (.ref bl) else if y = Str.ofString "pipes" then some (.ref pl) else if y = Str.ofString "box" then some (.ref bx) else if y = Str.ofString "is_short" then some (.bool sh) else if y = Str.ofString "cells" then some (.ref cl) else f y) := by
  funext y
  by_cases e1 : y = Str.ofString "count"
  · rw [if_pos e1, e1, h1]
  by_cases e2 : y = Str.ofString "book"
  · rw [if_neg e1, if_pos e2, e2, h2]
  by_cases e3 : y = Str.ofString "pipes"
  · rw [if_neg e1, if_neg e2, if_pos e3, e3, h3]
  by_cases e4 : y = Str.ofString "box"
  · rw [if_neg e1, if_neg e2, if_neg e3, if_pos e4, e4, h4]
  by_cases e5 : y = Str.ofString "is_short"
  · rw [if_neg e1, if_neg e2, if_neg e3, if_neg e4, if_pos e5, e5, h5]
  by_cases e6 : y = Str.ofString "cells"
  · rw [if_neg e1, if_neg e2, if_neg e3, if_neg e4, if_neg e5, if_pos e6, e6, h6]
  rw [if_neg e1, if_neg e2, if_neg e3, if_neg e4, if_neg e5, if_neg e6]
theorem led_split (w : World) (sz : Int) (l1 l2 : List PS) (p : PS) (b1 b2 b3 b4 b5 c e1 e2 e3 e4 : Addr × Obj) :
    (b1 :: b2 :: b3 :: b4 :: b5 :: c :: e1 :: e2 :: e3 :: e4 :: allp w sz (l1 ++ p :: l2)).Perm
      (b1 :: b2 :: b3 :: b4 :: b5 :: (p.od, p.oo) :: (p.q, W.listOf p.qv.toArray p.nq) :: (p.x, instObj 107 p.d) :: (p.d, p.pd w sz) :: (p.r, baOf p.ring) :: c :: e1 :: e2 :: e3 :: e4 :: (allp w sz l1 ++ allp w sz l2)) := by
  have h := allp_split w sz l1 l2 p [c, e1, e2, e3, e4] []
  rw [List.append_nil, List.append_nil] at h
  exact List.Perm.cons _ (List.Perm.cons _ (List.Perm.cons _ (List.Perm.cons _ (List.Perm.cons _ h))))
theorem without_len {kvs : List (Int × Value)} {k : Int} : (without kvs k).length ≤ kvs.length := by
  unfold without
  exact List.length_filter_le _ _
theorem without_mem {kvs : List (Int × Value)} {k : Int} : ∀ kv ∈ without kvs k, kv ∈ kvs ∧ kv.1 ≠ k := by
  unfold without
  intro kv h
  have := List.mem_filter.mp h
  exact ⟨this.1, by simpa using this.2⟩
theorem split_at {qs : List PS} {r : Int} (h0 : 0 ≤ r) (h1 : r < (qs.length : Int)) : ∃ l1 p l2, qs = l1 ++ p :: l2 ∧ l1.length = r.toNat := by
  have h : r.toNat < qs.length := by omega
  refine ⟨qs.take r.toNat, qs[r.toNat], qs.drop (r.toNat + 1), ?_, by rw [List.length_take]; omega⟩
  rw [List.getElem_cons_drop, List.take_append_drop]
theorem pick_at {l1 l2 : List PS} {p : PS} {n : Nat} {g : PS → Value} (h : l1.length = n) : ((l1 ++ p :: l2).map g)[n]? = some (g p) := by
  subst h
  simp
set_option maxHeartbeats 4000000 in
theorem law8_turn {w : World} {h₀ : Heap} {fa : Addr} {cd : Value} {m mg mb : Str → Option Value} {s : Shared} {p : Program} {loose : List Str} {mean : ExcName → Option Value} {Q : Flow → Shared → Prop} {E : Value → Shared → Prop}
    {bx cl tb td tp cn pl bl : Addr} {bv : List Value} {bn : List Int} {bk bs : Int} {btk bts : Tok} {op ot : Obj} {kvs : List (Int × Value)} {sz made : Int} {j1 j2 j3 u1 u2 : Tok} {c0 : Int} {tc0 : Tok} {sh : Bool} {qs : List PS} {I : Addr} {oI : Obj} {b : Int}
    (B : Below callerA h₀ [] h₀) (F : Fr h₀ h₀.objs.size s.heap (fun y => if y = Str.ofString "count" then some (.ref cn) else if y = Str.ofString "book" then some (.ref bl) else if y = Str.ofString "pipes" then some (.ref pl) else if y = Str.ofString "box" then some (.ref bx) else if y = Str.ofString "is_short" then some (.bool sh) else if y = Str.ofString "cells" then some (.ref cl) else m y)) (X : (hd.heap_1 w.params).In h₀) (N : News h₀ h₀.objs.size s.heap ((bx, W.listOf #[.ref cl, .int (bk) btk, .int bs bts] 0) :: (cl, W.listOf bv.toArray 0) :: (tb, instObj 150 td) :: (td, tdO w sz (made) j1 j2 j3 u1 u2 tp) :: (tp, op) :: (cn, W.listOf #[.int (c0) tc0, .bool sh] 0) :: (pl, LCg.lst (qs.map fun p => Value.ref p.x)) :: (bl, LCg.lst (qs.map fun p => Value.ref p.od)) :: (h₀.objs.size + 1 + 1, ot) :: (I, oI) :: allp w sz qs)) (T : Top p loose mean mg mb h₀)
    (hot : ot.data = .cell (some (.ref tb))) (htp : (tp == sysModules) = false) (AD : AP ((bx, W.listOf #[.ref cl, .int (bk) btk, .int bs bts] 0) :: (cl, W.listOf bv.toArray 0) :: (tb, instObj 150 td) :: (td, tdO w sz (made) j1 j2 j3 u1 u2 tp) :: (tp, op) :: (cn, W.listOf #[.int (c0) tc0, .bool sh] 0) :: (pl, LCg.lst (qs.map fun p => Value.ref p.x)) :: (bl, LCg.lst (qs.map fun p => Value.ref p.od)) :: (h₀.objs.size + 1 + 1, ot) :: (I, oI) :: allp w sz qs))
    (hbI : IntsAre bv bn) (hbn : bn.length ≤ 40) (hbk0 : 0 ≤ bk) (hbk1 : bk ≤ 70000) (hbs0 : 0 ≤ bs) (hbs1 : bs < 1009)
    (hkv : op.IsDictOf (PySem.intKind PySem.Challenge.rw_nz0210_01.prog w) kvs) (hlen : qs.length ≤ 3) (hlen1 : 1 ≤ qs.length) (hkl : kvs.length ≤ 3) (hsz : 1 ≤ sz) (hsz1 : sz ≤ 40) (hc0 : 0 ≤ c0) (hc1 : c0 ≤ 90000) (hb : b ≤ 90000) (hg : ∀ p ∈ qs, PG w sz b p)
    (kont : ∀ bk' btk' op' kvs' c0' tc0' qs' f h tk, bk ≤ bk' → bk' ≤ bk + 5 → op'.IsDictOf (PySem.intKind PySem.Challenge.rw_nz0210_01.prog w) kvs' → kvs'.length ≤ 3 → (∀ kv ∈ kvs', kv ∈ kvs) → 0 ≤ c0' → c0' ≤ c0 + 64 → qs'.map (·.id) = qs.map (·.id) → (∀ p ∈ qs', PG w sz (b + 64) p) →
      Fr h₀ h₀.objs.size h f → (∀ y, y ≠ Str.ofString "which" → f y = (fun y => if y = Str.ofString "count" then some (.ref cn) else if y = Str.ofString "book" then some (.ref bl) else if y = Str.ofString "pipes" then some (.ref pl) else if y = Str.ofString "box" then some (.ref bx) else if y = Str.ofString "is_short" then some (.bool sh) else if y = Str.ofString "cells" then some (.ref cl) else m y) y) → News h₀ h₀.objs.size h ((bx, W.listOf #[.ref cl, .int (bk') btk', .int bs bts] 0) :: (cl, W.listOf bv.toArray 0) :: (tb, instObj 150 td) :: (td, tdO w sz (made) j1 j2 j3 u1 u2 tp) :: (tp, op') :: (cn, W.listOf #[.int (c0') tc0', .bool sh] 0) :: (pl, LCg.lst (qs'.map fun p => Value.ref p.x)) :: (bl, LCg.lst (qs'.map fun p => Value.ref p.od)) :: (h₀.objs.size + 1 + 1, ot) :: (I, oI) :: allp w sz qs') → AP ((bx, W.listOf #[.ref cl, .int (bk') btk', .int bs bts] 0) :: (cl, W.listOf bv.toArray 0) :: (tb, instObj 150 td) :: (td, tdO w sz (made) j1 j2 j3 u1 u2 tp) :: (tp, op') :: (cn, W.listOf #[.int (c0') tc0', .bool sh] 0) :: (pl, LCg.lst (qs'.map fun p => Value.ref p.x)) :: (bl, LCg.lst (qs'.map fun p => Value.ref p.od)) :: (h₀.objs.size + 1 + 1, ot) :: (I, oI) :: allp w sz qs') → Q .next { s with heap := h, toks := tk }) :
    wpC (model PySem.Challenge.rw_nz0210_01.prog w) (callerA.deeper (envOfC (Str.ofString "law") lawScope h₀.objs.size fa cd)) (execs turnBody (envOfC (Str.ofString "law") lawScope h₀.objs.size fa cd)) Q E s := by
  w_top on
  have eb : turnBody = turnBody := rfl
  conv at eb => rhs; whnf
  have es : lawScope = lawScope := rfl
  conv at es => rhs; unfold lawScope; whnf
  rw [eb, es]
  clear eb es

  have hoff := ap_off AD
  dsimp only at hoff
  have hbc : NeA bx cl := ⟨Ne.symm (hoff (cl, _) (.head _))⟩
  refine execsC_lift ?_
  (repeat' (first | (k_unfold; (try dsimp only)) | walk1 | (dsimp only; walk1) | (leave1; (try dsimp only)) | fail "no step"))
  dsimp only
  rename_i r tr ha t' tka hr0 hr1 hb1 F1 N1
  obtain ⟨l1, p, l2, rfl, hl1⟩ := split_at hr0 hr1
  have hx1 : ((l1 ++ p :: l2).map (fun p => Value.ref p.x))[r.toNat]? = some (.ref p.x) := pick_at hl1
  have hx2 : ((l1 ++ p :: l2).map (fun p => Value.ref p.od))[r.toNat]? = some (.ref p.od) := pick_at hl1
  obtain ⟨hD, hsys, hI, hqb, hrc0, hrw, hws, hwc, hri⟩ := hg p (List.mem_append_right _ (.head _))
  have N2 := news_perm N1 (led_split w sz l1 l2 p _ _ _ _ _ _ _ _ _ _)
  have AD1 := ap_head (p' := (bx, W.listOf #[.ref cl, .int (bk + 1) t', .int bs bts] 0)) AD rfl
  have AD2 := ap_perm (led_split w sz l1 l2 p _ _ _ _ _ _ _ _ _ _) AD1
  clear N1 AD AD1 hoff hbc
  refine execsC ?_
  refine ifC (orC (notC (truthC (callNameC ?_))))
  (repeat' (first | (k_unfold; (try dsimp only)) | walk1 | (dsimp only; walk1) | (leave1; (try dsimp only)) | fail "no step"))
  refine' callWithK1 (K := hd.heap_1 w.params) ?ck ?cq ?_
  case ck => exact X
  case cq => k_is
  (repeat' (first | (k_unfold; (try dsimp only)) | walk1 | (dsimp only; walk1) | (leave1; (try dsimp only)) | fail "no step"))
  refine' wpC_call (deed_w (nb := 0) (nc := 0) (ncn := 0) (kvs := kvs) (nq := p.nq) (cn := cn) ?dB ?dF ?dX ?dN ?dT rfl rfl ?dhd ?dhu AD2 hbI hbn (by omega) (by omega) hbs0 hbs1 htp (by omega) hkv hD hsys hI hqb hsz hsz1 hrc0 hrw hws (by omega) hri hc0 (by omega) ?dk)
  case dB => k_asm
  case dF => k_asm
  case dX => k_asm
  case dN => k_asm
  case dT => k_asm
  case dhd => k_room
  case dhu => k_units
  intro bk' btk' kvs' op' oo' q' qv' qn' nq' rc' wc' ro' wo' ring' t4' t5' c0' tc0' h2 tk2 hk1 hk2 hkk hkv' hD' hI' hqb' hrc0' hrw' hws' hwc' hri' hc0' hc1' F3 N3 AD3
  clear N2 AD2 F1
  dsimp only
  (repeat' (first | (k_unfold; (try dsimp only)) | walk1 | (dsimp only; walk1) | (leave1; (try dsimp only)) | fail "no step"))
  refine notC (truthC (callNameC ?_))
  (repeat' (first | (k_unfold; (try dsimp only)) | walk1 | (dsimp only; walk1) | (leave1; (try dsimp only)) | fail "no step"))
  refine' callWithK1 (K := hd.heap_1 w.params) ?ck2 ?cq2 ?_
  case ck2 => exact X
  case cq2 => k_is
  (repeat' (first | (k_unfold; (try dsimp only)) | walk1 | (dsimp only; walk1) | (leave1; (try dsimp only)) | fail "no step"))
  have hkl' : kvs'.length ≤ 3 := by
    rcases hkk with rfl | rfl
    · exact hkl
    · exact Nat.le_trans without_len hkl
  have hks' : ∀ kv ∈ kvs', kv ∈ kvs := by
    rcases hkk with rfl | rfl
    · exact fun _ h => h
    · exact fun kv h => (without_mem kv h).1
  clear hkk
  refine' wpC_lift (wpAny_call (alike_w (bn := bn) (nb := 0) (nc := 0) (ncn := 0) (kvs := kvs') (nq := nq') (cn := cn) ?aB ?aF ?aX ?aN ?aT rfl rfl ?ahd ?ahu AD3 htp (by omega) hkv' hD' hsys hI' hqb' hsz hsz1 hrc0' hrw' hws' (by omega) hri' ?ak))
  case aB => k_asm
  case aF => k_asm
  case aX => k_asm
  case aN => k_asm
  case aT => k_asm
  case ahd => k_room
  case ahu => k_units
  intro h3 tk3 F4 N4
  clear N3 F3
  dsimp only
  (repeat' (first | (k_unfold; (try dsimp only)) | walk1 | (dsimp only; walk1) | (leave1; (try dsimp only)) | fail "no step"))
  refine execsC_nil ?_
  dsimp only
  refine execsC_nil ?_
  let p' : PS := { p with oo := oo', q := q', qv := qv', qn := qn', nq := nq', rc := rc', wc := wc', ro := ro', wo := wo', ring := ring', t4 := t4', t5 := t5' }
  have e1 : ((l1 ++ p' :: l2).map fun p => Value.ref p.x) = (l1 ++ p :: l2).map fun p => Value.ref p.x := by
    rw [List.map_append, List.map_append]
    rfl
  have e2 : ((l1 ++ p' :: l2).map fun p => Value.ref p.od) = (l1 ++ p :: l2).map fun p => Value.ref p.od := by
    rw [List.map_append, List.map_append]
    rfl
  refine' kont bk' btk' op' kvs' c0' tc0' (l1 ++ p' :: l2) _ h3 tk3 (by omega) (by omega) hkv' hkl' hks' hc0' hc1' ?zi ?zg F4 ?zf ?zN ?zA
  case zi =>
    rw [List.map_append, List.map_append]
    rfl
  case zg =>
    intro z hz
    rcases List.mem_append.mp hz with hz | hz
    · exact (hg z (List.mem_append_left _ hz)).up (by omega)
    rcases List.mem_cons.mp hz with rfl | hz
    · exact ⟨hD', hsys, hI', hqb', hrc0', hrw', hws', (show wc' ≤ b + 64 by omega), hri'⟩
    · exact (hg z (List.mem_append_right _ (.tail _ hz))).up (by omega)
  case zf => exact fun y hy => if_neg hy
  case zN =>
    rw [e1, e2]
    exact news_perm N4 (led_split w sz l1 l2 p' _ _ _ _ _ _ _ _ _ _).symm
  case zA =>
    rw [e1, e2]
    exact ap_perm (led_split w sz l1 l2 p' _ _ _ _ _ _ _ _ _ _).symm AD3

end

/-! part LawT9 -/
section
theorem linesLawT9 : True := by
  k_with_none
  k_with "my k_room" => ((try simp only [depth_under_make, depth_under_kw, depth_in1, depth_deeper, depth_caller]); (try simp only [recursionLimit]); first | decide | exact Nat.le_trans (by with_reducible assumption) (by decide) | exact Nat.le_trans (Nat.add_le_add_right (by with_reducible assumption) _) (by decide) | omega)
  k_with "execs cons" => (k_here; dsimp only; k_gentoks)
  k_with "execs nil" => (k_here; dsimp only; k_gentoks)
  k_with "my k_all" => (with_reducible assumption)
  k_with "my k_ne" => (refine neN ?_; (try dsimp only); first | with_reducible assumption | exact Ne.symm (by with_reducible assumption) | exact NeA.ne (by with_reducible assumption) | exact Ne.symm (NeA.ne (by with_reducible assumption)) | exact Nat.ne_of_lt (by walk_at "pick") | exact Nat.ne_of_gt (by walk_at "pick") | exact Nat.ne_of_gt (Nat.lt_add_one_of_lt (by walk_at "pick")) | exact Nat.ne_of_lt (Nat.lt_add_one_of_lt (by walk_at "pick")) | walk_at "pick" | exact Ne.symm (by walk_at "pick") | omega)
  k_with "my k_units" => ((try simp only [units_under_make, units_in1, units_deeper, Around.mark_units, units_caller]); first | exact Nat.le_trans (Nat.add_le_add_right (by with_reducible assumption) _) (by decide) | exact Nat.le_trans (by with_reducible assumption) (by decide) | exact lt_cline1 (by with_reducible assumption) (by decide) | exact lt_cline2 (by with_reducible assumption) (by decide) | ((have hcL' := cLine_is); omega))
  k_with "subscriptTail Subscript Name Constant Slice ref ref" => (k_here; k_dflt (first | (refine' list_upto (s := ⟨_, _, _, _, _⟩) (by k_asm) (by k_asm) (by k_mem) (by with_reducible assumption) (by omega) (by omega) ?_) | (refine' list_from (s := ⟨_, _, _, _, _⟩) (by k_asm) (by k_asm) (by k_mem) (by with_reducible assumption) (by omega) (by omega) ?_)); intro D' ws' h' F' N' l1 hI'; (try k_lt l1); (try k_sweep))
  k_with "subscriptTail" => (k_here; (with_reducible show wpAny _ _ (subscriptTail _ _ (Value.ref _) (Value.int (Int.fmod _ _) _)) _ _ _); k_dflt (refine' ba_sub (by k_asm) (by k_mem) (by l_fact) (by l_fact) (by omega) ?_ (by with_unfolding_all rfl)))
  k_with "setItem ref int int" => (k_here; k_dflt (refine' ba_set (by k_asm) (by k_asm) (by k_upd) (by l_fact) (by l_fact) (by omega) (by omega) (by omega) ?_); intro h' F' N'; (try k_sweep))
  k_with "call builtin:len" => (k_here; (with_reducible show wpAny _ _ (PySem.call (Value.builtin "len") [Value.ref _]) _ _ _); k_dflt (refine' ba_lenN (by k_asm) (by k_mem) (by omega) ?_))
  k_with "exec For Name Subscript cons nil" => (k_here; refine forA ?_)
  k_with "pyIter bytes" => (k_here; refine KBw.pyIter_bytes ?_)
  k_with "call builtin:len" => (k_here; (with_reducible show wpAny _ _ (PySem.call (Value.builtin "len") [Value.ref _]) _ _ _); k_dflt (refine' list_lenN (by k_asm) (by k_mem) (by with_reducible assumption) (by ((try simp only [List.length_take, List.length_drop]); omega)) ?_))
  k_with "pick" => (focus (apply pickL; (iterate 13 (first | done | with_reducible assumption | apply pickR)); done))
  k_with "ne" => ((try dsimp only); first | assumption | exact Ne.symm (by assumption) | exact NeA.ne (by assumption) | exact Ne.symm (NeA.ne (by assumption)) | exact Nat.ne_of_lt (by walk_at "pick") | exact Nat.ne_of_gt (by walk_at "pick") | exact Nat.ne_of_gt (Nat.lt_add_one_of_lt (by walk_at "pick")) | exact Nat.ne_of_lt (Nat.lt_add_one_of_lt (by walk_at "pick")) | walk_at "pick" | exact Ne.symm (by walk_at "pick") | omega)
  k_with "num" => (first | with_reducible assumption | exact Int.le_add_of_nonneg_right (by decide) | exact nb12 (by with_reducible assumption) (by with_reducible assumption) | (focus ((repeat (first | with_reducible assumption | refine Int.add_nonneg ?_ (by decide))); done)) | exact Int.le_trans (by with_reducible assumption) (by decide) | exact Int.le_trans (Int.add_le_add_right (by with_reducible assumption) _) (by decide) | omega)
  k_with "rem" => (focus ((repeat (first | exact Rem.head | apply Rem.tail)); done))
  k_with "off" => (focus ((repeat (first | assumption | (refine off_cons ?_ ?_; (focus walk_at "ne")))); done))
  k_with "mem" => (focus ((repeat (first | exact List.Mem.head _ | refine List.Mem.tail _ ?_)); done))
  k_with "my_mem" => (repeat (first | exact List.Mem.head _ | refine List.Mem.tail _ ?_))
  k_with "call builtin:len" => (k_here; (with_reducible show wpAny _ _ (PySem.call (Value.builtin "len") [Value.ref _]) _ _ _); k_dflt (refine' list_lenN (by k_asm) (by walk_at "my_mem") (by with_reducible assumption) (by omega) ?_))
  trivial
structure LS where
  (bk : Int) (btk : Tok) (op : Obj) (kvs : List (Int × Value)) (c0 : Int) (tc0 : Tok) (qs : List PS)
set_option maxHeartbeats 4000000 in
theorem law8 {w : World} {h₀ : Heap} {fa : Addr} {cd : Value} {m mg mb : Str → Option Value} {s : Shared} {p : Program} {loose : List Str} {mean : ExcName → Option Value} {Q : Flow → Shared → Prop} {E : Value → Shared → Prop}
    {bx cl tb td tp cn pl bl : Addr} {bv : List Value} {bn : List Int} {bk bs : Int} {btk bts : Tok} {op ot : Obj} {kvs : List (Int × Value)} {sz made : Int} {j1 j2 j3 u1 u2 : Tok} {c0 : Int} {tc0 : Tok} {sh : Bool} {qs : List PS}
    (B : Below callerA h₀ [] h₀) (F : Fr h₀ h₀.objs.size s.heap (fun y => if y = Str.ofString "count" then some (.ref cn) else if y = Str.ofString "book" then some (.ref bl) else if y = Str.ofString "pipes" then some (.ref pl) else if y = Str.ofString "box" then some (.ref bx) else if y = Str.ofString "is_short" then some (.bool sh) else if y = Str.ofString "cells" then some (.ref cl) else m y)) (X : (hd.heap_1 w.params).In h₀) (N : News h₀ h₀.objs.size s.heap ((bx, W.listOf #[.ref cl, .int (bk) btk, .int bs bts] 0) :: (cl, W.listOf bv.toArray 0) :: (tb, instObj 150 td) :: (td, tdO w sz (made) j1 j2 j3 u1 u2 tp) :: (tp, op) :: (cn, W.listOf #[.int (c0) tc0, .bool sh] 0) :: (pl, LCg.lst (qs.map fun p => Value.ref p.x)) :: (bl, LCg.lst (qs.map fun p => Value.ref p.od)) :: (h₀.objs.size + 1 + 1, ot) :: allp w sz qs)) (T : Top p loose mean mg mb h₀)
    (hot : ot.data = .cell (some (.ref tb))) (htp : (tp == sysModules) = false) (AD : AP ((bx, W.listOf #[.ref cl, .int (bk) btk, .int bs bts] 0) :: (cl, W.listOf bv.toArray 0) :: (tb, instObj 150 td) :: (td, tdO w sz (made) j1 j2 j3 u1 u2 tp) :: (tp, op) :: (cn, W.listOf #[.int (c0) tc0, .bool sh] 0) :: (pl, LCg.lst (qs.map fun p => Value.ref p.x)) :: (bl, LCg.lst (qs.map fun p => Value.ref p.od)) :: (h₀.objs.size + 1 + 1, ot) :: allp w sz qs))
    (hbI : IntsAre bv bn) (hbn : bn.length ≤ 40) (hbk0 : 0 ≤ bk) (hbk1 : bk ≤ 1000) (hbs0 : 0 ≤ bs) (hbs1 : bs < 1009)
    (hkv : op.IsDictOf (PySem.intKind PySem.Challenge.rw_nz0210_01.prog w) kvs) (hlen : qs.length ≤ 3) (hlen1 : 1 ≤ qs.length) (hkl : kvs.length ≤ 3) (hsz : 1 ≤ sz) (hsz1 : sz ≤ 40) (hc0 : 0 ≤ c0) (hc1 : c0 ≤ 10) (hg : ∀ p ∈ qs, PG w sz 0 p)
    (kont : ∀ bk' btk' op' kvs' c0' tc0' qs' (m : Str → Option Value) h tk, 0 ≤ bk' → bk' ≤ 2000 → op'.IsDictOf (PySem.intKind PySem.Challenge.rw_nz0210_01.prog w) kvs' → kvs'.length ≤ 3 → (∀ kv ∈ kvs', kv ∈ kvs) → qs'.map (·.id) = qs.map (·.id) → (∀ p ∈ qs', PG w sz 5000 p) →
      Fr h₀ h₀.objs.size h (fun y => if y = Str.ofString "count" then some (.ref cn) else if y = Str.ofString "book" then some (.ref bl) else if y = Str.ofString "pipes" then some (.ref pl) else if y = Str.ofString "box" then some (.ref bx) else if y = Str.ofString "is_short" then some (.bool sh) else if y = Str.ofString "cells" then some (.ref cl) else m y) → News h₀ h₀.objs.size h ((bx, W.listOf #[.ref cl, .int (bk') btk', .int bs bts] 0) :: (cl, W.listOf bv.toArray 0) :: (tb, instObj 150 td) :: (td, tdO w sz (made) j1 j2 j3 u1 u2 tp) :: (tp, op') :: (cn, W.listOf #[.int (c0') tc0', .bool sh] 0) :: (pl, LCg.lst (qs'.map fun p => Value.ref p.x)) :: (bl, LCg.lst (qs'.map fun p => Value.ref p.od)) :: (h₀.objs.size + 1 + 1, ot) :: allp w sz qs') → AP ((bx, W.listOf #[.ref cl, .int (bk') btk', .int bs bts] 0) :: (cl, W.listOf bv.toArray 0) :: (tb, instObj 150 td) :: (td, tdO w sz (made) j1 j2 j3 u1 u2 tp) :: (tp, op') :: (cn, W.listOf #[.int (c0') tc0', .bool sh] 0) :: (pl, LCg.lst (qs'.map fun p => Value.ref p.x)) :: (bl, LCg.lst (qs'.map fun p => Value.ref p.od)) :: (h₀.objs.size + 1 + 1, ot) :: allp w sz qs') → wpC (model PySem.Challenge.rw_nz0210_01.prog w) (callerA.deeper (envOfC (Str.ofString "law") lawScope h₀.objs.size fa cd)) (execs (lawBody.drop 9) (envOfC (Str.ofString "law") lawScope h₀.objs.size fa cd)) Q E { s with heap := h, toks := tk }) :
    wpC (model PySem.Challenge.rw_nz0210_01.prog w) (callerA.deeper (envOfC (Str.ofString "law") lawScope h₀.objs.size fa cd)) (execs (lawBody.drop 8) (envOfC (Str.ofString "law") lawScope h₀.objs.size fa cd)) Q E s := by
  w_top on
  have eb : lawBody.drop 8 = lawBody.drop 8 := rfl
  conv at eb => rhs; whnf
  have es : lawScope = lawScope := rfl
  conv at es => rhs; unfold lawScope; whnf
  rw [eb, es]
  clear eb es

  refine execsC (forC ?_)
  (repeat' (first | (k_unfold; (try dsimp only)) | walk1 | (dsimp only; walk1) | (leave1; (try dsimp only)) | fail "no step"))
  rename IsRange _ _ _ _ _ _ _ _ => hR
  generalize hz : (6 + if (bn.length : Int) < 20 then (bn.length : Int) else 20) = z at hR
  have hz0 : 0 ≤ z := by subst hz; split <;> omega
  have hz1 : z ≤ 26 := by subst hz; split <;> omega
  obtain ⟨n, rfl⟩ := Int.eq_ofNat_of_zero_le hz0
  clear hz
  refine' iter_range (n := n) rfl ?F7 ?N7 hR (by omega) fun I h1 F1 N1 W1 st1 fp1 hIL hI0 off1 => ?_
  case F7 => assumption
  case N7 => assumption
  clear hR
  refine' range_loop (σ := LS) (loc := fun y => decide (y = Str.ofString "turn") || decide (y = Str.ofString "which")) (fun c => (bx, W.listOf #[.ref cl, .int (c.bk) c.btk, .int bs bts] 0) :: (cl, W.listOf bv.toArray 0) :: (tb, instObj 150 td) :: (td, tdO w sz (made) j1 j2 j3 u1 u2 tp) :: (tp, c.op) :: (cn, W.listOf #[.int (c.c0) c.tc0, .bool sh] 0) :: (pl, LCg.lst (c.qs.map fun p => Value.ref p.x)) :: (bl, LCg.lst (c.qs.map fun p => Value.ref p.od)) :: (h₀.objs.size + 1 + 1, ot) :: allp w sz c.qs)
    (fun i c => 0 ≤ c.bk ∧ c.bk ≤ 1000 + 5 * (i : Int) ∧ c.op.IsDictOf (PySem.intKind PySem.Challenge.rw_nz0210_01.prog w) c.kvs ∧ c.kvs.length ≤ 3 ∧ (∀ kv ∈ c.kvs, kv ∈ kvs) ∧ 0 ≤ c.c0 ∧ c.c0 ≤ 10 + 64 * (i : Int) ∧ c.qs.map (·.id) = qs.map (·.id) ∧ (∀ p ∈ c.qs, PG w sz (64 * (i : Int)) p)) ⟨bk, btk, op, kvs, c0, tc0, qs⟩ W1 st1 (fun _ _ st => ⟨_, st⟩) (fun i h h' o st e e' => range_keep _ h h' o st e e') hIL hI0 ?nf rfl rfl rfl (by decide) F1 N1 off1 AD ?hf ?turn ?done
  case nf => (intro hm; exact hIL (List.mem_singleton.mp hm))
  case hf => exact ⟨hbk0, (by dsimp only; omega), hkv, hkl, (fun _ h => h), hc0, (by dsimp only; omega), rfl, fun p hp => (hg p hp).up (by omega)⟩
  case turn =>
    intro i c u t oI h tk K hi hf F2 N2 AD2 next
    obtain ⟨a1, a2, a3, a4, a5, a6, a7, a8, a9⟩ := hf
    have hq : c.qs.length = qs.length := by simpa using congrArg List.length a8
    have hmap := map_law (f := (fun y => if y = Str.ofString "turn" then some (Value.int i t) else if (decide (y = Str.ofString "turn") || decide (y = Str.ofString "which")) = true then u y else (fun y => if y = Str.ofString "count" then some (.ref cn) else if y = Str.ofString "book" then some (.ref bl) else if y = Str.ofString "pipes" then some (.ref pl) else if y = Str.ofString "box" then some (.ref bx) else if y = Str.ofString "is_short" then some (.bool sh) else if y = Str.ofString "cells" then some (.ref cl) else m y) y)) (cn := cn) (bl := bl) (pl := pl) (bx := bx) (cl := cl) (sh := sh) rfl rfl rfl rfl rfl rfl
    refine' law8_turn (I := I) (oI := oI) (b := 64 * (i : Int)) B (fr_map F2 hmap) X (news_sub N2 ?tS) T hot htp (ap_perm (List.perm_middle (a := (I, oI)) (l₁ := [_, _, _, _, _, _, _, _, _]) (l₂ := allp w sz c.qs)).symm AD2) (by assumption) hbn a1 (by omega) hbs0 hbs1 a3 (by omega) (by omega) a4 hsz hsz1 a6 (by omega) (by omega) a9 ?tk
    case tS => (focus ((repeat (first | with_reducible exact fun _ h => h | exact sub_nil | (refine sub_cons ?_ ?_; (focus (focus ((repeat (first | exact List.Mem.head _ | refine List.Mem.tail _ ?_)); done)))) | refine sub_skip ?_)); done))
    case tk =>
      intro bk' btk' op' kvs' c0' tc0' qs' f h tk b1 b2 b3 b4 b5 b6 b7 b8 b9 F3 hff N3 AD3
      refine' next ⟨bk', btk', op', kvs', c0', tc0', qs'⟩ f h tk ⟨(by dsimp only; omega), (by dsimp only; push_cast; omega), b3, b4, fun kv hkv => a5 kv (b5 kv hkv), b6, (by dsimp only; push_cast; omega), b8.trans a8, fun p hp => (b9 p hp).up (by push_cast; omega)⟩ F3 ?tl (news_sub N3 ?tS2) (ap_perm (List.perm_middle (a := (I, oI)) (l₁ := [_, _, _, _, _, _, _, _, _]) (l₂ := allp w sz qs')) AD3)
      case tS2 => (focus ((repeat (first | with_reducible exact fun _ h => h | exact sub_nil | (refine sub_cons ?_ ?_; (focus (focus ((repeat (first | exact List.Mem.head _ | refine List.Mem.tail _ ?_)); done)))) | refine sub_skip ?_)); done))
      case tl =>
        intro y hy
        have h1 : y ≠ Str.ofString "turn" := by rintro rfl; revert hy; decide
        have h2 : y ≠ Str.ofString "which" := by rintro rfl; revert hy; decide
        refine (hff y h2).trans ((congrFun hmap y).symm.trans ?_)
        exact (if_neg h1).trans (if_neg (by rw [hy]; decide))
  case done =>
    intro c f h tk hf F2 hm N2 AD2
    obtain ⟨a1, a2, a3, a4, a5, a6, a7, a8, a9⟩ := hf
    dsimp only
    exact kont c.bk c.btk c.op c.kvs c.c0 c.tc0 c.qs f h tk a1 (by omega) a3 a4 a5 a8 (fun p hp => (a9 p hp).up (by omega)) (fr_map F2 (map_law (hm _ (by decide)) (hm _ (by decide)) (hm _ (by decide)) (hm _ (by decide)) (hm _ (by decide)) (hm _ (by decide)))) N2 AD2

end

/-! part LawTa -/
section
theorem linesLawTa : True := by
  k_with_none
  k_with "my k_room" => ((try simp only [depth_under_make, depth_under_kw, depth_in1, depth_deeper, depth_caller]); (try simp only [recursionLimit]); first | decide | exact Nat.le_trans (by with_reducible assumption) (by decide) | exact Nat.le_trans (Nat.add_le_add_right (by with_reducible assumption) _) (by decide) | omega)
  k_with "execs cons" => (k_here; dsimp only; k_gentoks)
  k_with "execs nil" => (k_here; dsimp only; k_gentoks)
  k_with "my k_all" => (with_reducible assumption)
  k_with "my k_ne" => (refine neN ?_; (try dsimp only); first | with_reducible assumption | exact Ne.symm (by with_reducible assumption) | exact NeA.ne (by with_reducible assumption) | exact Ne.symm (NeA.ne (by with_reducible assumption)) | exact Nat.ne_of_lt (by walk_at "pick") | exact Nat.ne_of_gt (by walk_at "pick") | exact Nat.ne_of_gt (Nat.lt_add_one_of_lt (by walk_at "pick")) | exact Nat.ne_of_lt (Nat.lt_add_one_of_lt (by walk_at "pick")) | walk_at "pick" | exact Ne.symm (by walk_at "pick") | omega)
  k_with "my k_units" => ((try simp only [units_under_make, units_in1, units_deeper, Around.mark_units, units_caller]); first | exact Nat.le_trans (Nat.add_le_add_right (by with_reducible assumption) _) (by decide) | exact Nat.le_trans (by with_reducible assumption) (by decide) | exact lt_cline1 (by with_reducible assumption) (by decide) | exact lt_cline2 (by with_reducible assumption) (by decide) | ((have hcL' := cLine_is); omega))
  k_with "subscriptTail Subscript Name Constant Slice ref ref" => (k_here; k_dflt (first | (refine' list_upto (s := ⟨_, _, _, _, _⟩) (by k_asm) (by k_asm) (by k_mem) (by with_reducible assumption) (by omega) (by omega) ?_) | (refine' list_from (s := ⟨_, _, _, _, _⟩) (by k_asm) (by k_asm) (by k_mem) (by with_reducible assumption) (by omega) (by omega) ?_)); intro D' ws' h' F' N' l1 hI'; (try k_lt l1); (try k_sweep))
  k_with "subscriptTail" => (k_here; (with_reducible show wpAny _ _ (subscriptTail _ _ (Value.ref _) (Value.int (Int.fmod _ _) _)) _ _ _); k_dflt (refine' ba_sub (by k_asm) (by k_mem) (by l_fact) (by l_fact) (by omega) ?_ (by with_unfolding_all rfl)))
  k_with "setItem ref int int" => (k_here; k_dflt (refine' ba_set (by k_asm) (by k_asm) (by k_upd) (by l_fact) (by l_fact) (by omega) (by omega) (by omega) ?_); intro h' F' N'; (try k_sweep))
  k_with "call builtin:len" => (k_here; (with_reducible show wpAny _ _ (PySem.call (Value.builtin "len") [Value.ref _]) _ _ _); k_dflt (refine' ba_lenN (by k_asm) (by k_mem) (by omega) ?_))
  k_with "exec For Name Subscript cons nil" => (k_here; refine forA ?_)
  k_with "pyIter bytes" => (k_here; refine KBw.pyIter_bytes ?_)
  k_with "call builtin:len" => (k_here; (with_reducible show wpAny _ _ (PySem.call (Value.builtin "len") [Value.ref _]) _ _ _); k_dflt (refine' list_lenN (by k_asm) (by k_mem) (by with_reducible assumption) (by ((try simp only [List.length_take, List.length_drop]); omega)) ?_))
  k_with "pick" => (focus (apply pickL; (iterate 13 (first | done | with_reducible assumption | apply pickR)); done))
  k_with "ne" => ((try dsimp only); first | assumption | exact Ne.symm (by assumption) | exact NeA.ne (by assumption) | exact Ne.symm (NeA.ne (by assumption)) | exact Nat.ne_of_lt (by walk_at "pick") | exact Nat.ne_of_gt (by walk_at "pick") | exact Nat.ne_of_gt (Nat.lt_add_one_of_lt (by walk_at "pick")) | exact Nat.ne_of_lt (Nat.lt_add_one_of_lt (by walk_at "pick")) | walk_at "pick" | exact Ne.symm (by walk_at "pick") | omega)
  k_with "num" => (first | with_reducible assumption | exact Int.le_add_of_nonneg_right (by decide) | exact nb12 (by with_reducible assumption) (by with_reducible assumption) | (focus ((repeat (first | with_reducible assumption | refine Int.add_nonneg ?_ (by decide))); done)) | exact Int.le_trans (by with_reducible assumption) (by decide) | exact Int.le_trans (Int.add_le_add_right (by with_reducible assumption) _) (by decide) | omega)
  k_with "rem" => (focus ((repeat (first | exact Rem.head | apply Rem.tail)); done))
  k_with "off" => (focus ((repeat (first | assumption | (refine off_cons ?_ ?_; (focus walk_at "ne")))); done))
  k_with "mem" => (focus ((repeat (first | exact List.Mem.head _ | refine List.Mem.tail _ ?_)); done))
  k_with "my_mem" => (repeat (first | exact List.Mem.head _ | refine List.Mem.tail _ ?_))
  k_with "subscriptTail" => (k_here; (with_reducible show wpAny _ _ (subscriptTail _ _ (Value.ref _) (Value.int _ _)) _ _ _); k_dflt (refine' item_at (by k_asm) (by walk_at "my_mem") (by omega) (by omega) (by assumption) ?_))
  k_with "call ref" => (k_here; (try dsimp only); (with_reducible show wpAny _ _ (call (Value.ref 140) _) _ _ _); k_dflt ((refine' wpAny_call (tclose_w (bn := []) (nb := 0) (nc := 0) (ncn := 0) (tz := 0) (by k_asm) (by k_asm) (by k_asm) (by k_asm) (by k_asm) rfl rfl (by k_room) (by k_units) (by assumption) (by first | exact .inl rfl | exact .inr rfl) (by assumption) ?_ (by assumption) (by assumption) (by assumption) (by assumption) (by assumption) (by assumption) (by omega) (by assumption) (fun _ _ _ _ _ _ _ _ _ _ _ _ _ => ?_))); (next => omega)); (try dsimp only))
  trivial
def closeBody : List Stmt := match lawBody.drop 9 with | (.For _ _ b _ _) :: _ => b | _ => []
def PH (sz b : Int) (p : PS) : Prop := 0 ≤ p.rc ∧ p.rc ≤ p.wc ∧ p.wc - p.rc ≤ sz ∧ p.wc ≤ b ∧ RingIs p.ring sz p.rc p.wc p.qn
theorem PG.ph {w : World} {sz b : Int} {p : PS} (h : PG w sz b p) : PH sz b p := ⟨h.2.2.2.2.1, h.2.2.2.2.2.1, h.2.2.2.2.2.2.1, h.2.2.2.2.2.2.2.1, h.2.2.2.2.2.2.2.2⟩
set_option maxHeartbeats 4000000 in
theorem law9_turn {w : World} {h₀ : Heap} {fa : Addr} {cd : Value} {m mg mb : Str → Option Value} {s : Shared} {p : Program} {loose : List Str} {mean : ExcName → Option Value} {Q : Flow → Shared → Prop} {E : Value → Shared → Prop}
    {bx cl tb td tp cn pl bl : Addr} {bv : List Value} {bn : List Int} {bk bs : Int} {btk bts : Tok} {op ot : Obj} {kvs : List (Int × Value)} {sz made : Int} {j1 j2 j3 u1 u2 : Tok} {c0 : Int} {tc0 : Tok} {sh : Bool} {qs : List PS} {I : Addr} {oI : Obj} {i : Nat} {t : Tok}
    (B : Below callerA h₀ [] h₀) (F : Fr h₀ h₀.objs.size s.heap (fun y => if y = Str.ofString "k" then some (.int (i : Int) t) else if y = Str.ofString "count" then some (.ref cn) else if y = Str.ofString "book" then some (.ref bl) else if y = Str.ofString "pipes" then some (.ref pl) else if y = Str.ofString "box" then some (.ref bx) else if y = Str.ofString "is_short" then some (.bool sh) else if y = Str.ofString "cells" then some (.ref cl) else m y)) (X : (hd.heap_1 w.params).In h₀) (N : News h₀ h₀.objs.size s.heap ((bx, W.listOf #[.ref cl, .int (bk) btk, .int bs bts] 0) :: (cl, W.listOf bv.toArray 0) :: (tb, instObj 150 td) :: (td, tdO w sz (made) j1 j2 j3 u1 u2 tp) :: (tp, op) :: (cn, W.listOf #[.int (c0) tc0, .bool sh] 0) :: (pl, LCg.lst (qs.map fun p => Value.ref p.x)) :: (bl, LCg.lst (qs.map fun p => Value.ref p.od)) :: (h₀.objs.size + 1 + 1, ot) :: (I, oI) :: allp w sz qs)) (T : Top p loose mean mg mb h₀)
    (hot : ot.data = .cell (some (.ref tb))) (htp : (tp == sysModules) = false) (AD : AP ((bx, W.listOf #[.ref cl, .int (bk) btk, .int bs bts] 0) :: (cl, W.listOf bv.toArray 0) :: (tb, instObj 150 td) :: (td, tdO w sz (made) j1 j2 j3 u1 u2 tp) :: (tp, op) :: (cn, W.listOf #[.int (c0) tc0, .bool sh] 0) :: (pl, LCg.lst (qs.map fun p => Value.ref p.x)) :: (bl, LCg.lst (qs.map fun p => Value.ref p.od)) :: (h₀.objs.size + 1 + 1, ot) :: (I, oI) :: allp w sz qs))
    (hkv : op.IsDictOf (PySem.intKind PySem.Challenge.rw_nz0210_01.prog w) kvs) (hlen : qs.length ≤ 3) (hkl : kvs.length ≤ 3) (hsz : 1 ≤ sz) (hsz1 : sz ≤ 40) (hg : ∀ p ∈ qs, PH sz 5000 p) (hi : i < qs.length)
    (kont : ∀ op' kvs' qs' h tk, op'.IsDictOf (PySem.intKind PySem.Challenge.rw_nz0210_01.prog w) kvs' → kvs'.length ≤ 3 → (∀ kv ∈ kvs', kv ∈ kvs) → (∀ kv ∈ kvs', (qs.map (·.id))[i]? ≠ some kv.1) → qs'.map (·.id) = qs.map (·.id) → (∀ p ∈ qs', PH sz 5000 p) →
      Fr h₀ h₀.objs.size h (fun y => if y = Str.ofString "k" then some (.int (i : Int) t) else if y = Str.ofString "count" then some (.ref cn) else if y = Str.ofString "book" then some (.ref bl) else if y = Str.ofString "pipes" then some (.ref pl) else if y = Str.ofString "box" then some (.ref bx) else if y = Str.ofString "is_short" then some (.bool sh) else if y = Str.ofString "cells" then some (.ref cl) else m y) → News h₀ h₀.objs.size h ((bx, W.listOf #[.ref cl, .int (bk) btk, .int bs bts] 0) :: (cl, W.listOf bv.toArray 0) :: (tb, instObj 150 td) :: (td, tdO w sz (made) j1 j2 j3 u1 u2 tp) :: (tp, op') :: (cn, W.listOf #[.int (c0) tc0, .bool sh] 0) :: (pl, LCg.lst (qs'.map fun p => Value.ref p.x)) :: (bl, LCg.lst (qs'.map fun p => Value.ref p.od)) :: (h₀.objs.size + 1 + 1, ot) :: (I, oI) :: allp w sz qs') → AP ((bx, W.listOf #[.ref cl, .int (bk) btk, .int bs bts] 0) :: (cl, W.listOf bv.toArray 0) :: (tb, instObj 150 td) :: (td, tdO w sz (made) j1 j2 j3 u1 u2 tp) :: (tp, op') :: (cn, W.listOf #[.int (c0) tc0, .bool sh] 0) :: (pl, LCg.lst (qs'.map fun p => Value.ref p.x)) :: (bl, LCg.lst (qs'.map fun p => Value.ref p.od)) :: (h₀.objs.size + 1 + 1, ot) :: (I, oI) :: allp w sz qs') → Q .next { s with heap := h, toks := tk }) :
    wpC (model PySem.Challenge.rw_nz0210_01.prog w) (callerA.deeper (envOfC (Str.ofString "law") lawScope h₀.objs.size fa cd)) (execs closeBody (envOfC (Str.ofString "law") lawScope h₀.objs.size fa cd)) Q E s := by
  w_top on
  have eb : closeBody = closeBody := rfl
  conv at eb => rhs; whnf
  have es : lawScope = lawScope := rfl
  conv at es => rhs; unfold lawScope; whnf
  rw [eb, es]
  clear eb es

  obtain ⟨l1, p, l2, rfl, hl1⟩ := split_at (qs := qs) (r := (i : Int)) (by omega) (by omega)
  have hx1 : ((l1 ++ p :: l2).map (fun p => Value.ref p.x))[(i : Int).toNat]? = some (.ref p.x) := pick_at hl1
  obtain ⟨hrc0, hrw, hws, hwc, hri⟩ := hg p (List.mem_append_right _ (.head _))
  have N2 := news_perm N (led_split w sz l1 l2 p _ _ _ _ _ _ _ _ _ _)
  have AD2 := ap_perm (led_split w sz l1 l2 p _ _ _ _ _ _ _ _ _ _) AD
  clear N AD
  refine execsC_lift ?_
  (repeat' (first | (k_unfold; (try dsimp only)) | walk1 | (dsimp only; walk1) | (leave1; (try dsimp only)) | fail "no step"))
  rename_i op1 kvs1 h1 tk1 ro1 wo1 e1 e2 e3 hk1 F1 N1 AD1
  rw [if_pos rfl] at e1 e2
  subst e1 e2
  have hkl1 : kvs1.length ≤ 3 := by
    rw [e3]
    split
    · exact hkl
    · exact Nat.le_trans without_len hkl
  have hks1 : ∀ kv ∈ kvs1, kv ∈ kvs := by
    rw [e3]
    split
    · exact fun _ h => h
    · exact fun kv h => (without_mem kv h).1
  clear N2 AD2 F e3
  refine execsC_lift ?_
  (repeat' (first | (k_unfold; (try dsimp only)) | walk1 | (dsimp only; walk1) | (leave1; (try dsimp only)) | fail "no step"))
  rename_i op2 kvs2 h2 tk2 ro2 wo2 e1 e2 e3 hk2 F2 N2 AD2
  rw [if_neg (by decide)] at e1 e2
  subst e1 e2
  rw [if_neg (by decide)] at e3
  subst e3
  clear N1 AD1
  refine execsC_nil ?_
  let p' : PS := { p with ro := false, wo := false }
  have e1 : ((l1 ++ p' :: l2).map fun p => Value.ref p.x) = (l1 ++ p :: l2).map fun p => Value.ref p.x := by
    rw [List.map_append, List.map_append]
    rfl
  have e2 : ((l1 ++ p' :: l2).map fun p => Value.ref p.od) = (l1 ++ p :: l2).map fun p => Value.ref p.od := by
    rw [List.map_append, List.map_append]
    rfl
  refine' kont op2 _ (l1 ++ p' :: l2) h2 tk2 hk2 (Nat.le_trans without_len hkl1) (fun kv h => hks1 kv (without_mem kv h).1) ?zk ?zi ?zg F2 ?zN ?zA
  case zk =>
    intro kv h e
    have e3 : ((l1 ++ p :: l2).map (·.id))[i]? = some p.id := by
      have h4 : l1.length = i := by omega
      subst h4
      simp
    rw [e3] at e
    exact (without_mem kv h).2 (Option.some.inj e).symm
  case zi =>
    rw [List.map_append, List.map_append]
    rfl
  case zg =>
    intro z hz
    rcases List.mem_append.mp hz with hz | hz
    · exact hg z (List.mem_append_left _ hz)
    rcases List.mem_cons.mp hz with rfl | hz
    · exact ⟨hrc0, hrw, hws, hwc, hri⟩
    · exact hg z (List.mem_append_right _ (.tail _ hz))
  case zN =>
    rw [e1, e2]
    exact news_perm N2 (led_split w sz l1 l2 p' _ _ _ _ _ _ _ _ _ _).symm
  case zA =>
    rw [e1, e2]
    exact ap_perm (led_split w sz l1 l2 p' _ _ _ _ _ _ _ _ _ _).symm AD2

end

/-! part LawTb -/
section
theorem linesLawTb : True := by
  k_with_none
  k_with "my k_room" => ((try simp only [depth_under_make, depth_under_kw, depth_in1, depth_deeper, depth_caller]); (try simp only [recursionLimit]); first | decide | exact Nat.le_trans (by with_reducible assumption) (by decide) | exact Nat.le_trans (Nat.add_le_add_right (by with_reducible assumption) _) (by decide) | omega)
  k_with "execs cons" => (k_here; dsimp only; k_gentoks)
  k_with "execs nil" => (k_here; dsimp only; k_gentoks)
  k_with "my k_all" => (with_reducible assumption)
  k_with "my k_ne" => (refine neN ?_; (try dsimp only); first | with_reducible assumption | exact Ne.symm (by with_reducible assumption) | exact NeA.ne (by with_reducible assumption) | exact Ne.symm (NeA.ne (by with_reducible assumption)) | exact Nat.ne_of_lt (by walk_at "pick") | exact Nat.ne_of_gt (by walk_at "pick") | exact Nat.ne_of_gt (Nat.lt_add_one_of_lt (by walk_at "pick")) | exact Nat.ne_of_lt (Nat.lt_add_one_of_lt (by walk_at "pick")) | walk_at "pick" | exact Ne.symm (by walk_at "pick") | omega)
  k_with "my k_units" => ((try simp only [units_under_make, units_in1, units_deeper, Around.mark_units, units_caller]); first | exact Nat.le_trans (Nat.add_le_add_right (by with_reducible assumption) _) (by decide) | exact Nat.le_trans (by with_reducible assumption) (by decide) | exact lt_cline1 (by with_reducible assumption) (by decide) | exact lt_cline2 (by with_reducible assumption) (by decide) | ((have hcL' := cLine_is); omega))
  k_with "subscriptTail Subscript Name Constant Slice ref ref" => (k_here; k_dflt (first | (refine' list_upto (s := ⟨_, _, _, _, _⟩) (by k_asm) (by k_asm) (by k_mem) (by with_reducible assumption) (by omega) (by omega) ?_) | (refine' list_from (s := ⟨_, _, _, _, _⟩) (by k_asm) (by k_asm) (by k_mem) (by with_reducible assumption) (by omega) (by omega) ?_)); intro D' ws' h' F' N' l1 hI'; (try k_lt l1); (try k_sweep))
  k_with "subscriptTail" => (k_here; (with_reducible show wpAny _ _ (subscriptTail _ _ (Value.ref _) (Value.int (Int.fmod _ _) _)) _ _ _); k_dflt (refine' ba_sub (by k_asm) (by k_mem) (by l_fact) (by l_fact) (by omega) ?_ (by with_unfolding_all rfl)))
  k_with "setItem ref int int" => (k_here; k_dflt (refine' ba_set (by k_asm) (by k_asm) (by k_upd) (by l_fact) (by l_fact) (by omega) (by omega) (by omega) ?_); intro h' F' N'; (try k_sweep))
  k_with "call builtin:len" => (k_here; (with_reducible show wpAny _ _ (PySem.call (Value.builtin "len") [Value.ref _]) _ _ _); k_dflt (refine' ba_lenN (by k_asm) (by k_mem) (by omega) ?_))
  k_with "exec For Name Subscript cons nil" => (k_here; refine forA ?_)
  k_with "pyIter bytes" => (k_here; refine KBw.pyIter_bytes ?_)
  k_with "call builtin:len" => (k_here; (with_reducible show wpAny _ _ (PySem.call (Value.builtin "len") [Value.ref _]) _ _ _); k_dflt (refine' list_lenN (by k_asm) (by k_mem) (by with_reducible assumption) (by ((try simp only [List.length_take, List.length_drop]); omega)) ?_))
  k_with "pick" => (focus (apply pickL; (iterate 13 (first | done | with_reducible assumption | apply pickR)); done))
  k_with "ne" => ((try dsimp only); first | assumption | exact Ne.symm (by assumption) | exact NeA.ne (by assumption) | exact Ne.symm (NeA.ne (by assumption)) | exact Nat.ne_of_lt (by walk_at "pick") | exact Nat.ne_of_gt (by walk_at "pick") | exact Nat.ne_of_gt (Nat.lt_add_one_of_lt (by walk_at "pick")) | exact Nat.ne_of_lt (Nat.lt_add_one_of_lt (by walk_at "pick")) | walk_at "pick" | exact Ne.symm (by walk_at "pick") | omega)
  k_with "num" => (first | with_reducible assumption | exact Int.le_add_of_nonneg_right (by decide) | exact nb12 (by with_reducible assumption) (by with_reducible assumption) | (focus ((repeat (first | with_reducible assumption | refine Int.add_nonneg ?_ (by decide))); done)) | exact Int.le_trans (by with_reducible assumption) (by decide) | exact Int.le_trans (Int.add_le_add_right (by with_reducible assumption) _) (by decide) | omega)
  k_with "rem" => (focus ((repeat (first | exact Rem.head | apply Rem.tail)); done))
  k_with "off" => (focus ((repeat (first | assumption | (refine off_cons ?_ ?_; (focus walk_at "ne")))); done))
  k_with "mem" => (focus ((repeat (first | exact List.Mem.head _ | refine List.Mem.tail _ ?_)); done))
  k_with "my_mem" => (repeat (first | exact List.Mem.head _ | refine List.Mem.tail _ ?_))
  k_with "call builtin:len" => (k_here; (with_reducible show wpAny _ _ (PySem.call (Value.builtin "len") [Value.ref _]) _ _ _); k_dflt (refine' len_map (by k_asm) (by walk_at "my_mem") (by omega) ?_); intro t k)
  trivial
theorem drop_next {ids : List Int} {i : Nat} {k : Int} (h : k ∈ ids.drop i) (hi : i < ids.length) (hn : ids[i]? ≠ some k) : k ∈ ids.drop (i + 1) := by
  rw [List.drop_eq_getElem_cons hi] at h
  rcases List.mem_cons.mp h with rfl | h
  · exact absurd (List.getElem?_eq_getElem hi) hn
  · exact h
set_option maxHeartbeats 4000000 in
theorem law9 {w : World} {h₀ : Heap} {fa : Addr} {cd : Value} {m mg mb : Str → Option Value} {s : Shared} {p : Program} {loose : List Str} {mean : ExcName → Option Value} {Q : Flow → Shared → Prop} {E : Value → Shared → Prop}
    {bx cl tb td tp cn pl bl : Addr} {bv : List Value} {bn : List Int} {bk bs : Int} {btk bts : Tok} {op ot : Obj} {kvs : List (Int × Value)} {sz made : Int} {j1 j2 j3 u1 u2 : Tok} {c0 : Int} {tc0 : Tok} {sh : Bool} {qs : List PS}
    (B : Below callerA h₀ [] h₀) (F : Fr h₀ h₀.objs.size s.heap (fun y => if y = Str.ofString "count" then some (.ref cn) else if y = Str.ofString "book" then some (.ref bl) else if y = Str.ofString "pipes" then some (.ref pl) else if y = Str.ofString "box" then some (.ref bx) else if y = Str.ofString "is_short" then some (.bool sh) else if y = Str.ofString "cells" then some (.ref cl) else m y)) (X : (hd.heap_1 w.params).In h₀) (N : News h₀ h₀.objs.size s.heap ((bx, W.listOf #[.ref cl, .int (bk) btk, .int bs bts] 0) :: (cl, W.listOf bv.toArray 0) :: (tb, instObj 150 td) :: (td, tdO w sz (made) j1 j2 j3 u1 u2 tp) :: (tp, op) :: (cn, W.listOf #[.int (c0) tc0, .bool sh] 0) :: (pl, LCg.lst (qs.map fun p => Value.ref p.x)) :: (bl, LCg.lst (qs.map fun p => Value.ref p.od)) :: (h₀.objs.size + 1 + 1, ot) :: allp w sz qs)) (T : Top p loose mean mg mb h₀)
    (hot : ot.data = .cell (some (.ref tb))) (htp : (tp == sysModules) = false) (AD : AP ((bx, W.listOf #[.ref cl, .int (bk) btk, .int bs bts] 0) :: (cl, W.listOf bv.toArray 0) :: (tb, instObj 150 td) :: (td, tdO w sz (made) j1 j2 j3 u1 u2 tp) :: (tp, op) :: (cn, W.listOf #[.int (c0) tc0, .bool sh] 0) :: (pl, LCg.lst (qs.map fun p => Value.ref p.x)) :: (bl, LCg.lst (qs.map fun p => Value.ref p.od)) :: (h₀.objs.size + 1 + 1, ot) :: allp w sz qs))
    (hkv : op.IsDictOf (PySem.intKind PySem.Challenge.rw_nz0210_01.prog w) kvs) (hlen : qs.length ≤ 3) (hkl : kvs.length ≤ 3) (hks : ∀ kv ∈ kvs, kv.1 ∈ qs.map (·.id)) (hsz : 1 ≤ sz) (hsz1 : sz ≤ 40) (hg : ∀ p ∈ qs, PH sz 5000 p)
    (kont : ∀ op' qs' (m : Str → Option Value) h tk, op'.IsDictOf (PySem.intKind PySem.Challenge.rw_nz0210_01.prog w) [] → Fr h₀ h₀.objs.size h (fun y => if y = Str.ofString "count" then some (.ref cn) else if y = Str.ofString "book" then some (.ref bl) else if y = Str.ofString "pipes" then some (.ref pl) else if y = Str.ofString "box" then some (.ref bx) else if y = Str.ofString "is_short" then some (.bool sh) else if y = Str.ofString "cells" then some (.ref cl) else m y) → News h₀ h₀.objs.size h ((bx, W.listOf #[.ref cl, .int (bk) btk, .int bs bts] 0) :: (cl, W.listOf bv.toArray 0) :: (tb, instObj 150 td) :: (td, tdO w sz (made) j1 j2 j3 u1 u2 tp) :: (tp, op') :: (cn, W.listOf #[.int (c0) tc0, .bool sh] 0) :: (pl, LCg.lst (qs'.map fun p => Value.ref p.x)) :: (bl, LCg.lst (qs'.map fun p => Value.ref p.od)) :: (h₀.objs.size + 1 + 1, ot) :: allp w sz qs') → AP ((bx, W.listOf #[.ref cl, .int (bk) btk, .int bs bts] 0) :: (cl, W.listOf bv.toArray 0) :: (tb, instObj 150 td) :: (td, tdO w sz (made) j1 j2 j3 u1 u2 tp) :: (tp, op') :: (cn, W.listOf #[.int (c0) tc0, .bool sh] 0) :: (pl, LCg.lst (qs'.map fun p => Value.ref p.x)) :: (bl, LCg.lst (qs'.map fun p => Value.ref p.od)) :: (h₀.objs.size + 1 + 1, ot) :: allp w sz qs') → wpC (model PySem.Challenge.rw_nz0210_01.prog w) (callerA.deeper (envOfC (Str.ofString "law") lawScope h₀.objs.size fa cd)) (execs (lawBody.drop 10) (envOfC (Str.ofString "law") lawScope h₀.objs.size fa cd)) Q E { s with heap := h, toks := tk }) :
    wpC (model PySem.Challenge.rw_nz0210_01.prog w) (callerA.deeper (envOfC (Str.ofString "law") lawScope h₀.objs.size fa cd)) (execs (lawBody.drop 9) (envOfC (Str.ofString "law") lawScope h₀.objs.size fa cd)) Q E s := by
  w_top on
  have eb : lawBody.drop 9 = lawBody.drop 9 := rfl
  conv at eb => rhs; whnf
  have es : lawScope = lawScope := rfl
  conv at es => rhs; unfold lawScope; whnf
  rw [eb, es]
  clear eb es

  refine execsC (forC ?_)
  (repeat' (first | (k_unfold; (try dsimp only)) | walk1 | (dsimp only; walk1) | (leave1; (try dsimp only)) | fail "no step"))
  rename IsRange _ _ _ _ _ _ _ _ => hR
  refine' iter_range (n := qs.length) rfl ?F7 ?N7 hR (by omega) fun I h1 F1 N1 W1 st1 fp1 hIL hI0 off1 => ?_
  case F7 => assumption
  case N7 => assumption
  clear hR
  refine' range_loop (σ := LS) (loc := fun y => decide (y = Str.ofString "k")) (fun c => (bx, W.listOf #[.ref cl, .int (bk) btk, .int bs bts] 0) :: (cl, W.listOf bv.toArray 0) :: (tb, instObj 150 td) :: (td, tdO w sz (made) j1 j2 j3 u1 u2 tp) :: (tp, c.op) :: (cn, W.listOf #[.int (c0) tc0, .bool sh] 0) :: (pl, LCg.lst (c.qs.map fun p => Value.ref p.x)) :: (bl, LCg.lst (c.qs.map fun p => Value.ref p.od)) :: (h₀.objs.size + 1 + 1, ot) :: allp w sz c.qs)
    (fun i c => c.op.IsDictOf (PySem.intKind PySem.Challenge.rw_nz0210_01.prog w) c.kvs ∧ c.kvs.length ≤ 3 ∧ (∀ kv ∈ c.kvs, kv.1 ∈ (qs.map (·.id)).drop i) ∧ c.qs.map (·.id) = qs.map (·.id) ∧ (∀ p ∈ c.qs, PH sz 5000 p)) ⟨bk, btk, op, kvs, c0, tc0, qs⟩ W1 st1 (fun _ _ st => ⟨_, st⟩) (fun i h h' o st e e' => range_keep _ h h' o st e e') hIL hI0 ?nf rfl rfl rfl (by decide) F1 N1 off1 AD ?hf ?turn ?done
  case nf => (intro hm; exact hIL (List.mem_singleton.mp hm))
  case hf => exact ⟨hkv, hkl, hks, rfl, hg⟩
  case turn =>
    intro i c u t oI h tk K hi hf F2 N2 AD2 next
    obtain ⟨a1, a2, a3, a4, a5⟩ := hf
    have hq : c.qs.length = qs.length := by simpa using congrArg List.length a4
    have hmap : (fun y => if y = Str.ofString "k" then some (Value.int i t) else if decide (y = Str.ofString "k") = true then u y else (fun y => if y = Str.ofString "count" then some (.ref cn) else if y = Str.ofString "book" then some (.ref bl) else if y = Str.ofString "pipes" then some (.ref pl) else if y = Str.ofString "box" then some (.ref bx) else if y = Str.ofString "is_short" then some (.bool sh) else if y = Str.ofString "cells" then some (.ref cl) else m y) y) = (fun y => if y = Str.ofString "k" then some (Value.int i t) else if y = Str.ofString "count" then some (.ref cn) else if y = Str.ofString "book" then some (.ref bl) else if y = Str.ofString "pipes" then some (.ref pl) else if y = Str.ofString "box" then some (.ref bx) else if y = Str.ofString "is_short" then some (.bool sh) else if y = Str.ofString "cells" then some (.ref cl) else m y) := by
      funext y
      by_cases h1 : y = Str.ofString "k"
      · rw [if_pos h1, if_pos h1]
      · rw [if_neg h1, if_neg h1, if_neg (by simpa using h1)]
    refine' law9_turn (bn := bn) (I := I) (oI := oI) (i := i) (t := t) B (fr_map F2 hmap) X (news_sub N2 ?tS) T hot htp (ap_perm (List.perm_middle (a := (I, oI)) (l₁ := [_, _, _, _, _, _, _, _, _]) (l₂ := allp w sz c.qs)).symm AD2) a1 (by omega) a2 hsz hsz1 a5 (by omega) ?tk
    case tS => (focus ((repeat (first | with_reducible exact fun _ h => h | exact sub_nil | (refine sub_cons ?_ ?_; (focus (focus ((repeat (first | exact List.Mem.head _ | refine List.Mem.tail _ ?_)); done)))) | refine sub_skip ?_)); done))
    case tk =>
      intro op' kvs' qs' h tk b1 b2 b3 b4 b5 b6 F3 N3 AD3
      refine' next ⟨c.bk, c.btk, op', kvs', c.c0, c.tc0, qs'⟩ _ h tk ⟨b1, b2, fun kv hkv => drop_next (a3 kv (b3 kv hkv)) (by rw [List.length_map]; exact hi) (a4 ▸ b4 kv hkv), b5.trans a4, b6⟩ F3 ?tl (news_sub N3 ?tS2) (ap_perm (List.perm_middle (a := (I, oI)) (l₁ := [_, _, _, _, _, _, _, _, _]) (l₂ := allp w sz qs')) AD3)
      case tS2 => (focus ((repeat (first | with_reducible exact fun _ h => h | exact sub_nil | (refine sub_cons ?_ ?_; (focus (focus ((repeat (first | exact List.Mem.head _ | refine List.Mem.tail _ ?_)); done)))) | refine sub_skip ?_)); done))
      case tl => exact fun y hy => if_neg (of_decide_eq_false hy)
  case done =>
    intro c f h tk hf F2 hm N2 AD2
    obtain ⟨a1, a2, a3, a4, a5⟩ := hf
    have hnil : c.kvs = [] := by
      rcases hc : c.kvs with _ | ⟨kv, r⟩
      · rfl
      · have := a3 kv (by rw [hc]; exact .head _)
        rw [List.drop_eq_nil_of_le (by rw [List.length_map]; exact Nat.le_refl _)] at this
        cases this
    rw [hnil] at a1
    dsimp only
    exact kont c.op c.qs f h tk a1 (fr_map F2 (map_law (hm _ (by decide)) (hm _ (by decide)) (hm _ (by decide)) (hm _ (by decide)) (hm _ (by decide)) (hm _ (by decide)))) N2 AD2

end

/-! part LawTc -/
section
theorem linesLawTc : True := by
  k_with_none
  k_with "my k_room" => ((try simp only [depth_under_make, depth_under_kw, depth_in1, depth_deeper, depth_caller]); (try simp only [recursionLimit]); first | decide | exact Nat.le_trans (by with_reducible assumption) (by decide) | exact Nat.le_trans (Nat.add_le_add_right (by with_reducible assumption) _) (by decide) | omega)
  k_with "execs cons" => (k_here; dsimp only; k_gentoks)
  k_with "execs nil" => (k_here; dsimp only; k_gentoks)
  k_with "my k_all" => (with_reducible assumption)
  k_with "my k_ne" => (refine neN ?_; (try dsimp only); first | with_reducible assumption | exact Ne.symm (by with_reducible assumption) | exact NeA.ne (by with_reducible assumption) | exact Ne.symm (NeA.ne (by with_reducible assumption)) | exact Nat.ne_of_lt (by walk_at "pick") | exact Nat.ne_of_gt (by walk_at "pick") | exact Nat.ne_of_gt (Nat.lt_add_one_of_lt (by walk_at "pick")) | exact Nat.ne_of_lt (Nat.lt_add_one_of_lt (by walk_at "pick")) | walk_at "pick" | exact Ne.symm (by walk_at "pick") | omega)
  k_with "my k_units" => ((try simp only [units_under_make, units_in1, units_deeper, Around.mark_units, units_caller]); first | exact Nat.le_trans (Nat.add_le_add_right (by with_reducible assumption) _) (by decide) | exact Nat.le_trans (by with_reducible assumption) (by decide) | exact lt_cline1 (by with_reducible assumption) (by decide) | exact lt_cline2 (by with_reducible assumption) (by decide) | ((have hcL' := cLine_is); omega))
  k_with "subscriptTail Subscript Name Constant Slice ref ref" => (k_here; k_dflt (first | (refine' list_upto (s := ⟨_, _, _, _, _⟩) (by k_asm) (by k_asm) (by k_mem) (by with_reducible assumption) (by omega) (by omega) ?_) | (refine' list_from (s := ⟨_, _, _, _, _⟩) (by k_asm) (by k_asm) (by k_mem) (by with_reducible assumption) (by omega) (by omega) ?_)); intro D' ws' h' F' N' l1 hI'; (try k_lt l1); (try k_sweep))
  k_with "subscriptTail" => (k_here; (with_reducible show wpAny _ _ (subscriptTail _ _ (Value.ref _) (Value.int (Int.fmod _ _) _)) _ _ _); k_dflt (refine' ba_sub (by k_asm) (by k_mem) (by l_fact) (by l_fact) (by omega) ?_ (by with_unfolding_all rfl)))
  k_with "setItem ref int int" => (k_here; k_dflt (refine' ba_set (by k_asm) (by k_asm) (by k_upd) (by l_fact) (by l_fact) (by omega) (by omega) (by omega) ?_); intro h' F' N'; (try k_sweep))
  k_with "call builtin:len" => (k_here; (with_reducible show wpAny _ _ (PySem.call (Value.builtin "len") [Value.ref _]) _ _ _); k_dflt (refine' ba_lenN (by k_asm) (by k_mem) (by omega) ?_))
  k_with "exec For Name Subscript cons nil" => (k_here; refine forA ?_)
  k_with "pyIter bytes" => (k_here; refine KBw.pyIter_bytes ?_)
  k_with "call builtin:len" => (k_here; (with_reducible show wpAny _ _ (PySem.call (Value.builtin "len") [Value.ref _]) _ _ _); k_dflt (refine' list_lenN (by k_asm) (by k_mem) (by with_reducible assumption) (by ((try simp only [List.length_take, List.length_drop]); omega)) ?_))
  k_with "pick" => (focus (apply pickL; (iterate 13 (first | done | with_reducible assumption | apply pickR)); done))
  k_with "ne" => ((try dsimp only); first | assumption | exact Ne.symm (by assumption) | exact NeA.ne (by assumption) | exact Ne.symm (NeA.ne (by assumption)) | exact Nat.ne_of_lt (by walk_at "pick") | exact Nat.ne_of_gt (by walk_at "pick") | exact Nat.ne_of_gt (Nat.lt_add_one_of_lt (by walk_at "pick")) | exact Nat.ne_of_lt (Nat.lt_add_one_of_lt (by walk_at "pick")) | walk_at "pick" | exact Ne.symm (by walk_at "pick") | omega)
  k_with "num" => (first | with_reducible assumption | exact Int.le_add_of_nonneg_right (by decide) | exact nb12 (by with_reducible assumption) (by with_reducible assumption) | (focus ((repeat (first | with_reducible assumption | refine Int.add_nonneg ?_ (by decide))); done)) | exact Int.le_trans (by with_reducible assumption) (by decide) | exact Int.le_trans (Int.add_le_add_right (by with_reducible assumption) _) (by decide) | omega)
  k_with "rem" => (focus ((repeat (first | exact Rem.head | apply Rem.tail)); done))
  k_with "off" => (focus ((repeat (first | assumption | (refine off_cons ?_ ?_; (focus walk_at "ne")))); done))
  k_with "mem" => (focus ((repeat (first | exact List.Mem.head _ | refine List.Mem.tail _ ?_)); done))
  k_with "call ref" => (k_here; (with_reducible show wpAny _ _ (call (Value.ref 161) _) _ _ _); k_dflt ((refine' wpAny_call (take_u (bk := _) (btk := _) (by k_asm) (by k_asm) (by k_asm) (by k_asm) (by k_asm) rfl rfl (by k_room) (by k_units) (by k_updF) (by k_mem) (by walk_at "ne") (by assumption) (by assumption) (by walk_at "num") (by walk_at "num") (by walk_at "num") (by walk_at "num") (by first | omega | exact (pick3 (by assumption) (by assumption)).1 | exact (pick2 (by assumption) (by assumption)).1) (by first | omega | exact Int.le_trans (pick3 (by assumption) (by assumption)).2 (by decide) | exact Int.le_trans (pick2 (by assumption) (by assumption)).2 (by decide)) ?_))); intro r t h t' tk hr0 hr1 F' N'; (try dsimp only at N'); (try dsimp only); revert r t h t' tk hr0 hr1 F' N'; intro _ _ _ _ _ _ _ _ _)
  k_with "call ref" => (k_here; (try dsimp only); (with_reducible show wpAny _ _ (call (Value.ref 147) _) _ _ _); k_dflt ((refine' wpAny_call (tcount_in (by k_asm) (by k_asm) (by k_asm) (news_rem3 (by k_asm) (by walk_at "rem") (by walk_at "rem") (by walk_at "rem")) (by k_asm) rfl rfl (by k_room) (by k_units) (by assumption) ?_ (by assumption) (fun _ _ _ _ _ => ?_))); (next => exact Nat.zero_le _)))
  k_with "my_mem" => (repeat (first | exact List.Mem.head _ | refine List.Mem.tail _ ?_))
  k_with "eval IfExp" => (k_here; k_dflt (refine' merge_len ?F ?N ?first ?next; (case F => k_asm); (case N => k_asm); (case first => ((refine IfExp_ ?_); (repeat' (first | (k_unfold; (try dsimp only)) | walk1 | (dsimp only; walk1) | (leave1; (try dsimp only)) | fail "no step")); (all_goals (refine' lenq_mk (by assumption) (by assumption) ?_ ?_ ?_ ?_ <;> omega))))); intro z t bk' btk' h tk z0 z1 z2 z3 F' N')
  trivial
def LenQ (h₀ : Heap) (L : Addr) (m : Str → Option Value) (s₁ : Shared) (bx cl : Addr) (bk bs : Int) (bts : Tok) (rest : List (Addr × Obj)) (v : Value) (s' : Shared) : Prop :=
  ∃ (z : Int) (t : Tok) (bk' : Int) (btk' : Tok) (h : Heap) (tk : Nat), v = .int z t ∧ s' = { s₁ with heap := h, toks := tk } ∧ 3 ≤ z ∧ z ≤ 64 ∧ bk ≤ bk' ∧ bk' ≤ bk + 1 ∧ Fr h₀ L h m ∧ News h₀ L h ((bx, W.listOf #[.ref cl, .int (bk') btk', .int bs bts] 0) :: rest)
theorem lenq_mk {h₀ : Heap} {L : Addr} {m : Str → Option Value} {s₁ : Shared} {bx cl : Addr} {bk bs : Int} {bts : Tok} {rest : List (Addr × Obj)} {z : Int} {t : Tok} {bk' : Int} {btk' : Tok} {h : Heap} {tk : Nat} (F : Fr h₀ L h m) (N : News h₀ L h ((bx, W.listOf #[.ref cl, .int (bk') btk', .int bs bts] 0) :: rest)) (z0 : 3 ≤ z) (z1 : z ≤ 64) (z2 : bk ≤ bk') (z3 : bk' ≤ bk + 1) :
    LenQ h₀ L m s₁ bx cl bk bs bts rest (.int z t) { s₁ with heap := h, toks := tk } := ⟨z, t, bk', btk', h, tk, rfl, rfl, z0, z1, z2, z3, F, N⟩
theorem merge_len {M : Model} {A : Around} {t : Sem Value} {Q : Value → Shared → Prop} {E : Value → Shared → Prop} {s : Shared} {h₀ : Heap} {L : Addr} {m : Str → Option Value} {bx cl : Addr} {bk bs : Int} {btk bts : Tok} {rest : List (Addr × Obj)}
    (_ : Fr h₀ L s.heap m) (_ : News h₀ L s.heap ((bx, W.listOf #[.ref cl, .int (bk) btk, .int bs bts] 0) :: rest))
    (first : wpAny M A t (LenQ h₀ L m s bx cl bk bs bts rest) E s)
    (next : ∀ z t bk' btk' h tk, 3 ≤ z → z ≤ 64 → bk ≤ bk' → bk' ≤ bk + 1 → Fr h₀ L h m → News h₀ L h ((bx, W.listOf #[.ref cl, .int (bk') btk', .int bs bts] 0) :: rest) → Q (.int z t) { s with heap := h, toks := tk }) : wpAny M A t Q E s :=
  wpAny_mono first (fun v s' hm => by
    obtain ⟨z, t, bk', btk', h, tk, rfl, rfl, a, b, c, d, F, N⟩ := hm
    exact next z t bk' btk' h tk a b c d F N) fun _ _ x => x
set_option maxHeartbeats 4000000 in
theorem law11 {w : World} {h₀ : Heap} {fa : Addr} {cd : Value} {m mg mb : Str → Option Value} {s : Shared} {p : Program} {loose : List Str} {mean : ExcName → Option Value} {Q : Flow → Shared → Prop} {E : Value → Shared → Prop}
    {bx cl tb td tp cn pl bl : Addr} {bv : List Value} {bn : List Int} {bk bs : Int} {btk bts : Tok} {op ot : Obj} {kvs : List (Int × Value)} {sz made : Int} {j1 j2 j3 u1 u2 : Tok} {c0 : Int} {tc0 : Tok} {sh : Bool} {qs : List PS} {tn : List Int} {ttk : Tok}
    (B : Below callerA h₀ [] h₀) (F : Fr h₀ h₀.objs.size s.heap (fun y => if y = Str.ofString "text" then some (.bytes (byteArr tn) ttk) else if y = Str.ofString "count" then some (.ref cn) else if y = Str.ofString "book" then some (.ref bl) else if y = Str.ofString "pipes" then some (.ref pl) else if y = Str.ofString "box" then some (.ref bx) else if y = Str.ofString "is_short" then some (.bool sh) else if y = Str.ofString "cells" then some (.ref cl) else m y)) (X : (hd.heap_1 w.params).In h₀) (N : News h₀ h₀.objs.size s.heap ((bx, W.listOf #[.ref cl, .int (bk) btk, .int bs bts] 0) :: (cl, W.listOf bv.toArray 0) :: (tb, instObj 150 td) :: (td, tdO w sz (made) j1 j2 j3 u1 u2 tp) :: (tp, op) :: (cn, W.listOf #[.int (c0) tc0, .bool sh] 0) :: (pl, LCg.lst (qs.map fun p => Value.ref p.x)) :: (bl, LCg.lst (qs.map fun p => Value.ref p.od)) :: (h₀.objs.size + 1 + 1, ot) :: allp w sz qs)) (T : Top p loose mean mg mb h₀)
    (hot : ot.data = .cell (some (.ref tb))) (htp : (tp == sysModules) = false) (AD : AP ((bx, W.listOf #[.ref cl, .int (bk) btk, .int bs bts] 0) :: (cl, W.listOf bv.toArray 0) :: (tb, instObj 150 td) :: (td, tdO w sz (made) j1 j2 j3 u1 u2 tp) :: (tp, op) :: (cn, W.listOf #[.int (c0) tc0, .bool sh] 0) :: (pl, LCg.lst (qs.map fun p => Value.ref p.x)) :: (bl, LCg.lst (qs.map fun p => Value.ref p.od)) :: (h₀.objs.size + 1 + 1, ot) :: allp w sz qs))
    (hbI : IntsAre bv bn) (hbn : bn.length ≤ 40) (hbk0 : 0 ≤ bk) (hbk1 : bk ≤ 3000) (hbs0 : 0 ≤ bs) (hbs1 : bs < 1009)
    (hkv : op.IsDictOf (PySem.intKind PySem.Challenge.rw_nz0210_01.prog w) []) (hsz : 1 ≤ sz) (hsz1 : sz ≤ 40) (hm0 : 0 ≤ made) (hm1 : made ≤ 10) (htn : ∀ n ∈ tn, 0 ≤ n ∧ n < 256) (htl : tn.length ≤ 70)
    (kont : ∀ h tk, (∀ b o, h₀.get? b = some o → h.get? b = some o) → Q (.ret (.bool true)) { s with heap := h, toks := tk }) :
    wpC (model PySem.Challenge.rw_nz0210_01.prog w) (callerA.deeper (envOfC (Str.ofString "law") lawScope h₀.objs.size fa cd)) (execs (lawBody.drop 11) (envOfC (Str.ofString "law") lawScope h₀.objs.size fa cd)) Q E s := by
  w_top on
  have eb : lawBody.drop 11 = lawBody.drop 11 := rfl
  conv at eb => rhs; whnf
  have es : lawScope = lawScope := rfl
  conv at es => rhs; unfold lawScope; whnf
  rw [eb, es]
  clear eb es

  have AD' := AD
  simp only [List.pairwise_cons] at AD'
  obtain ⟨pbx, pcl, ptb, ptd, ptp, -⟩ := AD'
  have gbx_cl : NeA bx cl := ⟨Ne.symm (pbx (cl, _) (by (focus ((repeat (first | exact List.Mem.head _ | refine List.Mem.tail _ ?_)); done))))⟩
  have gbx_tb : NeA bx tb := ⟨Ne.symm (pbx (tb, _) (by (focus ((repeat (first | exact List.Mem.head _ | refine List.Mem.tail _ ?_)); done))))⟩
  have gbx_td : NeA bx td := ⟨Ne.symm (pbx (td, _) (by (focus ((repeat (first | exact List.Mem.head _ | refine List.Mem.tail _ ?_)); done))))⟩
  have gbx_tp : NeA bx tp := ⟨Ne.symm (pbx (tp, _) (by (focus ((repeat (first | exact List.Mem.head _ | refine List.Mem.tail _ ?_)); done))))⟩
  have gcl_tb : NeA cl tb := ⟨Ne.symm (pcl (tb, _) (by (focus ((repeat (first | exact List.Mem.head _ | refine List.Mem.tail _ ?_)); done))))⟩
  have gcl_td : NeA cl td := ⟨Ne.symm (pcl (td, _) (by (focus ((repeat (first | exact List.Mem.head _ | refine List.Mem.tail _ ?_)); done))))⟩
  have gcl_tp : NeA cl tp := ⟨Ne.symm (pcl (tp, _) (by (focus ((repeat (first | exact List.Mem.head _ | refine List.Mem.tail _ ?_)); done))))⟩
  have gtb_td : NeA tb td := ⟨Ne.symm (ptb (td, _) (by (focus ((repeat (first | exact List.Mem.head _ | refine List.Mem.tail _ ?_)); done))))⟩
  have gtb_tp : NeA tb tp := ⟨Ne.symm (ptb (tp, _) (by (focus ((repeat (first | exact List.Mem.head _ | refine List.Mem.tail _ ?_)); done))))⟩
  have gtd_tp : NeA td tp := ⟨Ne.symm (ptd (tp, _) (by (focus ((repeat (first | exact List.Mem.head _ | refine List.Mem.tail _ ?_)); done))))⟩
  have r_bx : ∀ z ∈ ((cn, W.listOf #[.int c0 tc0, .bool sh] 0) :: (pl, LCg.lst (qs.map fun p => Value.ref p.x)) :: (bl, LCg.lst (qs.map fun p => Value.ref p.od)) :: (h₀.objs.size + 1 + 1, ot) :: allp w sz qs), z.1 ≠ bx := fun z hz => pbx z (.tail _ (.tail _ (.tail _ (.tail _ hz))))
  have r_cl : ∀ z ∈ ((cn, W.listOf #[.int c0 tc0, .bool sh] 0) :: (pl, LCg.lst (qs.map fun p => Value.ref p.x)) :: (bl, LCg.lst (qs.map fun p => Value.ref p.od)) :: (h₀.objs.size + 1 + 1, ot) :: allp w sz qs), z.1 ≠ cl := fun z hz => pcl z (.tail _ (.tail _ (.tail _ hz)))
  have r_tb : ∀ z ∈ ((cn, W.listOf #[.int c0 tc0, .bool sh] 0) :: (pl, LCg.lst (qs.map fun p => Value.ref p.x)) :: (bl, LCg.lst (qs.map fun p => Value.ref p.od)) :: (h₀.objs.size + 1 + 1, ot) :: allp w sz qs), z.1 ≠ tb := fun z hz => ptb z (.tail _ (.tail _ hz))
  have r_td : ∀ z ∈ ((cn, W.listOf #[.int c0 tc0, .bool sh] 0) :: (pl, LCg.lst (qs.map fun p => Value.ref p.x)) :: (bl, LCg.lst (qs.map fun p => Value.ref p.od)) :: (h₀.objs.size + 1 + 1, ot) :: allp w sz qs), z.1 ≠ td := fun z hz => ptd z (.tail _ hz)
  have r_tp : ∀ z ∈ ((cn, W.listOf #[.int c0 tc0, .bool sh] 0) :: (pl, LCg.lst (qs.map fun p => Value.ref p.x)) :: (bl, LCg.lst (qs.map fun p => Value.ref p.od)) :: (h₀.objs.size + 1 + 1, ot) :: allp w sz qs), z.1 ≠ tp := fun z hz => ptp z hz
  clear pbx pcl ptb ptd ptp AD
  refine execsC ?_
  refine ifC (orC (testC (callNameC ?_)))
  (repeat' (first | (k_unfold; (try dsimp only)) | walk1 | (dsimp only; walk1) | (leave1; (try dsimp only)) | fail "no step"))
  refine' callWithK1 (K := hd.heap_1 w.params) ?ck1 ?cq1 ?_
  case ck1 => exact X
  case cq1 => k_is
  (repeat' (first | (k_unfold; (try dsimp only)) | walk1 | (dsimp only; walk1) | (leave1; (try dsimp only)) | fail "no step"))
  refine' wpC_call (thru_in (nb := 0) (nc := 0) (rest := ((cn, W.listOf #[.int c0 tc0, .bool sh] 0) :: (pl, LCg.lst (qs.map fun p => Value.ref p.x)) :: (bl, LCg.lst (qs.map fun p => Value.ref p.od)) :: (h₀.objs.size + 1 + 1, ot) :: allp w sz qs)) ?tB1 ?tF1 ?tX1 ?tN1 ?tT1 rfl rfl ?thd1 ?thu1 gbx_cl gbx_tb gbx_td gbx_tp gcl_tb gcl_td gcl_tp gtb_td gtb_tp gtd_tp r_bx r_cl r_tb r_td r_tp hbI hbn hbk0 (by omega) hbs0 hbs1 htp hkv hsz hsz1 (by omega) (by omega) htn htl (.inl rfl) ?tk1)
  case tB1 => k_asm
  case tF1 => k_asm
  case tX1 => k_asm
  case tN1 => k_asm
  case tT1 => k_asm
  case thd1 => k_room
  case thu1 => k_units
  intro bk1 btk1 op1 u21 tt1 h1 tk1 a1 a2 hkv1 F1 N1
  clear N F
  dsimp only
  (repeat' (first | (k_unfold; (try dsimp only)) | walk1 | (dsimp only; walk1) | (leave1; (try dsimp only)) | fail "no step"))
  · exfalso
    rename _ = true => hne
    simp at hne
  refine testC (callNameC ?_)
  (repeat' (first | (k_unfold; (try dsimp only)) | walk1 | (dsimp only; walk1) | (leave1; (try dsimp only)) | fail "no step"))
  refine' callWithK1 (K := hd.heap_1 w.params) ?ck2 ?cq2 ?_
  case ck2 => exact X
  case cq2 => k_is
  (repeat' (first | (k_unfold; (try dsimp only)) | walk1 | (dsimp only; walk1) | (leave1; (try dsimp only)) | fail "no step"))
  refine' wpC_call (thru_in (nb := 0) (nc := 0) (rest := ((cn, W.listOf #[.int c0 tc0, .bool sh] 0) :: (pl, LCg.lst (qs.map fun p => Value.ref p.x)) :: (bl, LCg.lst (qs.map fun p => Value.ref p.od)) :: (h₀.objs.size + 1 + 1, ot) :: allp w sz qs)) ?tB2 ?tF2 ?tX2 ?tN2 ?tT2 rfl rfl ?thd2 ?thu2 gbx_cl gbx_tb gbx_td gbx_tp gcl_tb gcl_td gcl_tp gtb_td gtb_tp gtd_tp r_bx r_cl r_tb r_td r_tp hbI hbn (Int.le_trans hbk0 a1) (show bk1 ≤ 80000 by omega) hbs0 hbs1 htp hkv1 hsz hsz1 (show 0 ≤ made + 1 by omega) (show made + 1 ≤ 100 by omega) htn htl (.inr rfl) ?tk2)
  case tB2 => k_asm
  case tF2 => k_asm
  case tX2 => k_asm
  case tN2 => k_asm
  case tT2 => k_asm
  case thd2 => k_room
  case thu2 => k_units
  intro bk2 btk2 op2 u22 tt2 h2 tk2 a3 a4 hkv2 F2 N2
  clear N1 F1
  dsimp only
  (repeat' (first | (k_unfold; (try dsimp only)) | walk1 | (dsimp only; walk1) | (leave1; (try dsimp only)) | fail "no step"))
  refine execsC_nil ?_
  dsimp only
  refine execsC ?_
  refine retC (andVC ?_)
  refine wpC_lift ?_
  (repeat' (first | (k_unfold; (try dsimp only)) | walk1 | (dsimp only; walk1) | (leave1; (try dsimp only)) | fail "no step"))
  refine callNameC ?_
  (repeat' (first | (k_unfold; (try dsimp only)) | walk1 | (dsimp only; walk1) | (leave1; (try dsimp only)) | fail "no step"))
  refine' callWithK0 (K := hd.heap_1 w.params) ?rX0 ?rk0 ?_
  case rX0 => exact Frag.In.keeps X (Fr.keep (by assumption))
  case rk0 => k_is
  dsimp only [List.append_nil, List.nil_append]
  refine' wpC_lift (wpAny_call (refused_in (base := h₀) ?rB ?rF ?rX ?rN ?rT X T rfl rfl ?rhd ?rhu (fun h tk F N => ?_)))
  case rB => k_asm
  case rF => k_asm
  case rX => k_asm
  case rN => k_asm
  case rT => k_asm
  case rhd => k_room
  case rhu => k_units
  dsimp only
  exact kont _ _ F.keep
set_option maxHeartbeats 4000000 in
theorem law10 {w : World} {h₀ : Heap} {fa : Addr} {cd : Value} {m mg mb : Str → Option Value} {s : Shared} {p : Program} {loose : List Str} {mean : ExcName → Option Value} {Q : Flow → Shared → Prop} {E : Value → Shared → Prop}
    {bx cl tb td tp cn pl bl : Addr} {bv : List Value} {bn : List Int} {bk bs : Int} {btk bts : Tok} {op ot : Obj} {kvs : List (Int × Value)} {sz made : Int} {j1 j2 j3 u1 u2 : Tok} {c0 : Int} {tc0 : Tok} {sh : Bool} {qs : List PS}
    (B : Below callerA h₀ [] h₀) (F : Fr h₀ h₀.objs.size s.heap (fun y => if y = Str.ofString "count" then some (.ref cn) else if y = Str.ofString "book" then some (.ref bl) else if y = Str.ofString "pipes" then some (.ref pl) else if y = Str.ofString "box" then some (.ref bx) else if y = Str.ofString "is_short" then some (.bool sh) else if y = Str.ofString "cells" then some (.ref cl) else m y)) (X : (hd.heap_1 w.params).In h₀) (N : News h₀ h₀.objs.size s.heap ((bx, W.listOf #[.ref cl, .int (bk) btk, .int bs bts] 0) :: (cl, W.listOf bv.toArray 0) :: (tb, instObj 150 td) :: (td, tdO w sz (made) j1 j2 j3 u1 u2 tp) :: (tp, op) :: (cn, W.listOf #[.int (c0) tc0, .bool sh] 0) :: (pl, LCg.lst (qs.map fun p => Value.ref p.x)) :: (bl, LCg.lst (qs.map fun p => Value.ref p.od)) :: (h₀.objs.size + 1 + 1, ot) :: allp w sz qs)) (T : Top p loose mean mg mb h₀)
    (hot : ot.data = .cell (some (.ref tb))) (htp : (tp == sysModules) = false) (AD : AP ((bx, W.listOf #[.ref cl, .int (bk) btk, .int bs bts] 0) :: (cl, W.listOf bv.toArray 0) :: (tb, instObj 150 td) :: (td, tdO w sz (made) j1 j2 j3 u1 u2 tp) :: (tp, op) :: (cn, W.listOf #[.int (c0) tc0, .bool sh] 0) :: (pl, LCg.lst (qs.map fun p => Value.ref p.x)) :: (bl, LCg.lst (qs.map fun p => Value.ref p.od)) :: (h₀.objs.size + 1 + 1, ot) :: allp w sz qs))
    (hbI : IntsAre bv bn) (hbn : bn.length ≤ 40) (hbk0 : 0 ≤ bk) (hbk1 : bk ≤ 2000) (hbs0 : 0 ≤ bs) (hbs1 : bs < 1009)
    (hkv : op.IsDictOf (PySem.intKind PySem.Challenge.rw_nz0210_01.prog w) []) (hsz : 1 ≤ sz) (hsz1 : sz ≤ 40) (hm0 : 0 ≤ made) (hm1 : made ≤ 10)
    (kont : ∀ h tk, (∀ b o, h₀.get? b = some o → h.get? b = some o) → Q (.ret (.bool true)) { s with heap := h, toks := tk }) :
    wpC (model PySem.Challenge.rw_nz0210_01.prog w) (callerA.deeper (envOfC (Str.ofString "law") lawScope h₀.objs.size fa cd)) (execs (lawBody.drop 10) (envOfC (Str.ofString "law") lawScope h₀.objs.size fa cd)) Q E s := by
  w_top on
  have eb : lawBody.drop 10 = lawBody.drop 10 := rfl
  conv at eb => rhs; whnf
  have es : lawScope = lawScope := rfl
  conv at es => rhs; unfold lawScope; whnf
  rw [eb, es]
  clear eb es

  have hoff := ap_off AD
  dsimp only at hoff
  have hbc : NeA bx cl := ⟨Ne.symm (hoff (cl, _) (.head _))⟩
  refine execsC_lift ?_
  (repeat' (first | (k_unfold; (try dsimp only)) | walk1 | (dsimp only; walk1) | (leave1; (try dsimp only)) | fail "no step"))
  dsimp only
  rename Fr _ _ _ _ => F1
  rename News _ _ _ _ => N1
  refine' law11 (kvs := []) (bn := bn) B F1 X (news_tail N1) T hot htp (ap_head AD rfl) (by assumption) hbn ?x0 ?x1 hbs0 hbs1 hkv hsz hsz1 hm0 hm1 ?xt ?xl kont
  case x0 => omega
  case x1 => omega
  case xt =>
    intro n hn
    obtain ⟨a, -, rfl⟩ := List.mem_map.mp hn
    exact fmod_pos (by decide)
  case xl => (rw [List.length_map, rangeKs_length]; omega)

end

/-! part LawF6 -/
section
theorem linesLawF6 : True := by
  k_with_none
  k_with "my k_room" => ((try simp only [depth_under_make, depth_under_kw, depth_in1, depth_deeper, depth_caller]); (try simp only [recursionLimit]); first | decide | exact Nat.le_trans (by with_reducible assumption) (by decide) | exact Nat.le_trans (Nat.add_le_add_right (by with_reducible assumption) _) (by decide) | omega)
  k_with "execs cons" => (k_here; dsimp only; k_gentoks)
  k_with "execs nil" => (k_here; dsimp only; k_gentoks)
  k_with "my k_all" => (with_reducible assumption)
  k_with "my k_ne" => (refine neN ?_; (try dsimp only); first | with_reducible assumption | exact Ne.symm (by with_reducible assumption) | exact NeA.ne (by with_reducible assumption) | exact Ne.symm (NeA.ne (by with_reducible assumption)) | exact Nat.ne_of_lt (by walk_at "pick") | exact Nat.ne_of_gt (by walk_at "pick") | exact Nat.ne_of_gt (Nat.lt_add_one_of_lt (by walk_at "pick")) | exact Nat.ne_of_lt (Nat.lt_add_one_of_lt (by walk_at "pick")) | walk_at "pick" | exact Ne.symm (by walk_at "pick") | omega)
  k_with "my k_units" => ((try simp only [units_under_make, units_in1, units_deeper, Around.mark_units, units_caller]); first | exact Nat.le_trans (Nat.add_le_add_right (by with_reducible assumption) _) (by decide) | exact Nat.le_trans (by with_reducible assumption) (by decide) | exact lt_cline1 (by with_reducible assumption) (by decide) | exact lt_cline2 (by with_reducible assumption) (by decide) | ((have hcL' := cLine_is); omega))
  k_with "subscriptTail Subscript Name Constant Slice ref ref" => (k_here; k_dflt (first | (refine' list_upto (s := ⟨_, _, _, _, _⟩) (by k_asm) (by k_asm) (by k_mem) (by with_reducible assumption) (by omega) (by omega) ?_) | (refine' list_from (s := ⟨_, _, _, _, _⟩) (by k_asm) (by k_asm) (by k_mem) (by with_reducible assumption) (by omega) (by omega) ?_)); intro D' ws' h' F' N' l1 hI'; (try k_lt l1); (try k_sweep))
  k_with "subscriptTail" => (k_here; (with_reducible show wpAny _ _ (subscriptTail _ _ (Value.ref _) (Value.int (Int.fmod _ _) _)) _ _ _); k_dflt (refine' ba_sub (by k_asm) (by k_mem) (by l_fact) (by l_fact) (by omega) ?_ (by with_unfolding_all rfl)))
  k_with "setItem ref int int" => (k_here; k_dflt (refine' ba_set (by k_asm) (by k_asm) (by k_upd) (by l_fact) (by l_fact) (by omega) (by omega) (by omega) ?_); intro h' F' N'; (try k_sweep))
  k_with "call builtin:len" => (k_here; (with_reducible show wpAny _ _ (PySem.call (Value.builtin "len") [Value.ref _]) _ _ _); k_dflt (refine' ba_lenN (by k_asm) (by k_mem) (by omega) ?_))
  k_with "exec For Name Subscript cons nil" => (k_here; refine forA ?_)
  k_with "pyIter bytes" => (k_here; refine KBw.pyIter_bytes ?_)
  k_with "call builtin:len" => (k_here; (with_reducible show wpAny _ _ (PySem.call (Value.builtin "len") [Value.ref _]) _ _ _); k_dflt (refine' list_lenN (by k_asm) (by k_mem) (by with_reducible assumption) (by ((try simp only [List.length_take, List.length_drop]); omega)) ?_))
  k_with "pick" => (focus (apply pickL; (iterate 13 (first | done | with_reducible assumption | apply pickR)); done))
  k_with "ne" => ((try dsimp only); first | assumption | exact Ne.symm (by assumption) | exact NeA.ne (by assumption) | exact Ne.symm (NeA.ne (by assumption)) | exact Nat.ne_of_lt (by walk_at "pick") | exact Nat.ne_of_gt (by walk_at "pick") | exact Nat.ne_of_gt (Nat.lt_add_one_of_lt (by walk_at "pick")) | exact Nat.ne_of_lt (Nat.lt_add_one_of_lt (by walk_at "pick")) | walk_at "pick" | exact Ne.symm (by walk_at "pick") | omega)
  k_with "num" => (first | with_reducible assumption | exact Int.le_add_of_nonneg_right (by decide) | exact nb12 (by with_reducible assumption) (by with_reducible assumption) | (focus ((repeat (first | with_reducible assumption | refine Int.add_nonneg ?_ (by decide))); done)) | exact Int.le_trans (by with_reducible assumption) (by decide) | exact Int.le_trans (Int.add_le_add_right (by with_reducible assumption) _) (by decide) | omega)
  k_with "rem" => (focus ((repeat (first | exact Rem.head | apply Rem.tail)); done))
  k_with "off" => (focus ((repeat (first | assumption | (refine off_cons ?_ ?_; (focus walk_at "ne")))); done))
  k_with "mem" => (focus ((repeat (first | exact List.Mem.head _ | refine List.Mem.tail _ ?_)); done))
  trivial
theorem perm_law {b1 b2 b3 b4 b5 cn pl bl e : Addr × Obj} {l : List (Addr × Obj)} : (cn :: bl :: pl :: b1 :: b2 :: b3 :: b4 :: b5 :: e :: l).Perm (b1 :: b2 :: b3 :: b4 :: b5 :: cn :: pl :: bl :: e :: l) :=
  (List.Perm.append_right (e :: l) (List.perm_append_comm (l₁ := [cn, bl, pl]) (l₂ := [b1, b2, b3, b4, b5]))).trans
    (List.Perm.append_left [b1, b2, b3, b4, b5] (List.Perm.cons cn (List.Perm.swap pl bl (e :: l))))
set_option maxHeartbeats 4000000 in
theorem law6 {w : World} {h₀ : Heap} {fa : Addr} {cd : Value} {m mg mb : Str → Option Value} {s : Shared} {p : Program} {loose : List Str} {mean : ExcName → Option Value} {Q : Flow → Shared → Prop} {E : Value → Shared → Prop}
    {bx cl tb td tp pl bl : Addr} {bv : List Value} {bn : List Int} {bk bs : Int} {btk bts : Tok} {op ot : Obj} {kvs : List (Int × Value)} {sz made : Int} {j1 j2 j3 u1 u2 : Tok} {sh : Bool} {qs : List PS}
    (B : Below callerA h₀ [] h₀) (F : Fr h₀ h₀.objs.size s.heap (fun y => if y = Str.ofString "book" then some (.ref bl) else if y = Str.ofString "pipes" then some (.ref pl) else if y = Str.ofString "box" then some (.ref bx) else if y = Str.ofString "is_short" then some (.bool sh) else if y = Str.ofString "cells" then some (.ref cl) else m y)) (X : (hd.heap_1 w.params).In h₀) (N : News h₀ h₀.objs.size s.heap ((bl, LCg.lst (qs.map fun p => Value.ref p.od)) :: (pl, LCg.lst (qs.map fun p => Value.ref p.x)) :: (bx, W.listOf #[.ref cl, .int (bk) btk, .int bs bts] 0) :: (cl, W.listOf bv.toArray 0) :: (tb, instObj 150 td) :: (td, tdO w sz (made) j1 j2 j3 u1 u2 tp) :: (tp, op) :: (h₀.objs.size + 1 + 1, ot) :: allp w sz qs)) (T : Top p loose mean mg mb h₀)
    (hot : ot.data = .cell (some (.ref tb))) (htp : (tp == sysModules) = false) (AD : AP ((bl, LCg.lst (qs.map fun p => Value.ref p.od)) :: (pl, LCg.lst (qs.map fun p => Value.ref p.x)) :: (bx, W.listOf #[.ref cl, .int (bk) btk, .int bs bts] 0) :: (cl, W.listOf bv.toArray 0) :: (tb, instObj 150 td) :: (td, tdO w sz (made) j1 j2 j3 u1 u2 tp) :: (tp, op) :: (h₀.objs.size + 1 + 1, ot) :: allp w sz qs))
    (hbI : IntsAre bv bn) (hbn : bn.length ≤ 40) (hbk0 : 0 ≤ bk) (hbk1 : bk ≤ 20) (hbs0 : 0 ≤ bs) (hbs1 : bs < 1009)
    (hkv : op.IsDictOf (PySem.intKind PySem.Challenge.rw_nz0210_01.prog w) kvs) (hlen : qs.length ≤ 3) (hlen1 : 1 ≤ qs.length) (hkl : kvs.length = qs.length) (hks : ∀ kv ∈ kvs, kv.1 ∈ qs.map (·.id)) (hnd : (qs.map (·.id)).Nodup) (hsz : 1 ≤ sz) (hsz1 : sz ≤ 40) (hm0 : 0 ≤ made) (hm1 : made ≤ 10) (hg : ∀ p ∈ qs, PG w sz 0 p)
    (kont : ∀ h tk, (∀ b o, h₀.get? b = some o → h.get? b = some o) → Q (.ret (.bool true)) { s with heap := h, toks := tk }) :
    wpC (model PySem.Challenge.rw_nz0210_01.prog w) (callerA.deeper (envOfC (Str.ofString "law") lawScope h₀.objs.size fa cd)) (execs (lawBody.drop 6) (envOfC (Str.ofString "law") lawScope h₀.objs.size fa cd)) Q E s := by
  w_top on
  have eb : lawBody.drop 6 = lawBody.drop 6 := rfl
  conv at eb => rhs; whnf
  have es : lawScope = lawScope := rfl
  conv at es => rhs; unfold lawScope; whnf
  rw [eb, es]
  clear eb es

  refine execsC_lift ?_
  (repeat' (first | (k_unfold; (try dsimp only)) | walk1 | (dsimp only; walk1) | (leave1; (try dsimp only)) | fail "no step"))
  dsimp only
  rename Fr _ _ _ _ => F1
  rename News _ _ _ _ => N1
  rename_i cn h_c l1c h_d
  have hlt : ∀ z ∈ (bl, LCg.lst (qs.map fun p => Value.ref p.od)) :: (pl, LCg.lst (qs.map fun p => Value.ref p.x)) :: (bx, W.listOf #[.ref cl, .int (bk) btk, .int bs bts] 0) :: (cl, W.listOf bv.toArray 0) :: (tb, instObj 150 td) :: (td, tdO w sz (made) j1 j2 j3 u1 u2 tp) :: (tp, op) :: (h₀.objs.size + 1 + 1, ot) :: allp w sz qs, @LT.lt Nat _ z.1 cn := all_lt (l := (bl, LCg.lst (qs.map fun p => Value.ref p.od)) :: (pl, LCg.lst (qs.map fun p => Value.ref p.x)) :: (bx, W.listOf #[.ref cl, .int (bk) btk, .int bs bts] 0) :: (cl, W.listOf bv.toArray 0) :: (tb, instObj 150 td) :: (td, tdO w sz (made) j1 j2 j3 u1 u2 tp) :: (tp, op) :: (h₀.objs.size + 1 + 1, ot) :: allp w sz qs) l1c
  have AD1 : ∀ tc, AP ((bx, W.listOf #[.ref cl, .int (bk) btk, .int bs bts] 0) :: (cl, W.listOf bv.toArray 0) :: (tb, instObj 150 td) :: (td, tdO w sz (made) j1 j2 j3 u1 u2 tp) :: (tp, op) :: (cn, W.listOf #[.int (1) tc, .bool sh] 0) :: (pl, LCg.lst (qs.map fun p => Value.ref p.x)) :: (bl, LCg.lst (qs.map fun p => Value.ref p.od)) :: (h₀.objs.size + 1 + 1, ot) :: allp w sz qs) := fun tc => ap_perm perm_law (ap_cons (p := (cn, W.listOf #[.int 1 tc, .bool sh] 0)) AD (fun z hz => Nat.ne_of_lt (hlt z hz)))
  have hkv0 := hkv
  have hks0 := hks
  clear l1c hlt
  refine' law7 (bn := bn) B F1 X (news_sub N1 ?sA) T hot htp hkv hlen hkl hnd ?k7
  case sA => (focus ((repeat (first | with_reducible exact fun _ h => h | exact sub_nil | (refine sub_cons ?_ ?_; (focus (focus ((repeat (first | exact List.Mem.head _ | refine List.Mem.tail _ ?_)); done)))) | refine sub_skip ?_)); done))
  case k7 =>
    intro h tk F2 N2
    refine law8 B F2 X N2 T hot htp (AD1 _) (by assumption) hbn hbk0 (by omega) hbs0 hbs1 hkv hlen hlen1 (by omega) hsz hsz1 (by omega) (by omega) hg ?_
    intro bk' btk' op' kvs' c0' tc0' qs' m' h tk b0 b1 hkv' hkl' hks' hid hg' F3 N3 AD3
    have hq : qs'.length = qs.length := by simpa using congrArg List.length hid
    refine law9 (bn := bn) B F3 X N3 T hot htp AD3 hkv' (by omega) hkl' (fun kv h => by rw [hid]; exact hks kv (hks' kv h)) hsz hsz1 (fun p hp => (hg' p hp).ph) ?_
    intro op2 qs2 m2 h tk hkv2 F4 N4 AD4
    exact law10 (kvs := []) B F4 X N4 T hot htp AD4 (by assumption) hbn b0 b1 hbs0 hbs1 hkv2 hsz hsz1 hm0 hm1 kont

end

/-! part LawF5 -/
section
theorem linesLawF5 : True := by
  k_with_none
  k_with "my k_room" => ((try simp only [depth_under_make, depth_under_kw, depth_in1, depth_deeper, depth_caller]); (try simp only [recursionLimit]); first | decide | exact Nat.le_trans (by with_reducible assumption) (by decide) | exact Nat.le_trans (Nat.add_le_add_right (by with_reducible assumption) _) (by decide) | omega)
  k_with "execs cons" => (k_here; dsimp only; k_gentoks)
  k_with "execs nil" => (k_here; dsimp only; k_gentoks)
  k_with "my k_all" => (with_reducible assumption)
  k_with "my k_ne" => (refine neN ?_; (try dsimp only); first | with_reducible assumption | exact Ne.symm (by with_reducible assumption) | exact NeA.ne (by with_reducible assumption) | exact Ne.symm (NeA.ne (by with_reducible assumption)) | exact Nat.ne_of_lt (by walk_at "pick") | exact Nat.ne_of_gt (by walk_at "pick") | exact Nat.ne_of_gt (Nat.lt_add_one_of_lt (by walk_at "pick")) | exact Nat.ne_of_lt (Nat.lt_add_one_of_lt (by walk_at "pick")) | walk_at "pick" | exact Ne.symm (by walk_at "pick") | omega)
  k_with "my k_units" => ((try simp only [units_under_make, units_in1, units_deeper, Around.mark_units, units_caller]); first | exact Nat.le_trans (Nat.add_le_add_right (by with_reducible assumption) _) (by decide) | exact Nat.le_trans (by with_reducible assumption) (by decide) | exact lt_cline1 (by with_reducible assumption) (by decide) | exact lt_cline2 (by with_reducible assumption) (by decide) | ((have hcL' := cLine_is); omega))
  k_with "subscriptTail Subscript Name Constant Slice ref ref" => (k_here; k_dflt (first | (refine' list_upto (s := ⟨_, _, _, _, _⟩) (by k_asm) (by k_asm) (by k_mem) (by with_reducible assumption) (by omega) (by omega) ?_) | (refine' list_from (s := ⟨_, _, _, _, _⟩) (by k_asm) (by k_asm) (by k_mem) (by with_reducible assumption) (by omega) (by omega) ?_)); intro D' ws' h' F' N' l1 hI'; (try k_lt l1); (try k_sweep))
  k_with "subscriptTail" => (k_here; (with_reducible show wpAny _ _ (subscriptTail _ _ (Value.ref _) (Value.int (Int.fmod _ _) _)) _ _ _); k_dflt (refine' ba_sub (by k_asm) (by k_mem) (by l_fact) (by l_fact) (by omega) ?_ (by with_unfolding_all rfl)))
  k_with "setItem ref int int" => (k_here; k_dflt (refine' ba_set (by k_asm) (by k_asm) (by k_upd) (by l_fact) (by l_fact) (by omega) (by omega) (by omega) ?_); intro h' F' N'; (try k_sweep))
  k_with "call builtin:len" => (k_here; (with_reducible show wpAny _ _ (PySem.call (Value.builtin "len") [Value.ref _]) _ _ _); k_dflt (refine' ba_lenN (by k_asm) (by k_mem) (by omega) ?_))
  k_with "exec For Name Subscript cons nil" => (k_here; refine forA ?_)
  k_with "pyIter bytes" => (k_here; refine KBw.pyIter_bytes ?_)
  k_with "call builtin:len" => (k_here; (with_reducible show wpAny _ _ (PySem.call (Value.builtin "len") [Value.ref _]) _ _ _); k_dflt (refine' list_lenN (by k_asm) (by k_mem) (by with_reducible assumption) (by ((try simp only [List.length_take, List.length_drop]); omega)) ?_))
  k_with "pick" => (focus (apply pickL; (iterate 13 (first | done | with_reducible assumption | apply pickR)); done))
  k_with "ne" => ((try dsimp only); first | assumption | exact Ne.symm (by assumption) | exact NeA.ne (by assumption) | exact Ne.symm (NeA.ne (by assumption)) | exact Nat.ne_of_lt (by walk_at "pick") | exact Nat.ne_of_gt (by walk_at "pick") | exact Nat.ne_of_gt (Nat.lt_add_one_of_lt (by walk_at "pick")) | exact Nat.ne_of_lt (Nat.lt_add_one_of_lt (by walk_at "pick")) | walk_at "pick" | exact Ne.symm (by walk_at "pick") | omega)
  k_with "num" => (first | with_reducible assumption | exact Int.le_add_of_nonneg_right (by decide) | exact nb12 (by with_reducible assumption) (by with_reducible assumption) | (focus ((repeat (first | with_reducible assumption | refine Int.add_nonneg ?_ (by decide))); done)) | exact Int.le_trans (by with_reducible assumption) (by decide) | exact Int.le_trans (Int.add_le_add_right (by with_reducible assumption) _) (by decide) | omega)
  k_with "rem" => (focus ((repeat (first | exact Rem.head | apply Rem.tail)); done))
  k_with "off" => (focus ((repeat (first | assumption | (refine off_cons ?_ ?_; (focus walk_at "ne")))); done))
  k_with "mem" => (focus ((repeat (first | exact List.Mem.head _ | refine List.Mem.tail _ ?_)); done))
  trivial
def pcs1 (w : World) (sz : Int) (p : PS) : List (Addr × Obj) := [(p.x, instObj 107 p.d), (p.d, p.pd w sz), (p.r, baOf p.ring)]
def PF (sz : Int) (p : PS) : Prop := p.rc = 0 ∧ p.wc = 0 ∧ p.ro = true ∧ p.wo = true ∧ RingIs p.ring sz 0 0 []
/-- a book just made -/
def BkF (w : World) (sz : Int) (p : PS) : Prop :=
  p.oo.IsDictOf (PySem.strKind PySem.Challenge.rw_nz0210_01.prog w) [(Str.ofString "size", .int sz p.tz), (Str.ofString "queue", .ref p.q), (Str.ofString "reads", .bool true), (Str.ofString "writes", .bool true)] ∧ (p.od == sysModules) = false ∧ p.qv = [] ∧ p.qn = []
/-- the ledger while the books are made -/
def BooksT (w : World) (sz : Int) (xs : List Value) (ids : List Int) (F : List (Addr × Obj)) (i : Nat) (ys : List Value) (nw : List (Addr × Obj)) : Prop :=
  ∃ (done todo : List PS), done.length = i ∧ (done ++ todo).map (fun p => Value.ref p.x) = xs ∧ (done ++ todo).map (·.id) = ids ∧ (∀ p ∈ done ++ todo, PF sz p) ∧ (∀ p ∈ done, BkF w sz p) ∧ ys = done.map (fun p => Value.ref p.od) ∧
    nw = F ++ (done.flatMap (pcs w sz) ++ todo.flatMap (pcs1 w sz)) ∧ AP nw
theorem book_perm (w : World) (sz : Int) (F : List (Addr × Obj)) (done todo : List PS) (p p1 : PS) (h : pcs1 w sz p1 = pcs1 w sz p) :
    (((p1.od, p1.oo) :: (p1.q, W.listOf p1.qv.toArray p1.nq) :: (F ++ (done.flatMap (pcs w sz) ++ (p :: todo).flatMap (pcs1 w sz)))) : List (Addr × Obj)).Perm (F ++ ((done ++ [p1]).flatMap (pcs w sz) ++ todo.flatMap (pcs1 w sz))) := by
  have e1 : (done ++ [p1]).flatMap (pcs w sz) ++ todo.flatMap (pcs1 w sz) = done.flatMap (pcs w sz) ++ ([(p1.od, p1.oo), (p1.q, W.listOf p1.qv.toArray p1.nq)] ++ (p :: todo).flatMap (pcs1 w sz)) := by
    rw [List.flatMap_append, List.flatMap_singleton, List.flatMap_cons, ← h, List.append_assoc]
    rfl
  rw [e1]
  exact (List.perm_append_comm_assoc [(p1.od, p1.oo), (p1.q, W.listOf p1.qv.toArray p1.nq)] F _).trans (List.Perm.append_left F (List.perm_append_comm_assoc _ _ _))
theorem ap_sub {l l' : List (Addr × Obj)} (h : l.Sublist l') (a : AP l') : AP l := List.Pairwise.sublist h a
set_option maxHeartbeats 4000000 in
theorem law5 {w : World} {h₀ : Heap} {fa : Addr} {cd : Value} {m mg mb : Str → Option Value} {s : Shared} {p : Program} {loose : List Str} {mean : ExcName → Option Value} {Q : Flow → Shared → Prop} {E : Value → Shared → Prop}
    {bx cl tb td tp pl : Addr} {bv : List Value} {bn : List Int} {bk bs : Int} {btk bts : Tok} {op ot oc : Obj} {tz : Tok} {kvs : List (Int × Value)} {sz made : Int} {j1 j2 j3 u1 u2 : Tok} {sh : Bool} {ps : List PS}
    (B : Below callerA h₀ [] h₀) (F : Fr h₀ h₀.objs.size s.heap (fun y => if y = Str.ofString "pipes" then some (.ref pl) else if y = Str.ofString "box" then some (.ref bx) else if y = Str.ofString "is_short" then some (.bool sh) else if y = Str.ofString "cells" then some (.ref cl) else m y)) (X : (hd.heap_1 w.params).In h₀) (N : News h₀ h₀.objs.size s.heap ((pl, LCg.lst (ps.map fun p => Value.ref p.x)) :: (bx, W.listOf #[.ref cl, .int (bk) btk, .int bs bts] 0) :: (cl, W.listOf bv.toArray 0) :: (tb, instObj 150 td) :: (td, tdO w sz (made) j1 j2 j3 u1 u2 tp) :: (tp, op) :: (h₀.objs.size + 1 + 1, ot) :: (h₀.objs.size + 1, oc) :: ps.flatMap (pcs1 w sz))) (T : Top p loose mean mg mb h₀)
    (hot : ot.data = .cell (some (.ref tb))) (hoc : oc.data = .cell (some (.int sz tz))) (htp : (tp == sysModules) = false) (AD : AP ((pl, LCg.lst (ps.map fun p => Value.ref p.x)) :: (bx, W.listOf #[.ref cl, .int (bk) btk, .int bs bts] 0) :: (cl, W.listOf bv.toArray 0) :: (tb, instObj 150 td) :: (td, tdO w sz (made) j1 j2 j3 u1 u2 tp) :: (tp, op) :: (h₀.objs.size + 1 + 1, ot) :: (h₀.objs.size + 1, oc) :: ps.flatMap (pcs1 w sz)))
    (hbI : IntsAre bv bn) (hbn : bn.length ≤ 40) (hbk0 : 0 ≤ bk) (hbk1 : bk ≤ 20) (hbs0 : 0 ≤ bs) (hbs1 : bs < 1009)
    (hkv : op.IsDictOf (PySem.intKind PySem.Challenge.rw_nz0210_01.prog w) kvs) (hlen : ps.length ≤ 3) (hlen1 : 1 ≤ ps.length) (hkl : kvs.length = ps.length) (hks : ∀ kv ∈ kvs, kv.1 ∈ ps.map (·.id)) (hid : ps.map (·.id) = (List.range ps.length).map Int.ofNat) (hsz : 1 ≤ sz) (hsz1 : sz ≤ 40) (hm0 : 0 ≤ made) (hm1 : made ≤ 10) (hpf : ∀ p ∈ ps, PF sz p)
    (kont : ∀ h tk, (∀ b o, h₀.get? b = some o → h.get? b = some o) → Q (.ret (.bool true)) { s with heap := h, toks := tk }) :
    wpC (model PySem.Challenge.rw_nz0210_01.prog w) (callerA.deeper (envOfC (Str.ofString "law") lawScope h₀.objs.size fa cd)) (execs (lawBody.drop 5) (envOfC (Str.ofString "law") lawScope h₀.objs.size fa cd)) Q E s := by
  w_top on
  have eb : lawBody.drop 5 = lawBody.drop 5 := rfl
  conv at eb => rhs; whnf
  have es : lawScope = lawScope := rfl
  conv at es => rhs; unfold lawScope; whnf
  rw [eb, es]
  clear eb es

  refine execsC (asgLCC (by rfl) (by rfl) rfl (by decide) (by intro _; rfl) ?_)
  (repeat' (first | (k_unfold; (try dsimp only)) | walk1 | (dsimp only; walk1) | (leave1; (try dsimp only)) | fail "no step"))
  refine' iter_list rfl ?hF ?hN ?hm fun I h1 F1 N1 W1 st1 fp1 hIL hI0 off1 => ?_
  case hF => assumption
  case hN => assumption
  case hm => (focus ((repeat (first | exact List.Mem.head _ | refine List.Mem.tail _ ?_)); done))
  refine' blockC1 (T := BooksT w sz (ps.map fun p => Value.ref p.x) (ps.map (·.id)) [(pl, LCg.lst (ps.map fun p => Value.ref p.x)), (bx, W.listOf #[.ref cl, .int (bk) btk, .int bs bts] 0), (cl, W.listOf bv.toArray 0), (tb, instObj 150 td), (td, tdO w sz (made) j1 j2 j3 u1 u2 tp), (tp, op), (h₀.objs.size + 1 + 1, ot), (h₀.objs.size + 1, oc)]) W1 ?bz2 list_io ?bk2 ?g12 rfl ?g22 st1 fp1 F1 N1 hIL hI0 off1 ?hT2 ?step2 ?fin2
  case hT2 => exact ⟨[], ps, rfl, rfl, rfl, hpf, (fun _ h => nomatch h), rfl, rfl, AD⟩
  case bz2 => (rw [List.size_toArray, List.length_map, sizeLine_eq]; omega)
  case g12 => decide
  case g22 => rfl
  case bk2 =>
    rintro i h h' o nw ys st e e' N' ⟨done, todo, -, -, -, -, -, -, rfl, -⟩
    exact list_keep _ _ _ _ _ st e e' N' (.head _)
  case step2 =>
    intro i ys nw v oI C oC D m₂ h tk hi hT hP hC hx F9 N9 o3 hne
    obtain ⟨done, todo, hdl, hxs, hids, hpf2, hbk, rfl, rfl, AP2⟩ := hT
    refine wpC_lift ?_
    (repeat' (first | (k_unfold; (try dsimp only)) | walk1 | (dsimp only; walk1) | (leave1; (try dsimp only)) | fail "no step"))
    rename_i od h_0 o_1 lo0 hd0 l1q qa h_1 F_1 N_1 l2q h_2 oo F_3 N_3 hd3
    rcases todo with _ | ⟨p, todo⟩
    · exfalso
      have := congrArg List.length hxs
      rw [List.append_nil, List.length_map, List.length_map, hdl] at this
      rw [List.size_toArray, List.length_map] at hi
      omega
    let p1 : PS := { p with od := od, q := qa, oo := oo, qv := [], qn := [], nq := 0, tz := tz }
    have BP := book_perm w sz [(pl, LCg.lst (ps.map fun p => Value.ref p.x)), (bx, W.listOf #[.ref cl, .int (bk) btk, .int bs bts] 0), (cl, W.listOf bv.toArray 0), (tb, instObj 150 td), (td, tdO w sz (made) j1 j2 j3 u1 u2 tp), (tp, op), (h₀.objs.size + 1 + 1, ot), (h₀.objs.size + 1, oc)] done todo p p1 rfl
    refine' ⟨_, _, _, rfl, F_3, news_sub N_3 ?b1, ?b2, ⟨done ++ [p1], todo, ?b3, ?b4, ?b5, ?b6, ?b7, ?b8, rfl, ap_perm BP ?b9⟩⟩
    case b1 =>
      refine sub_cons (by (focus ((repeat (first | exact List.Mem.head _ | refine List.Mem.tail _ ?_)); done))) (sub_cons (by (focus ((repeat (first | exact List.Mem.head _ | refine List.Mem.tail _ ?_)); done))) (sub_cons (by (focus ((repeat (first | exact List.Mem.head _ | refine List.Mem.tail _ ?_)); done))) fun z hz => ?_))
      rcases List.mem_cons.mp (BP.mem_iff.mpr hz) with rfl | hz
      · exact .tail _ (.head _)
      rcases List.mem_cons.mp hz with rfl | hz
      · exact .head _
      · exact .tail _ (.tail _ (.tail _ (.tail _ (.tail _ hz))))
    case b2 =>
      refine LCg.Off3.of fun z hz => ?_
      rcases List.mem_cons.mp (BP.mem_iff.mpr hz) with rfl | hz
      · exact ⟨Nat.ne_of_gt l1q.1, Nat.ne_of_gt l1q.2.1, Nat.ne_of_gt l1q.2.2.1⟩
      rcases List.mem_cons.mp hz with rfl | hz
      · exact ⟨Nat.ne_of_gt l2q.2.1, Nat.ne_of_gt l2q.2.2.1, Nat.ne_of_gt l2q.2.2.2.1⟩
      · exact o3.mem z hz
    case b3 => (rw [List.length_append, hdl]; rfl)
    case b4 => (rw [← hxs, List.map_append, List.map_append, List.map_append, List.append_assoc]; rfl)
    case b5 => (rw [← hids, List.map_append, List.map_append, List.map_append, List.append_assoc]; rfl)
    case b6 =>
      intro z hz
      rcases List.mem_append.mp hz with hz | hz
      · rcases List.mem_append.mp hz with hz | hz
        · exact hpf2 z (List.mem_append_left _ hz)
        · rw [List.mem_singleton.mp hz]
          exact hpf2 p (List.mem_append_right _ (.head _))
      · exact hpf2 z (List.mem_append_right _ (.tail _ hz))
    case b7 =>
      intro z hz
      rcases List.mem_append.mp hz with hz | hz
      · exact hbk z hz
      · rw [List.mem_singleton.mp hz]
        exact ⟨hd3, lo0, rfl, rfl⟩
    case b8 => (rw [List.map_append]; rfl)
    case b9 => exact ap_cons (ap_cons AP2 (fun z hz => Nat.ne_of_lt (all_lt l2q.2.2.2.2 z hz))) (off_cons (Nat.ne_of_gt l2q.1) (fun z hz => Nat.ne_of_lt (all_lt l1q.2.2.2 z hz)))
  case fin2 =>
    intro D C h tk m' ys nw hT F8 N8 o1 hn hC0 hCL hCD offC
    refine' finA (T := fun a b => a = ys ∧ b = nw) ⟨rfl, rfl⟩ F8 N8 o1 hn hC0 hCL hCD offC ?fd ?fe ?ff ?_
    case fd => rfl
    case fe => rfl
    case ff => rfl
    rintro bl h tk _ _ ⟨rfl, rfl⟩ F8 N8 o1
    obtain ⟨qs, todo, hdl, hxs, hids, hpf2, hbk, rfl, rfl, AP2⟩ := hT
    have htodo : todo = [] := by
      have e := congrArg List.length hxs
      rw [List.length_map, List.length_map, List.length_append, hdl, List.size_toArray, List.length_map] at e
      exact List.eq_nil_of_length_eq_zero (by omega)
    subst htodo
    rw [List.append_nil] at hxs hids hpf2
    have APb := ap_cons (p := (bl, LCg.lst (qs.map fun p => Value.ref p.od))) AP2 o1
    simp only [List.cons_append, List.nil_append, List.append_nil, List.flatMap_nil] at N8 APb
    rw [← hxs] at N8 APb
    have hq : qs.length = ps.length := by simpa using congrArg List.length hids
    have hnd : (qs.map (·.id)).Nodup := by
      rw [hids, hid]
      exact List.Pairwise.map Int.ofNat (fun a b h e => h (Int.ofNat.inj e)) List.nodup_range
    dsimp only
    have N6 : News h₀ h₀.objs.size h ((bl, LCg.lst (qs.map fun p => Value.ref p.od)) :: (pl, LCg.lst (qs.map fun p => Value.ref p.x)) :: (bx, W.listOf #[.ref cl, .int (bk) btk, .int bs bts] 0) :: (cl, W.listOf bv.toArray 0) :: (tb, instObj 150 td) :: (td, tdO w sz (made) j1 j2 j3 u1 u2 tp) :: (tp, op) :: (h₀.objs.size + 1 + 1, ot) :: allp w sz qs) := by
      refine news_sub N8 ?_
      unfold allp
      (focus ((repeat (first | with_reducible exact fun _ h => h | exact sub_nil | (refine sub_cons ?_ ?_; (focus (focus ((repeat (first | exact List.Mem.head _ | refine List.Mem.tail _ ?_)); done)))) | refine sub_skip ?_)); done))
    have AP6 : AP ((bl, LCg.lst (qs.map fun p => Value.ref p.od)) :: (pl, LCg.lst (qs.map fun p => Value.ref p.x)) :: (bx, W.listOf #[.ref cl, .int (bk) btk, .int bs bts] 0) :: (cl, W.listOf bv.toArray 0) :: (tb, instObj 150 td) :: (td, tdO w sz (made) j1 j2 j3 u1 u2 tp) :: (tp, op) :: (h₀.objs.size + 1 + 1, ot) :: allp w sz qs) := ap_sub (List.Sublist.cons_cons _ (List.Sublist.cons_cons _ (List.Sublist.cons_cons _ (List.Sublist.cons_cons _ (List.Sublist.cons_cons _ (List.Sublist.cons_cons _ (List.Sublist.cons_cons _ (List.Sublist.cons_cons _ (List.Sublist.cons _ (List.Sublist.refl _)))))))))) APb
    clear N8 APb
    refine' law6 B F8 X N6 T hot htp AP6 (by assumption) hbn hbk0 hbk1 hbs0 hbs1 hkv (by omega) (by omega) (by omega) (fun kv h => by rw [hids]; exact hks kv h) hnd hsz hsz1 hm0 hm1 (fun p hp => ?zg) kont
    case zg =>
      obtain ⟨e1, e2, e3, e4, e5⟩ := hpf2 p hp
      obtain ⟨d1, d2, d3, d4⟩ := hbk p hp
      unfold PG
      rw [e1, e2, e3, e4, d3, d4]
      exact ⟨d1, d2, .nil, (fun _ h => nomatch h), by omega, by omega, by omega, by omega, e5⟩

end

/-! part LawF4 -/
section
theorem linesLawF4 : True := by
  k_with_none
  k_with "my k_room" => ((try simp only [depth_under_make, depth_under_kw, depth_in1, depth_deeper, depth_caller]); (try simp only [recursionLimit]); first | decide | exact Nat.le_trans (by with_reducible assumption) (by decide) | exact Nat.le_trans (Nat.add_le_add_right (by with_reducible assumption) _) (by decide) | omega)
  k_with "execs cons" => (k_here; dsimp only; k_gentoks)
  k_with "execs nil" => (k_here; dsimp only; k_gentoks)
  k_with "my k_all" => (with_reducible assumption)
  k_with "my k_ne" => (refine neN ?_; (try dsimp only); first | with_reducible assumption | exact Ne.symm (by with_reducible assumption) | exact NeA.ne (by with_reducible assumption) | exact Ne.symm (NeA.ne (by with_reducible assumption)) | exact Nat.ne_of_lt (by walk_at "pick") | exact Nat.ne_of_gt (by walk_at "pick") | exact Nat.ne_of_gt (Nat.lt_add_one_of_lt (by walk_at "pick")) | exact Nat.ne_of_lt (Nat.lt_add_one_of_lt (by walk_at "pick")) | walk_at "pick" | exact Ne.symm (by walk_at "pick") | omega)
  k_with "my k_units" => ((try simp only [units_under_make, units_in1, units_deeper, Around.mark_units, units_caller]); first | exact Nat.le_trans (Nat.add_le_add_right (by with_reducible assumption) _) (by decide) | exact Nat.le_trans (by with_reducible assumption) (by decide) | exact lt_cline1 (by with_reducible assumption) (by decide) | exact lt_cline2 (by with_reducible assumption) (by decide) | ((have hcL' := cLine_is); omega))
  k_with "subscriptTail Subscript Name Constant Slice ref ref" => (k_here; k_dflt (first | (refine' list_upto (s := ⟨_, _, _, _, _⟩) (by k_asm) (by k_asm) (by k_mem) (by with_reducible assumption) (by omega) (by omega) ?_) | (refine' list_from (s := ⟨_, _, _, _, _⟩) (by k_asm) (by k_asm) (by k_mem) (by with_reducible assumption) (by omega) (by omega) ?_)); intro D' ws' h' F' N' l1 hI'; (try k_lt l1); (try k_sweep))
  k_with "subscriptTail" => (k_here; (with_reducible show wpAny _ _ (subscriptTail _ _ (Value.ref _) (Value.int (Int.fmod _ _) _)) _ _ _); k_dflt (refine' ba_sub (by k_asm) (by k_mem) (by l_fact) (by l_fact) (by omega) ?_ (by with_unfolding_all rfl)))
  k_with "setItem ref int int" => (k_here; k_dflt (refine' ba_set (by k_asm) (by k_asm) (by k_upd) (by l_fact) (by l_fact) (by omega) (by omega) (by omega) ?_); intro h' F' N'; (try k_sweep))
  k_with "call builtin:len" => (k_here; (with_reducible show wpAny _ _ (PySem.call (Value.builtin "len") [Value.ref _]) _ _ _); k_dflt (refine' ba_lenN (by k_asm) (by k_mem) (by omega) ?_))
  k_with "exec For Name Subscript cons nil" => (k_here; refine forA ?_)
  k_with "pyIter bytes" => (k_here; refine KBw.pyIter_bytes ?_)
  k_with "call builtin:len" => (k_here; (with_reducible show wpAny _ _ (PySem.call (Value.builtin "len") [Value.ref _]) _ _ _); k_dflt (refine' list_lenN (by k_asm) (by k_mem) (by with_reducible assumption) (by ((try simp only [List.length_take, List.length_drop]); omega)) ?_))
  k_with "pick" => (focus (apply pickL; (iterate 13 (first | done | with_reducible assumption | apply pickR)); done))
  k_with "ne" => ((try dsimp only); first | assumption | exact Ne.symm (by assumption) | exact NeA.ne (by assumption) | exact Ne.symm (NeA.ne (by assumption)) | exact Nat.ne_of_lt (by walk_at "pick") | exact Nat.ne_of_gt (by walk_at "pick") | exact Nat.ne_of_gt (Nat.lt_add_one_of_lt (by walk_at "pick")) | exact Nat.ne_of_lt (Nat.lt_add_one_of_lt (by walk_at "pick")) | walk_at "pick" | exact Ne.symm (by walk_at "pick") | omega)
  k_with "num" => (first | with_reducible assumption | exact Int.le_add_of_nonneg_right (by decide) | exact nb12 (by with_reducible assumption) (by with_reducible assumption) | (focus ((repeat (first | with_reducible assumption | refine Int.add_nonneg ?_ (by decide))); done)) | exact Int.le_trans (by with_reducible assumption) (by decide) | exact Int.le_trans (Int.add_le_add_right (by with_reducible assumption) _) (by decide) | omega)
  k_with "rem" => (focus ((repeat (first | exact Rem.head | apply Rem.tail)); done))
  k_with "off" => (focus ((repeat (first | assumption | (refine off_cons ?_ ?_; (focus walk_at "ne")))); done))
  k_with "mem" => (focus ((repeat (first | exact List.Mem.head _ | refine List.Mem.tail _ ?_)); done))
  k_with "call ref" => (k_here; (with_reducible show wpAny _ _ (call (Value.ref 161) _) _ _ _); k_dflt ((refine' wpAny_call (take_u (bk := _) (btk := _) (by k_asm) (by k_asm) (by k_asm) (by k_asm) (by k_asm) rfl rfl (by k_room) (by k_units) (by k_updF) (by k_mem) (by walk_at "ne") (by assumption) (by assumption) (by walk_at "num") (by walk_at "num") (by walk_at "num") (by walk_at "num") (by first | omega | exact (pick3 (by assumption) (by assumption)).1 | exact (pick2 (by assumption) (by assumption)).1) (by first | omega | exact Int.le_trans (pick3 (by assumption) (by assumption)).2 (by decide) | exact Int.le_trans (pick2 (by assumption) (by assumption)).2 (by decide)) ?_))); intro r t h t' tk hr0 hr1 F' N'; (try dsimp only at N'); (try dsimp only); revert r t h t' tk hr0 hr1 F' N'; intro _ _ _ _ _ _ _ _ _)
  trivial
def PipesT (w : World) (sz : Int) (bx cl tb td tp c1 c2 : Addr) (bs : Int) (bts : Tok) (bv : List Value) (ot oc : Obj) (j1 j2 j3 u1 : Tok) (i : Nat) (ys : List Value) (nw : List (Addr × Obj)) : Prop :=
  ∃ (ps : List PS) (op : Obj) (kvs : List (Int × Value)) (u2 : Tok) (bk : Int) (btk : Tok), 0 ≤ bk ∧ bk ≤ 20 ∧ ys = ps.map (fun p => Value.ref p.x) ∧ (∀ p ∈ ps, PF sz p) ∧ ps.map (·.id) = (List.range i).map Int.ofNat ∧ op.IsDictOf (PySem.intKind PySem.Challenge.rw_nz0210_01.prog w) kvs ∧
    (∀ kv ∈ kvs, kv.1 ∈ ps.map (·.id)) ∧ kvs.length = i ∧
    nw = (bx, W.listOf #[.ref cl, .int (bk) btk, .int bs bts] 0) :: (cl, W.listOf bv.toArray 0) :: (tb, instObj 150 td) :: (td, tdO w sz (i : Int) j1 j2 j3 u1 u2 tp) :: (tp, op) :: (c1, ot) :: (c2, oc) :: ps.flatMap (pcs1 w sz) ∧ AP nw
theorem stored_new {kvs : List (Int × Value)} {k : Int} {v : Value} (h : ∀ kv ∈ kvs, kv.1 ≠ k) : (stored kvs k v).length = kvs.length + 1 := by
  unfold stored
  rw [if_neg (by simp only [List.any_eq_true, decide_eq_true_eq, not_exists, not_and]; exact fun kv hkv => h kv hkv)]
  simp
theorem ids_lt {ids : List Int} {i : Nat} {k : Int} (h : ids = (List.range i).map Int.ofNat) (hk : k ∈ ids) : k ≠ (i : Int) := by
  rw [h] at hk
  obtain ⟨a, ha, rfl⟩ := List.mem_map.mp hk
  have := List.mem_range.mp ha
  intro e
  have : (a : Int) = i := e
  omega
theorem off_nil {x : Addr} : ∀ z ∈ ([] : List (Addr × Obj)), z.1 ≠ x := fun _ h => nomatch h
set_option maxHeartbeats 4000000 in
theorem law4 {w : World} {h₀ : Heap} {fa : Addr} {cd : Value} {m mg mb : Str → Option Value} {s : Shared} {p : Program} {loose : List Str} {mean : ExcName → Option Value} {Q : Flow → Shared → Prop} {E : Value → Shared → Prop}
    {bx cl tb td tp : Addr} {bv : List Value} {bn : List Int} {bk bs : Int} {btk bts : Tok} {op ot oc : Obj} {tz : Tok} {sz : Int} {j1 j2 j3 u1 u2 : Tok} {sh : Bool}
    (B : Below callerA h₀ [] h₀) (F : Fr h₀ h₀.objs.size s.heap (fun y => if y = Str.ofString "box" then some (.ref bx) else if y = Str.ofString "is_short" then some (.bool sh) else if y = Str.ofString "cells" then some (.ref cl) else m y)) (X : (hd.heap_1 w.params).In h₀) (N : News h₀ h₀.objs.size s.heap ((bx, W.listOf #[.ref cl, .int (bk) btk, .int bs bts] 0) :: (cl, W.listOf bv.toArray 0) :: (tb, instObj 150 td) :: (td, tdO w sz (0) j1 j2 j3 u1 u2 tp) :: (tp, op) :: (h₀.objs.size + 1 + 1, ot) :: (h₀.objs.size + 1, oc) :: [])) (T : Top p loose mean mg mb h₀)
    (hot : ot.data = .cell (some (.ref tb))) (hoc : oc.data = .cell (some (.int sz tz))) (htp : (tp == sysModules) = false) (AD : AP ((bx, W.listOf #[.ref cl, .int (bk) btk, .int bs bts] 0) :: (cl, W.listOf bv.toArray 0) :: (tb, instObj 150 td) :: (td, tdO w sz (0) j1 j2 j3 u1 u2 tp) :: (tp, op) :: (h₀.objs.size + 1 + 1, ot) :: (h₀.objs.size + 1, oc) :: []))
    (hbI : IntsAre bv bn) (hbn : bn.length ≤ 40) (hbk0 : 0 ≤ bk) (hbk1 : bk ≤ 10) (hbs0 : 0 ≤ bs) (hbs1 : bs < 1009)
    (hkv : op.IsDictOf (PySem.intKind PySem.Challenge.rw_nz0210_01.prog w) []) (hsz : 1 ≤ sz) (hsz1 : sz ≤ 40)
    (kont : ∀ h tk, (∀ b o, h₀.get? b = some o → h.get? b = some o) → Q (.ret (.bool true)) { s with heap := h, toks := tk }) :
    wpC (model PySem.Challenge.rw_nz0210_01.prog w) (callerA.deeper (envOfC (Str.ofString "law") lawScope h₀.objs.size fa cd)) (execs (lawBody.drop 4) (envOfC (Str.ofString "law") lawScope h₀.objs.size fa cd)) Q E s := by
  w_top on
  have eb : lawBody.drop 4 = lawBody.drop 4 := rfl
  conv at eb => rhs; whnf
  have es : lawScope = lawScope := rfl
  conv at es => rhs; unfold lawScope; whnf
  rw [eb, es]
  clear eb es

  have hoff := ap_off AD
  dsimp only at hoff
  have hbc : NeA bx cl := ⟨Ne.symm (hoff (cl, _) (.head _))⟩
  refine execsC (asgLCC (by rfl) (by rfl) rfl (by decide) (by intro _; rfl) ?_)
  (repeat' (first | (k_unfold; (try dsimp only)) | walk1 | (dsimp only; walk1) | (leave1; (try dsimp only)) | fail "no step"))
  rename IsRange _ _ _ _ _ _ _ _ => hR
  rename_i r tr h_a t' tk_a hr0 hr1 F6 N6 e' h_b tk_b tt1 uu1 vv1 F7 N7 hkeep
  have er : 1 + r = (((1 + r).toNat : Nat) : Int) := by omega
  rw [er] at hR
  refine' iter_range (n := (1 + r).toNat) rfl F7 N7 hR (by omega) fun I h1 F1 N1 W1 st1 fp1 hIL hI0 off1 => ?_
  refine' blockC1 (T := PipesT w sz bx cl tb td tp (h₀.objs.size + 1 + 1) (h₀.objs.size + 1) bs bts bv ot oc j1 j2 j3 u1) W1 ?bz (fun _ _ st => ⟨_, st⟩) (fun i h h' o nw ys st e e' _ _ => range_keep _ h h' o st e e') ?g1 rfl ?g2 st1 fp1 F1 N1 hIL hI0 off1 ?hT ?step1 ?fin1
  case hT => exact ⟨[], op, [], u2, bk + 1, t', by omega, by omega, rfl, (fun _ h => nomatch h), rfl, hkv, (fun _ h => nomatch h), rfl, rfl, ap_head AD rfl⟩
  case bz => (rw [sizeLine_eq]; omega)
  case g1 => decide
  case g2 => rfl
  case step1 =>
    intro i ys nw v oI C oC D m₂ h tk hi hT hP hC hx F8 N8 o3 hne
    obtain ⟨ps, op₁, kvs, u₂, bk₁, btk₁, hb0, hb1, rfl, hpf, hid, hk, hks, hkl, rfl, AP1⟩ := hT
    have AP2 := ap_off3 (I := (I, oI)) (C := (C, oC)) (D := (D, LCg.lst (ps.map fun p => Value.ref p.x))) AP1 o3 hne
    refine callAttrC ?_
    (repeat' (first | (k_unfold; (try dsimp only)) | walk1 | (dsimp only; walk1) | (leave1; (try dsimp only)) | fail "no step"))
    refine' callWithK0 (K := hd.heap_1 w.params) ?X0 ?k0 ?_
    case X0 => exact Frag.In.keeps (by assumption) (Fr.keep (by assumption))
    case k0 => k_is
    dsimp only [List.append_nil, List.singleton_append]
    have AP3 := ap_rem3 (p := (tb, instObj 150 td)) (q := (td, _)) (r := (tp, op₁)) AP2 (by (focus ((repeat (first | exact Rem.head | apply Rem.tail)); done))) (by (focus ((repeat (first | exact Rem.head | apply Rem.tail)); done))) (by (focus ((repeat (first | exact Rem.head | apply Rem.tail)); done)))
    have q1 := ap_off AP3
    have q2 := ap_off (ap_tail AP3)
    have q3 := ap_off (ap_tail (ap_tail AP3))
    refine' wpC_call (tmake_in (made := (i : Int)) (tsz := sz) (kvs := kvs) ?wB ?wF ?wX (news_rem3 ?wN ?wR1 ?wR2 ?wR3) ?wT rfl rfl ?whd ?whu htp ?wkl hsz hsz1 ?wm0 ?wm1 hk (fun z hz => q1 z (.tail _ (.tail _ hz))) (fun z hz => q2 z (.tail _ hz)) q3 (Ne.symm (q1 (td, _) (.head _))) (Ne.symm (q1 (tp, _) (.tail _ (.head _)))) (Ne.symm (q2 (tp, _) (.head _))) (fun x d r op' u2' k1 k2 k3 k4 k5 k6 k7 t4 t5 h tk la lb lc ld lxd lxr hkv' F' N' => ?_))
    case wB => k_asm
    case wF => assumption
    case wX => k_asm
    case wN => assumption
    case wT => k_asm
    case wR1 => (focus ((repeat (first | exact Rem.head | apply Rem.tail)); done))
    case wR2 => (focus ((repeat (first | exact Rem.head | apply Rem.tail)); done))
    case wR3 => (focus ((repeat (first | exact Rem.head | apply Rem.tail)); done))
    case whd => k_room
    case whu => k_units
    case wkl => omega
    case wm0 => omega
    case wm1 => omega
    dsimp only
    clear AP2 AP3 q1 q2 q3
    have lA : ∀ z ∈ ps.flatMap (pcs1 w sz), @LT.lt Nat _ z.1 d := fun z hz => la z (by repeat (first | exact hz | refine List.Mem.tail _ ?_))
    have lnw : ∀ z ∈ (bx, W.listOf #[.ref cl, .int (bk₁) btk₁, .int bs bts] 0) :: (cl, W.listOf bv.toArray 0) :: (tb, instObj 150 td) :: (td, dictOf [] 0) :: (tp, op') :: (h₀.objs.size + 1 + 1, ot) :: (h₀.objs.size + 1, oc) :: ps.flatMap (pcs1 w sz), @LT.lt Nat _ z.1 d :=
      lt_cons (la (bx, _) (by (focus ((repeat (first | exact List.Mem.head _ | refine List.Mem.tail _ ?_)); done)))) (lt_cons (la (cl, _) (by (focus ((repeat (first | exact List.Mem.head _ | refine List.Mem.tail _ ?_)); done)))) (lt_cons lb (lt_cons lc (lt_cons ld (lt_cons (la (h₀.objs.size + 1 + 1, _) (by (focus ((repeat (first | exact List.Mem.head _ | refine List.Mem.tail _ ?_)); done)))) (lt_cons (la (h₀.objs.size + 1, _) (by (focus ((repeat (first | exact List.Mem.head _ | refine List.Mem.tail _ ?_)); done)))) lA))))))
    have lI : @LT.lt Nat _ I d := la (I, _) (by (focus ((repeat (first | exact List.Mem.head _ | refine List.Mem.tail _ ?_)); done)))
    have lC : @LT.lt Nat _ C d := la (C, _) (by (focus ((repeat (first | exact List.Mem.head _ | refine List.Mem.tail _ ?_)); done)))
    have lD : @LT.lt Nat _ D d := la (D, _) (by (focus ((repeat (first | exact List.Mem.head _ | refine List.Mem.tail _ ?_)); done)))
    clear la
    have ec : ((i + 1 : Nat) : Int) = (i : Int) + 1 := by push_cast; rfl
    rw [← ec] at N'
    let p' : PS := ⟨x, d, r, 0, 0, op₁, (i : Int), 0, 0, true, true, Array.replicate sz.toNat 0, k1, k2, k3, k4, k5, k6, k7, u₂, u1, t4, t5, u₂, [], [], 0⟩
    refine' ⟨h, tk, (bx, W.listOf #[.ref cl, .int (bk₁) btk₁, .int bs bts] 0) :: (cl, W.listOf bv.toArray 0) :: (tb, instObj 150 td) :: (td, tdO w sz ((i + 1 : Nat) : Int) j1 j2 j3 u1 u2' tp) :: (tp, op') :: (h₀.objs.size + 1 + 1, ot) :: (h₀.objs.size + 1, oc) :: (ps.flatMap (pcs1 w sz) ++ pcs1 w sz p'), rfl, F', news_sub N' ?s1, off3_app (by exact o3) ?s2, ⟨ps ++ [p'], op', stored kvs (i : Int) (.ref x), u2', bk₁, btk₁, hb0, hb1, ?v1, ?v2, ?v3, hkv', ?v4, ?v5, ?v6, ?v7⟩⟩
    case s1 =>
      repeat (refine sub_cons ?_ ?_; focus (focus ((repeat (first | exact List.Mem.head _ | refine List.Mem.tail _ ?_)); done)))
      refine sub_app (fun z hz => by repeat (first | exact hz | refine List.Mem.tail _ ?_)) ?_
      show ∀ z ∈ [(x, instObj 107 d), (d, _), (r, _)], _
      (focus ((repeat (first | with_reducible exact fun _ h => h | exact sub_nil | (refine sub_cons ?_ ?_; (focus (focus ((repeat (first | exact List.Mem.head _ | refine List.Mem.tail _ ?_)); done)))) | refine sub_skip ?_)); done))
    case s2 => exact ⟨⟨(show @Ne Nat x I by omega), (show @Ne Nat x C by omega), (show @Ne Nat x D by omega)⟩, ⟨(show @Ne Nat d I by omega), (show @Ne Nat d C by omega), (show @Ne Nat d D by omega)⟩, ⟨(show @Ne Nat r I by omega), (show @Ne Nat r C by omega), (show @Ne Nat r D by omega)⟩, trivial⟩
    case v1 => (rw [List.map_append]; rfl)
    case v2 =>
      intro p hp
      rcases List.mem_append.mp hp with hp | hp
      · exact hpf p hp
      · rw [List.mem_singleton.mp hp]
        exact ⟨rfl, rfl, rfl, rfl, ring_nil (by show ((Array.replicate sz.toNat (0 : UInt8)).size : Int) = sz; rw [Array.size_replicate]; omega)⟩
    case v3 => (rw [List.map_append, hid, List.range_succ, List.map_append]; rfl)
    case v4 =>
      intro kv hkv2
      rw [List.map_append]
      rcases stored_keys kv hkv2 with e | ⟨kv', h', e⟩
      · exact List.mem_append_right _ (by rw [e]; exact List.mem_singleton.mpr rfl)
      · exact List.mem_append_left _ (e ▸ hks kv' h')
    case v5 => exact (stored_new fun kv h => ids_lt hid (hks kv h)).trans (by rw [hkl])
    case v6 => (rw [List.flatMap_append, List.flatMap_singleton])
    case v7 =>
      refine ap_same ?_ (ap_app (l' := pcs1 w sz p') (d := d) (ap_same (by rfl) AP1) ?_ lnw ?_)
      · rfl
      · exact ap_cons (ap_cons (ap_cons List.Pairwise.nil off_nil) (off_cons (show @Ne Nat r d by omega) off_nil)) (off_cons (show @Ne Nat d x by omega) (off_cons (show @Ne Nat r x by omega) off_nil))
      · intro z hz
        rcases List.mem_cons.mp hz with rfl | hz
        · exact Nat.le_of_lt lxd
        rcases List.mem_cons.mp hz with rfl | hz
        · exact Nat.le_refl _
        rw [List.mem_singleton.mp hz]
        exact Nat.le_of_lt (Nat.lt_trans lxd lxr)
  case fin1 =>
    intro D C h tk m' ys nw hT F8 N8 o1 hn hC0 hCL hCD offC
    refine' finA (T := fun a b => a = ys ∧ b = nw) ⟨rfl, rfl⟩ F8 N8 o1 hn hC0 hCL hCD offC ?fa ?fb ?fc ?_
    case fa => rfl
    case fb => rfl
    case fc => rfl
    rintro pl h tk _ _ ⟨rfl, rfl⟩ F8 N8 o1
    obtain ⟨ps, op₁, kvs, u₂, bk₁, btk₁, hb0, hb1, rfl, hpf, hid, hk, hks, hkl, rfl, AP1⟩ := hT
    have APl := ap_cons (p := (pl, LCg.lst (ps.map fun p => Value.ref p.x))) AP1 o1
    have hn3 : ps.length = (1 + r).toNat := by simpa using congrArg List.length hid
    dsimp only
    exact law5 B F8 X N8 T hot hoc htp APl (by assumption) hbn hb0 hb1 hbs0 hbs1 hk (by omega) (by omega) (by omega) hks (by rw [hn3]; exact hid) hsz hsz1 (by omega) (by omega) hpf kont

end

/-! part LawF3 -/
section
theorem linesLawF3 : True := by
  k_with_none
  k_with "my k_room" => ((try simp only [depth_under_make, depth_under_kw, depth_in1, depth_deeper, depth_caller]); (try simp only [recursionLimit]); first | decide | exact Nat.le_trans (by with_reducible assumption) (by decide) | exact Nat.le_trans (Nat.add_le_add_right (by with_reducible assumption) _) (by decide) | omega)
  k_with "execs cons" => (k_here; dsimp only; k_gentoks)
  k_with "execs nil" => (k_here; dsimp only; k_gentoks)
  k_with "my k_all" => (with_reducible assumption)
  k_with "my k_ne" => (refine neN ?_; (try dsimp only); first | with_reducible assumption | exact Ne.symm (by with_reducible assumption) | exact NeA.ne (by with_reducible assumption) | exact Ne.symm (NeA.ne (by with_reducible assumption)) | exact Nat.ne_of_lt (by walk_at "pick") | exact Nat.ne_of_gt (by walk_at "pick") | exact Nat.ne_of_gt (Nat.lt_add_one_of_lt (by walk_at "pick")) | exact Nat.ne_of_lt (Nat.lt_add_one_of_lt (by walk_at "pick")) | walk_at "pick" | exact Ne.symm (by walk_at "pick") | omega)
  k_with "my k_units" => ((try simp only [units_under_make, units_in1, units_deeper, Around.mark_units, units_caller]); first | exact Nat.le_trans (Nat.add_le_add_right (by with_reducible assumption) _) (by decide) | exact Nat.le_trans (by with_reducible assumption) (by decide) | exact lt_cline1 (by with_reducible assumption) (by decide) | exact lt_cline2 (by with_reducible assumption) (by decide) | ((have hcL' := cLine_is); omega))
  k_with "subscriptTail Subscript Name Constant Slice ref ref" => (k_here; k_dflt (first | (refine' list_upto (s := ⟨_, _, _, _, _⟩) (by k_asm) (by k_asm) (by k_mem) (by with_reducible assumption) (by omega) (by omega) ?_) | (refine' list_from (s := ⟨_, _, _, _, _⟩) (by k_asm) (by k_asm) (by k_mem) (by with_reducible assumption) (by omega) (by omega) ?_)); intro D' ws' h' F' N' l1 hI'; (try k_lt l1); (try k_sweep))
  k_with "subscriptTail" => (k_here; (with_reducible show wpAny _ _ (subscriptTail _ _ (Value.ref _) (Value.int (Int.fmod _ _) _)) _ _ _); k_dflt (refine' ba_sub (by k_asm) (by k_mem) (by l_fact) (by l_fact) (by omega) ?_ (by with_unfolding_all rfl)))
  k_with "setItem ref int int" => (k_here; k_dflt (refine' ba_set (by k_asm) (by k_asm) (by k_upd) (by l_fact) (by l_fact) (by omega) (by omega) (by omega) ?_); intro h' F' N'; (try k_sweep))
  k_with "call builtin:len" => (k_here; (with_reducible show wpAny _ _ (PySem.call (Value.builtin "len") [Value.ref _]) _ _ _); k_dflt (refine' ba_lenN (by k_asm) (by k_mem) (by omega) ?_))
  k_with "exec For Name Subscript cons nil" => (k_here; refine forA ?_)
  k_with "pyIter bytes" => (k_here; refine KBw.pyIter_bytes ?_)
  k_with "call builtin:len" => (k_here; (with_reducible show wpAny _ _ (PySem.call (Value.builtin "len") [Value.ref _]) _ _ _); k_dflt (refine' list_lenN (by k_asm) (by k_mem) (by with_reducible assumption) (by ((try simp only [List.length_take, List.length_drop]); omega)) ?_))
  k_with "pick" => (focus (apply pickL; (iterate 13 (first | done | with_reducible assumption | apply pickR)); done))
  k_with "ne" => ((try dsimp only); first | assumption | exact Ne.symm (by assumption) | exact NeA.ne (by assumption) | exact Ne.symm (NeA.ne (by assumption)) | exact Nat.ne_of_lt (by walk_at "pick") | exact Nat.ne_of_gt (by walk_at "pick") | exact Nat.ne_of_gt (Nat.lt_add_one_of_lt (by walk_at "pick")) | exact Nat.ne_of_lt (Nat.lt_add_one_of_lt (by walk_at "pick")) | walk_at "pick" | exact Ne.symm (by walk_at "pick") | omega)
  k_with "num" => (first | with_reducible assumption | exact Int.le_add_of_nonneg_right (by decide) | exact nb12 (by with_reducible assumption) (by with_reducible assumption) | (focus ((repeat (first | with_reducible assumption | refine Int.add_nonneg ?_ (by decide))); done)) | exact Int.le_trans (by with_reducible assumption) (by decide) | exact Int.le_trans (Int.add_le_add_right (by with_reducible assumption) _) (by decide) | omega)
  k_with "rem" => (focus ((repeat (first | exact Rem.head | apply Rem.tail)); done))
  k_with "off" => (focus ((repeat (first | assumption | (refine off_cons ?_ ?_; (focus walk_at "ne")))); done))
  k_with "mem" => (focus ((repeat (first | exact List.Mem.head _ | refine List.Mem.tail _ ?_)); done))
  k_with "call ref" => (k_here; (with_reducible show wpAny _ _ (call (Value.ref 161) _) _ _ _); k_dflt ((refine' wpAny_call (take_u (bk := _) (btk := _) (by k_asm) (by k_asm) (by k_asm) (by k_asm) (by k_asm) rfl rfl (by k_room) (by k_units) (by k_updF) (by k_mem) (by walk_at "ne") (by assumption) (by assumption) (by walk_at "num") (by walk_at "num") (by walk_at "num") (by walk_at "num") (by first | omega | exact (pick3 (by assumption) (by assumption)).1 | exact (pick2 (by assumption) (by assumption)).1) (by first | omega | exact Int.le_trans (pick3 (by assumption) (by assumption)).2 (by decide) | exact Int.le_trans (pick2 (by assumption) (by assumption)).2 (by decide)) ?_))); intro r t h t' tk hr0 hr1 F' N'; (try dsimp only at N'); (try dsimp only); revert r t h t' tk hr0 hr1 F' N'; intro _ _ _ _ _ _ _ _ _)
  trivial
theorem perm7 {a b c d e f g : Addr × Obj} : List.Perm [a, b, c, d, e, f, g] [d, e, b, c, a, f, g] :=
  ((List.perm_append_comm (l₁ := [a, b, c]) (l₂ := [d, e])).trans (List.Perm.append_left [d, e] (List.perm_append_comm (l₁ := [a]) (l₂ := [b, c])))).append_right [f, g]
set_option maxHeartbeats 4000000 in
theorem law3 {w : World} {h₀ : Heap} {fa : Addr} {cd : Value} {m mg mb : Str → Option Value} {s : Shared} {p : Program} {loose : List Str} {mean : ExcName → Option Value} {Q : Flow → Shared → Prop} {E : Value → Shared → Prop}
    {bx cl : Addr} {bv : List Value} {bn : List Int} {bk bs : Int} {btk bts : Tok} {oc1 oc : Obj} {sh : Bool} {sz : Int} {tz : Tok}
    (B : Below callerA h₀ [] h₀) (F : Fr h₀ h₀.objs.size s.heap (fun y => if y = Str.ofString "box" then some (.ref bx) else if y = Str.ofString "is_short" then some (.bool sh) else if y = Str.ofString "cells" then some (.ref cl) else m y)) (X : (hd.heap_1 w.params).In h₀) (N : News h₀ h₀.objs.size s.heap ([(bx, W.listOf #[.ref cl, .int (bk) btk, .int bs bts] 0), (cl, W.listOf bv.toArray 0), (h₀.objs.size + 1 + 1, oc1), (h₀.objs.size + 1, oc)])) (T : Top p loose mean mg mb h₀)
    (hc1 : oc1.data = .cell none) (hoc : oc.data = .cell (some (.int sz tz))) (hcl : @LT.lt Nat _ (h₀.objs.size + 1 + 1) cl) (hbx : @LT.lt Nat _ cl bx)
    (hbI : IntsAre bv bn) (hbn : bn.length ≤ 40) (hbk0 : 0 ≤ bk) (hbk1 : bk ≤ 10) (hbs0 : 0 ≤ bs) (hbs1 : bs < 1009) (hsz : 1 ≤ sz) (hsz1 : sz ≤ 40)
    (kont : ∀ h tk, (∀ b o, h₀.get? b = some o → h.get? b = some o) → Q (.ret (.bool true)) { s with heap := h, toks := tk }) :
    wpC (model PySem.Challenge.rw_nz0210_01.prog w) (callerA.deeper (envOfC (Str.ofString "law") lawScope h₀.objs.size fa cd)) (execs (lawBody.drop 3) (envOfC (Str.ofString "law") lawScope h₀.objs.size fa cd)) Q E s := by
  w_top on
  have eb : lawBody.drop 3 = lawBody.drop 3 := rfl
  conv at eb => rhs; whnf
  have es : lawScope = lawScope := rfl
  conv at es => rhs; unfold lawScope; whnf
  rw [eb, es]
  clear eb es

  refine execsC_lift ?_
  (repeat' (first | (k_unfold; (try dsimp only)) | walk1 | (dsimp only; walk1) | (leave1; (try dsimp only)) | fail "no step"))
  dsimp only
  rename Fr h₀ _ _ _ => F1
  rename News h₀ _ _ _ => N1
  refine' law4 B F1 X (news_perm N1 perm7) T (by assumption) hoc (by assumption) (ap_perm perm7 ?ap) (by assumption) hbn hbk0 hbk1 hbs0 hbs1 (by assumption) hsz hsz1 kont
  case ap =>
    repeat' (first | exact List.Pairwise.nil | refine ap_cons ?_ ?_)
    all_goals (repeat (first | exact off_nil | (refine off_cons ?_ ?_; (focus (dsimp only; omega)))))

end

/-! part LawF2 -/
section
theorem linesLawF2 : True := by
  k_with_none
  k_with "my k_room" => ((try simp only [depth_under_make, depth_under_kw, depth_in1, depth_deeper, depth_caller]); (try simp only [recursionLimit]); first | decide | exact Nat.le_trans (by with_reducible assumption) (by decide) | exact Nat.le_trans (Nat.add_le_add_right (by with_reducible assumption) _) (by decide) | omega)
  k_with "execs cons" => (k_here; dsimp only; k_gentoks)
  k_with "execs nil" => (k_here; dsimp only; k_gentoks)
  k_with "my k_all" => (with_reducible assumption)
  k_with "my k_ne" => (refine neN ?_; (try dsimp only); first | with_reducible assumption | exact Ne.symm (by with_reducible assumption) | exact NeA.ne (by with_reducible assumption) | exact Ne.symm (NeA.ne (by with_reducible assumption)) | exact Nat.ne_of_lt (by walk_at "pick") | exact Nat.ne_of_gt (by walk_at "pick") | exact Nat.ne_of_gt (Nat.lt_add_one_of_lt (by walk_at "pick")) | exact Nat.ne_of_lt (Nat.lt_add_one_of_lt (by walk_at "pick")) | walk_at "pick" | exact Ne.symm (by walk_at "pick") | omega)
  k_with "my k_units" => ((try simp only [units_under_make, units_in1, units_deeper, Around.mark_units, units_caller]); first | exact Nat.le_trans (Nat.add_le_add_right (by with_reducible assumption) _) (by decide) | exact Nat.le_trans (by with_reducible assumption) (by decide) | exact lt_cline1 (by with_reducible assumption) (by decide) | exact lt_cline2 (by with_reducible assumption) (by decide) | ((have hcL' := cLine_is); omega))
  k_with "subscriptTail Subscript Name Constant Slice ref ref" => (k_here; k_dflt (first | (refine' list_upto (s := ⟨_, _, _, _, _⟩) (by k_asm) (by k_asm) (by k_mem) (by with_reducible assumption) (by omega) (by omega) ?_) | (refine' list_from (s := ⟨_, _, _, _, _⟩) (by k_asm) (by k_asm) (by k_mem) (by with_reducible assumption) (by omega) (by omega) ?_)); intro D' ws' h' F' N' l1 hI'; (try k_lt l1); (try k_sweep))
  k_with "subscriptTail" => (k_here; (with_reducible show wpAny _ _ (subscriptTail _ _ (Value.ref _) (Value.int (Int.fmod _ _) _)) _ _ _); k_dflt (refine' ba_sub (by k_asm) (by k_mem) (by l_fact) (by l_fact) (by omega) ?_ (by with_unfolding_all rfl)))
  k_with "setItem ref int int" => (k_here; k_dflt (refine' ba_set (by k_asm) (by k_asm) (by k_upd) (by l_fact) (by l_fact) (by omega) (by omega) (by omega) ?_); intro h' F' N'; (try k_sweep))
  k_with "call builtin:len" => (k_here; (with_reducible show wpAny _ _ (PySem.call (Value.builtin "len") [Value.ref _]) _ _ _); k_dflt (refine' ba_lenN (by k_asm) (by k_mem) (by omega) ?_))
  k_with "exec For Name Subscript cons nil" => (k_here; refine forA ?_)
  k_with "pyIter bytes" => (k_here; refine KBw.pyIter_bytes ?_)
  k_with "call builtin:len" => (k_here; (with_reducible show wpAny _ _ (PySem.call (Value.builtin "len") [Value.ref _]) _ _ _); k_dflt (refine' list_lenN (by k_asm) (by k_mem) (by with_reducible assumption) (by ((try simp only [List.length_take, List.length_drop]); omega)) ?_))
  k_with "pick" => (focus (apply pickL; (iterate 13 (first | done | with_reducible assumption | apply pickR)); done))
  k_with "ne" => ((try dsimp only); first | assumption | exact Ne.symm (by assumption) | exact NeA.ne (by assumption) | exact Ne.symm (NeA.ne (by assumption)) | exact Nat.ne_of_lt (by walk_at "pick") | exact Nat.ne_of_gt (by walk_at "pick") | exact Nat.ne_of_gt (Nat.lt_add_one_of_lt (by walk_at "pick")) | exact Nat.ne_of_lt (Nat.lt_add_one_of_lt (by walk_at "pick")) | walk_at "pick" | exact Ne.symm (by walk_at "pick") | omega)
  k_with "num" => (first | with_reducible assumption | exact Int.le_add_of_nonneg_right (by decide) | exact nb12 (by with_reducible assumption) (by with_reducible assumption) | (focus ((repeat (first | with_reducible assumption | refine Int.add_nonneg ?_ (by decide))); done)) | exact Int.le_trans (by with_reducible assumption) (by decide) | exact Int.le_trans (Int.add_le_add_right (by with_reducible assumption) _) (by decide) | omega)
  k_with "rem" => (focus ((repeat (first | exact Rem.head | apply Rem.tail)); done))
  k_with "off" => (focus ((repeat (first | assumption | (refine off_cons ?_ ?_; (focus walk_at "ne")))); done))
  k_with "mem" => (focus ((repeat (first | exact List.Mem.head _ | refine List.Mem.tail _ ?_)); done))
  k_with "call ref" => (k_here; (with_reducible show wpAny _ _ (call (Value.ref 161) _) _ _ _); k_dflt ((refine' wpAny_call (take_u (bk := _) (btk := _) (by k_asm) (by k_asm) (by k_asm) (by k_asm) (by k_asm) rfl rfl (by k_room) (by k_units) (by k_updF) (by k_mem) (by walk_at "ne") (by assumption) (by assumption) (by walk_at "num") (by walk_at "num") (by walk_at "num") (by walk_at "num") (by first | omega | exact (pick3 (by assumption) (by assumption)).1 | exact (pick2 (by assumption) (by assumption)).1) (by first | omega | exact Int.le_trans (pick3 (by assumption) (by assumption)).2 (by decide) | exact Int.le_trans (pick2 (by assumption) (by assumption)).2 (by decide)) ?_))); intro r t h t' tk hr0 hr1 F' N'; (try dsimp only at N'); (try dsimp only); revert r t h t' tk hr0 hr1 F' N'; intro _ _ _ _ _ _ _ _ _)
  trivial
theorem pick_lt2 {r t : Int} (h : t < ([5, 40] : List Int).getD r.toNat 0) : t ≤ 39 := by
  have e : ∀ n : Nat, ([5, 40] : List Int).getD n 0 ≤ 40 := fun n => by
    match n with
    | 0 => decide
    | 1 => decide
    | n + 2 => simp
  have := e r.toNat
  omega
set_option maxHeartbeats 4000000 in
theorem law2 {w : World} {h₀ : Heap} {fa : Addr} {cd : Value} {m mg mb : Str → Option Value} {s : Shared} {p : Program} {loose : List Str} {mean : ExcName → Option Value} {Q : Flow → Shared → Prop} {E : Value → Shared → Prop}
    {bx cl : Addr} {bv : List Value} {bn : List Int} {bs : Int} {btk bts : Tok} {oc1 oc : Obj} {sh : Bool}
    (B : Below callerA h₀ [] h₀) (F : Fr h₀ h₀.objs.size s.heap (fun y => if y = Str.ofString "box" then some (.ref bx) else if y = Str.ofString "is_short" then some (.bool sh) else if y = Str.ofString "cells" then some (.ref cl) else m y)) (X : (hd.heap_1 w.params).In h₀) (N : News h₀ h₀.objs.size s.heap ([(bx, W.listOf #[.ref cl, .int (0) btk, .int bs bts] 0), (cl, W.listOf bv.toArray 0), (h₀.objs.size + 1 + 1, oc1), (h₀.objs.size + 1, oc)])) (T : Top p loose mean mg mb h₀)
    (hc1 : oc1.data = .cell none) (hc2 : oc.data = .cell none) (hcl : @LT.lt Nat _ (h₀.objs.size + 1 + 1) cl) (hbx : @LT.lt Nat _ cl bx)
    (hbI : IntsAre bv bn) (hbn : bn.length ≤ 40) (hbs0 : 0 ≤ bs) (hbs1 : bs < 1009)
    (kont : ∀ h tk, (∀ b o, h₀.get? b = some o → h.get? b = some o) → Q (.ret (.bool true)) { s with heap := h, toks := tk }) :
    wpC (model PySem.Challenge.rw_nz0210_01.prog w) (callerA.deeper (envOfC (Str.ofString "law") lawScope h₀.objs.size fa cd)) (execs (lawBody.drop 2) (envOfC (Str.ofString "law") lawScope h₀.objs.size fa cd)) Q E s := by
  w_top on
  have eb : lawBody.drop 2 = lawBody.drop 2 := rfl
  conv at eb => rhs; whnf
  have es : lawScope = lawScope := rfl
  conv at es => rhs; unfold lawScope; whnf
  rw [eb, es]
  clear eb es

  have hbc : NeA bx cl := ⟨by omega⟩
  refine execsC_lift ?_
  (repeat' (first | (k_unfold; (try dsimp only)) | walk1 | (dsimp only; walk1) | (leave1; (try dsimp only)) | fail "no step"))
  · dsimp only
    refine' law3 B ?F1 X ?N1 T hc1 ?hc hcl hbx (by assumption) hbn ?x1 ?x2 hbs0 hbs1 ?x3 ?x4 kont
    case F1 => assumption
    case N1 => assumption
    case hc => assumption
    all_goals omega
  · dsimp only
    have hp := pick_lt2 (by assumption)
    refine' law3 B ?F2 X (news_sub ?N2 ?S2) T hc1 ?hc' hcl hbx (by assumption) hbn ?y1 ?y2 hbs0 hbs1 ?y3 ?y4 kont
    case F2 => assumption
    case hc' => assumption
    case N2 => assumption
    case S2 => (focus ((repeat (first | with_reducible exact fun _ h => h | exact sub_nil | (refine sub_cons ?_ ?_; (focus (focus ((repeat (first | exact List.Mem.head _ | refine List.Mem.tail _ ?_)); done)))) | refine sub_skip ?_)); done))
    all_goals omega

end

/-! part LawZ -/
section
theorem linesLawZ : True := by
  k_with_none
  k_with "my k_room" => ((try simp only [depth_under_make, depth_under_kw, depth_in1, depth_deeper, depth_caller]); (try simp only [recursionLimit]); first | decide | exact Nat.le_trans (by with_reducible assumption) (by decide) | exact Nat.le_trans (Nat.add_le_add_right (by with_reducible assumption) _) (by decide) | omega)
  k_with "execs cons" => (k_here; dsimp only; k_gentoks)
  k_with "execs nil" => (k_here; dsimp only; k_gentoks)
  k_with "my k_all" => (with_reducible assumption)
  k_with "my k_ne" => (refine neN ?_; (try dsimp only); first | with_reducible assumption | exact Ne.symm (by with_reducible assumption) | exact NeA.ne (by with_reducible assumption) | exact Ne.symm (NeA.ne (by with_reducible assumption)) | exact Nat.ne_of_lt (by walk_at "pick") | exact Nat.ne_of_gt (by walk_at "pick") | exact Nat.ne_of_gt (Nat.lt_add_one_of_lt (by walk_at "pick")) | exact Nat.ne_of_lt (Nat.lt_add_one_of_lt (by walk_at "pick")) | walk_at "pick" | exact Ne.symm (by walk_at "pick") | omega)
  k_with "my k_units" => ((try simp only [units_under_make, units_in1, units_deeper, Around.mark_units, units_caller]); first | exact Nat.le_trans (Nat.add_le_add_right (by with_reducible assumption) _) (by decide) | exact Nat.le_trans (by with_reducible assumption) (by decide) | exact lt_cline1 (by with_reducible assumption) (by decide) | exact lt_cline2 (by with_reducible assumption) (by decide) | ((have hcL' := cLine_is); omega))
  k_with "subscriptTail Subscript Name Constant Slice ref ref" => (k_here; k_dflt (first | (refine' list_upto (s := ⟨_, _, _, _, _⟩) (by k_asm) (by k_asm) (by k_mem) (by with_reducible assumption) (by omega) (by omega) ?_) | (refine' list_from (s := ⟨_, _, _, _, _⟩) (by k_asm) (by k_asm) (by k_mem) (by with_reducible assumption) (by omega) (by omega) ?_)); intro D' ws' h' F' N' l1 hI'; (try k_lt l1); (try k_sweep))
  k_with "subscriptTail" => (k_here; (with_reducible show wpAny _ _ (subscriptTail _ _ (Value.ref _) (Value.int (Int.fmod _ _) _)) _ _ _); k_dflt (refine' ba_sub (by k_asm) (by k_mem) (by l_fact) (by l_fact) (by omega) ?_ (by with_unfolding_all rfl)))
  k_with "setItem ref int int" => (k_here; k_dflt (refine' ba_set (by k_asm) (by k_asm) (by k_upd) (by l_fact) (by l_fact) (by omega) (by omega) (by omega) ?_); intro h' F' N'; (try k_sweep))
  k_with "call builtin:len" => (k_here; (with_reducible show wpAny _ _ (PySem.call (Value.builtin "len") [Value.ref _]) _ _ _); k_dflt (refine' ba_lenN (by k_asm) (by k_mem) (by omega) ?_))
  k_with "exec For Name Subscript cons nil" => (k_here; refine forA ?_)
  k_with "pyIter bytes" => (k_here; refine KBw.pyIter_bytes ?_)
  k_with "call builtin:len" => (k_here; (with_reducible show wpAny _ _ (PySem.call (Value.builtin "len") [Value.ref _]) _ _ _); k_dflt (refine' list_lenN (by k_asm) (by k_mem) (by with_reducible assumption) (by ((try simp only [List.length_take, List.length_drop]); omega)) ?_))
  k_with "pick" => (focus (apply pickL; (iterate 13 (first | done | with_reducible assumption | apply pickR)); done))
  k_with "ne" => ((try dsimp only); first | assumption | exact Ne.symm (by assumption) | exact NeA.ne (by assumption) | exact Ne.symm (NeA.ne (by assumption)) | exact Nat.ne_of_lt (by walk_at "pick") | exact Nat.ne_of_gt (by walk_at "pick") | exact Nat.ne_of_gt (Nat.lt_add_one_of_lt (by walk_at "pick")) | exact Nat.ne_of_lt (Nat.lt_add_one_of_lt (by walk_at "pick")) | walk_at "pick" | exact Ne.symm (by walk_at "pick") | omega)
  k_with "num" => (first | with_reducible assumption | exact Int.le_add_of_nonneg_right (by decide) | exact nb12 (by with_reducible assumption) (by with_reducible assumption) | (focus ((repeat (first | with_reducible assumption | refine Int.add_nonneg ?_ (by decide))); done)) | exact Int.le_trans (by with_reducible assumption) (by decide) | exact Int.le_trans (Int.add_le_add_right (by with_reducible assumption) _) (by decide) | omega)
  k_with "rem" => (focus ((repeat (first | exact Rem.head | apply Rem.tail)); done))
  k_with "off" => (focus ((repeat (first | assumption | (refine off_cons ?_ ?_; (focus walk_at "ne")))); done))
  k_with "mem" => (focus ((repeat (first | exact List.Mem.head _ | refine List.Mem.tail _ ?_)); done))
  trivial
theorem box_bs {h₀ h : Heap} {L bx cl : Addr} {t t' : Tok} {l : Int} {rest : List (Addr × Obj)} (N : News h₀ L h ((bx, W.listOf #[.ref cl, .int 0 t, .int (Int.fmod l 1009) t'] 0) :: rest)) : ∃ bs : Int, 0 ≤ bs ∧ bs < 1009 ∧ News h₀ L h ((bx, W.listOf #[.ref cl, .int 0 t, .int bs t'] 0) :: rest) :=
  ⟨_, (fmod_pos (by decide)).1, (fmod_pos (by decide)).2, N⟩
theorem len_bn {vs : List Value} {ns : List Int} (h : IntsAre vs (ns.take 40)) : ∃ bn, IntsAre vs bn ∧ bn.length ≤ 40 := ⟨_, h, by rw [List.length_take]; omega⟩
set_option maxHeartbeats 8000000 in
theorem theLaw : PySem.Challenge.rw_nz0210_01.Holds := by
  refine hd ?_
  intro w s₀ s₁ mg mb G Y fa o pm cd doc dV kV ho hd0 hcd hD hmg hg args vals as hpre hlay hrd hwl hlo
  have KX := kIn_of Y
  have X := (Ground.X G).1
  have V := (Ground.X G).2
  try w_nolog (first | (have GL := glob_more (Ground.glob G (by first | k_qdec | decide +kernel) (by first | k_qdec | decide +kernel)) V) | (have GL := glob_more (Ground.glob G (by decide +kernel)) V))
  refine Ground.open G ?_
  intro T B D TE TW
  try (refine guard_noD D (by decide +kernel) ?_; clear D)
  obtain ⟨_, _, M⟩ := bmod_of_top T
  have TA := at_of_top T
  try (obtain ⟨_, _, he, B0⟩ := based_of_top T rfl hmg ho hd0; have he' : cd = _ := he; subst he'; clear he)
  clear hmg
  wrow_args hpre hlay hrd hwl hlo
  refine enter_callC ?_
  w_top on
  have K0 : Below callerA s₁.heap [] s₁.heap := below_caller (Top.heap T)
  have he := Dflts.none hD rfl
  subst he
  have he := Dflts.noKw hD
  subst he
  refine call_cellsClean (by decide) ho (fd_plain hd0) (Top.nolimit T) hcd rfl (kinds_of (by kinds_ok)) (by decide) fun h₁ tk₁ cells F N0 X0 => ?_
  cells_open X0
  clear hd0 TA
  k_drop
  dsimp only
  try k_fold
  refine execsC_lift ?_
  (repeat' (first | (k_unfold; (try dsimp only)) | walk1 | (dsimp only; walk1) | (leave1; (try dsimp only)) | fail "no step"))
  dsimp only
  refine execsC_lift ?_
  (repeat' (first | (k_unfold; (try dsimp only)) | walk1 | (dsimp only; walk1) | (leave1; (try dsimp only)) | fail "no step"))
  rename IntsAre _ (List.take 40 _) => hI40
  rename_i oc1 oc2 left right cl ws h_1 hC' hL' l1 h_2 h_3 tk_1 t_1 bx h_4 l2 D2 h_5 l3 h_6 h_7 h_8 F2 N2
  obtain ⟨bs, hbs0, hbs1, N3⟩ := box_bs (news_tail N2)
  clear N2
  obtain ⟨bn, hbI, hbn⟩ := len_bn hI40
  clear hI40
  dsimp only
  refine law2 K0 F2 KX N3 T left right l1.1 l2.1 hbI hbn hbs0 hbs1 fun h tk keep => ?_
  refine ⟨.inl ⟨.bool true, .bool true, [], rfl, raisesW_false (by wrow_none_raised), ReadsW.bool _, ?_, fun _ => ⟨List.nodup_nil, fun _ h => nomatch h⟩⟩, .of_keep keep, rfl, .of_eq hg⟩
  wrow_post

end
end
end Mine

theorem PySem.Challenge.cw_nz0210_01_holds : PySem.Challenge.rw_nz0210_01.Holds :=
  Mine.theLaw
