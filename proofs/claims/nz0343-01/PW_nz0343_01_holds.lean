import PyProof.Rows.All
import Wide.All
import OpenK.AllK
import Wide.FinOn
import Lean
import PySem.Challenge.RW_nz0343_01
open PySem PySem.W PySem.Spec PySem.Calls PyProof.Rows
local macro_rules | `(tactic| walk_at "Aft") => `(tactic| k_extra "Aft")
local macro_rules | `(tactic| walk_at "D enter") => `(tactic| k_extra "D enter")
local macro_rules | `(tactic| walk_at "KdnMade") => `(tactic| k_extra "KdnMade")
local macro_rules | `(tactic| walk_at "Ki") => `(tactic| k_extra "Ki")
local macro_rules | `(tactic| walk_at "Kp") => `(tactic| k_extra "Kp")
local macro_rules | `(tactic| walk_at "Nx") => `(tactic| k_extra "Nx")
local macro_rules | `(tactic| walk_at "R enter") => `(tactic| k_extra "R enter")
local macro_rules | `(tactic| walk_at "S call") => `(tactic| k_extra "S call")
local macro_rules | `(tactic| walk_at "S enter") => `(tactic| k_extra "S enter")
local macro_rules | `(tactic| walk_at "T enter") => `(tactic| k_extra "T enter")
local macro_rules | `(tactic| walk_at "WhlIf") => `(tactic| k_extra "WhlIf")
local macro_rules | `(tactic| walk_at "WhlPost") => `(tactic| k_extra "WhlPost")
local macro_rules | `(tactic| walk_at "all rng") => `(tactic| k_extra "all rng")
local macro_rules | `(tactic| walk_at "binaryOp Add bytes bytes") => `(tactic| k_extra "binaryOp Add bytes bytes")
local macro_rules | `(tactic| walk_at "binaryOp BitAnd int int") => `(tactic| k_extra "binaryOp BitAnd int int")
local macro_rules | `(tactic| walk_at "binaryOp BitOr int int") => `(tactic| k_extra "binaryOp BitOr int int")
local macro_rules | `(tactic| walk_at "binaryOp FloorDiv int int") => `(tactic| k_extra "binaryOp FloorDiv int int")
local macro_rules | `(tactic| walk_at "binaryOp LShift int int") => `(tactic| k_extra "binaryOp LShift int int")
local macro_rules | `(tactic| walk_at "binaryOp Mod int int") => `(tactic| k_extra "binaryOp Mod int int")
local macro_rules | `(tactic| walk_at "binaryOp Mult bytes int") => `(tactic| k_extra "binaryOp Mult bytes int")
local macro_rules | `(tactic| walk_at "binaryOp RShift int int") => `(tactic| k_extra "binaryOp RShift int int")
local macro_rules | `(tactic| walk_at "call builtin:len") => `(tactic| k_extra "call builtin:len")
local macro_rules | `(tactic| walk_at "call builtin:list.pop") => `(tactic| k_extra "call builtin:list.pop")
local macro_rules | `(tactic| walk_at "call ref") => `(tactic| k_extra "call ref")
local macro_rules | `(tactic| walk_at "call type:bytes") => `(tactic| k_extra "call type:bytes")
local macro_rules | `(tactic| walk_at "callWith ref") => `(tactic| k_extra "callWith ref")
local macro_rules | `(tactic| walk_at "compareOp Eq ref ref") => `(tactic| k_extra "compareOp Eq ref ref")
local macro_rules | `(tactic| walk_at "compareOp Eq str str") => `(tactic| k_extra "compareOp Eq str str")
local macro_rules | `(tactic| walk_at "compareOp In str ref") => `(tactic| k_extra "compareOp In str ref")
local macro_rules | `(tactic| walk_at "compareOp NotEq bytes bytes") => `(tactic| k_extra "compareOp NotEq bytes bytes")
local macro_rules | `(tactic| walk_at "compareOp NotEq ref ref") => `(tactic| k_extra "compareOp NotEq ref ref")
local macro_rules | `(tactic| walk_at "eval Constant int") => `(tactic| k_extra "eval Constant int")
local macro_rules | `(tactic| walk_at "eval Constant str") => `(tactic| k_extra "eval Constant str")
local macro_rules | `(tactic| walk_at "eval Dict") => `(tactic| k_extra "eval Dict")
local macro_rules | `(tactic| walk_at "exec For Name Subscript cons nil") => `(tactic| k_extra "exec For Name Subscript cons nil")
local macro_rules | `(tactic| walk_at "exec Raise some none") => `(tactic| k_extra "exec Raise some none")
local macro_rules | `(tactic| walk_at "exec While Compare cons nil") => `(tactic| k_extra "exec While Compare cons nil")
local macro_rules | `(tactic| walk_at "exec While Constant cons nil") => `(tactic| k_extra "exec While Constant cons nil")
local macro_rules | `(tactic| walk_at "getItem ref str") => `(tactic| k_extra "getItem ref str")
local macro_rules | `(tactic| walk_at "getMethod") => `(tactic| k_extra "getMethod")
local macro_rules | `(tactic| walk_at "getMethod ref") => `(tactic| k_extra "getMethod ref")
local macro_rules | `(tactic| walk_at "got") => `(tactic| k_extra "got")
local macro_rules | `(tactic| walk_at "ite") => `(tactic| k_extra "ite")
local macro_rules | `(tactic| walk_at "leaving ref") => `(tactic| k_extra "leaving ref")
local macro_rules | `(tactic| walk_at "len") => `(tactic| k_extra "len")
local macro_rules | `(tactic| walk_at "newTuple") => `(tactic| k_extra "newTuple")
local macro_rules | `(tactic| walk_at "pair eq") => `(tactic| k_extra "pair eq")
local macro_rules | `(tactic| walk_at "subscriptTail") => `(tactic| k_extra "subscriptTail")
local macro_rules | `(tactic| walk_at "wpS") => `(tactic| k_extra "wpS")
section
open PySem PySem.W PySem.Spec PySem.Calls PyProof.Rows
set_option Elab.async false
set_option maxRecDepth 100000
namespace Mine
/-- the codes that may bear a lent bytearray -/
def lends (c : Code) : Bool := match c with
  | .builtin id _ => (["bytearray.__contains__", "bytearray.__mod__", "bytearray.__rmod__", "_struct.pack_into.held", "bytearray.find.held"] ++ Builtin.Bytes.decodersThatHold).contains id
  | _ => false
def Calm (l : List (Code × Pos)) : Prop := ∀ x ∈ l, lends x.1 = false

/-- as wpAny, but only where nothing in the stack lends a bytearray -/
def wpS {α : Type} (M : Model) (A : Around) (t : Sem α) (Q : α → Shared → Prop) (E : Value → Shared → Prop) (s : Shared) : Prop :=
  ∀ Γ p, Γ.In A → lends Γ.code = false → Calm Γ.below → Sem.wp M Γ t (fun a _ s' => Q a s') (fun e _ s' => E e s') p s
def codeS (M : Model) (A : Around) (c : Code) (R : Result → Shared → Prop) (s : Shared) : Prop :=
  ∀ Γ p, Γ.code = c → Γ.Below A → Calm Γ.below → wpCode M Γ R p s
section
variable {α β : Type} {M : Model} {A : Around} {E : Value → Shared → Prop} {s : Shared}
theorem s_any {t : Sem α} {Q : α → Shared → Prop} (h : wpAny M A t Q E s) : wpS M A t Q E s := fun Γ p hΓ _ _ => h Γ p hΓ
theorem s_pure {a : α} {Q : α → Shared → Prop} (h : Q a s) : wpS M A (pure a) Q E s := fun _ _ _ _ _ => h
theorem s_mono {t : Sem α} {Q Q' : α → Shared → Prop} {E' : Value → Shared → Prop} (h : wpS M A t Q E s) (hQ : ∀ a s, Q a s → Q' a s) (hE : ∀ e s, E e s → E' e s) : wpS M A t Q' E' s :=
  fun Γ p hΓ h1 h2 => Sem.wp_mono M Γ t (fun a _ s => hQ a s) (fun e _ s => hE e s) p s (h Γ p hΓ h1 h2)
theorem s_bind {m : Sem α} {f : α → Sem β} {Q : β → Shared → Prop} (h : wpS M A m (fun a s' => wpS M A (f a) Q E s') E s) : wpS M A (m >>= f) Q E s := fun Γ p hΓ h1 h2 => by
  rw [Sem.wp_bind']
  exact Sem.wp_mono M Γ m (fun a p' s' h' => h' Γ p' hΓ h1 h2) (fun _ _ _ h' => h') p s (h Γ p hΓ h1 h2)
theorem s_holding {vs : List Value} {m : Sem α} {Q : α → Shared → Prop} (h : wpS M A m Q E s) : wpS M A (holding vs m) Q E s := fun Γ p hΓ h1 h2 => by
  rw [Sem.wp_holding]; exact h Γ p hΓ h1 h2
theorem s_onRaise {m : Sem α} {k : Value → Sem Unit} {Q : α → Shared → Prop} (h : wpS M A m Q (fun e s' => wpS M A (k e) (fun _ s'' => E e s'') E s') s) : wpS M A (m.onRaise k) Q E s := fun Γ p hΓ h1 h2 => by
  rw [Sem.wp_onRaise]
  exact Sem.wp_mono M Γ m (fun _ _ _ h' => h') (fun e p' s' h' => h' Γ p' hΓ h1 h2) p s (h Γ p hΓ h1 h2)
theorem s_keep {vs : List Value} {m : Sem α} {Q : α → Shared → Prop} (h : wpS M A m Q E s) : wpS M A (m.keep vs) Q E s := fun Γ p hΓ h1 h2 => by
  rw [Sem.wp_keep]; exact h Γ p hΓ h1 h2
theorem s_runValue {c : Code} {Q : Value → Shared → Prop}
    (hc : codeS M A c (fun r s' => match r with | .ok (.ret v) => Q v s' | .ok _ => False | .error e => E e s') s) : wpS M A (runValue c) Q E s := fun Γ p hΓ h1 h2 => by
  rw [Sem.wp_runValue]
  refine hc _ p rfl (hΓ.enter c none p (by intro x; cases x)) ?_
  intro x hx
  rcases List.mem_cons.mp hx with rfl | hx
  · exact h1
  · exact h2 x hx
theorem s_run {c : Code} {Q : Flow → Shared → Prop}
    (hc : codeS M A c (fun r s' => match r with | .ok f => Q f s' | .error e => E e s') s) : wpS M A (run c none) Q E s := fun Γ p hΓ h1 h2 => by
  rw [Sem.wp_run]
  refine hc _ p rfl (hΓ.enter c none p (by intro x; cases x)) ?_
  intro x hx
  rcases List.mem_cons.mp hx with rfl | hx
  · exact h1
  · exact h2 x hx
theorem s_call {f : Value} {pos : List Value} {kw : List (Str × Value)} {Q : Value → Shared → Prop}
    (hc : codeS M A (.call f ⟨pos, kw⟩) (fun r s' => match r with | .ok (.ret v) => Q v s' | .ok _ => False | .error e => E e s') s) : wpS M A (call f pos kw) Q E s := s_runValue hc
theorem codeS_any {c : Code} {R : Result → Shared → Prop} (h : codeAny M A c R s) : codeS M A c R s := fun Γ p hc hΓ _ => h Γ p hc hΓ
theorem codeS_mono {c : Code} {R R' : Result → Shared → Prop} (h : codeS M A c R s) (hR : ∀ r s, R r s → R' r s) : codeS M A c R' s :=
  fun Γ p hc hΓ h2 => wpCode_mono hR (h Γ p hc hΓ h2)
theorem codeS_tree {c : Code} {R : Result → Shared → Prop} (hl : lends c = false)
    (h : wpS M (A.under c) (M.den c) (fun fin s' => match fin with | .done f => R (.ok f) s' | .again c' => c'.quiet = true ∧ codeS M A c' R s')
      (fun e s' => R (.error e) s') s) : codeS M A c R s := fun Γ p hc hΓ h2 => by
  rw [wpCode_iff_wp, hc]
  refine Sem.wp_mono M Γ _ (fun fin p' s' h' => ?_) (fun _ _ _ h' => h') p s (h Γ p (hc ▸ hΓ.in) (hc ▸ hl) h2)
  cases fin with
  | done f => exact h'
  | again c' => exact ⟨h'.1, h'.2 (Γ.goto c') p' rfl (hΓ.goto c') h2⟩
/-- what the stack is asked -/
theorem s_stack {Q : List (Code × Pos) → Shared → Prop} (h : ∀ st, Calm st → Q st s) : wpS M A stack Q E s := fun Γ p _ h1 h2 => by
  show Q ((Γ.code, p) :: Γ.below) s
  refine h _ fun x hx => ?_
  rcases List.mem_cons.mp hx with rfl | hx
  · exact h1
  · exact h2 x hx
end

theorem calm_top : Calm ([] : List (Code × Pos)) := fun _ h => nomatch h
theorem ends_S {prog : Program} {w : World} {t : Sem Fin} {s : Shared} {R : Result → Shared → Prop} (hreg : s.asleep)
    (h : wpS (model prog w) callerA t (fun fin s' => ∃ f, fin = .done f ∧ (R (.ok f) s' ∧ leftWithCleanup s'.gens = false)) (fun e s' => R (.error e) s' ∧ leftWithCleanup s'.gens = false) s) :
    ∃ n r s' s'', runN (denote table) prog w n s ⟨t, .builtin "claim.caller" {}, default, []⟩ = .halted (outcomeOf r) s' ∧
      schedN (denote table) prog w n (.single s ⟨t, .builtin "claim.caller" {}, default, []⟩) = .halted (outcomeOf r) s' ∧ s'.forget = s''.forget ∧ R r s'' := by
  have z : Sem.wp (model prog w) ⟨.builtin "claim.caller" {}, none, none, [], none⟩ t (Sem.finPost (model prog w) ⟨.builtin "claim.caller" {}, none, none, [], none⟩ fun r s' => R r s' ∧ leftWithCleanup s'.gens = false)
      (fun e _ s' => R (.error e) s' ∧ leftWithCleanup s'.gens = false) default s := by
    refine Sem.wp_mono _ _ _ (fun fin p' s' h' => ?_) (fun _ _ _ h' => h') _ _ (h _ default caller_in (by decide +kernel) calm_top)
    obtain ⟨f, rfl, hf⟩ := h'
    exact hf
  obtain ⟨n, r, s₁, s₂, hs, hn, hfo, hR⟩ := wp_halts_full (M := model prog w) (R := R) hreg z
  exact ⟨n, r, s₂, s₁, hn, hs, hfo, hR⟩

theorem from_S {c : ClaimW} {tree : List Value → Sem Fin} {w : World} {s : Shared} {free : Addr → Prop} {gens : Prop} {kept : Heap → Prop} (hz : s.asleep) (hgens : s.gens = #[])
    (spec : ∀ args, c.pre args = true → WData.layableAll args = true → ∀ ord : List DictEntry → List DictEntry, (∀ l, (ord l).Perm l) →
      ∃ vs s₁, layAllW c.records (classAt s.heap) w.params ord args s = some (vs, s₁) ∧
        wpS (model c.prog w) callerA (tree vs) (fun fin s' => ∃ f, fin = .done f ∧ (c.Ends s args vs s₁ (.ok f) s' ∧ s'.os = s.os ∧ AllBare s'.gens ∧ kept s'.heap))
          (fun e s' => c.Ends s args vs s₁ (.error e) s' ∧ s'.os = s.os ∧ AllBare s'.gens ∧ kept s'.heap) s₁) :
    c.CallFrom (fun vs => ⟨tree vs, .builtin "claim.caller" {}, default, []⟩) w free gens kept s := by
  intro args hpre hlay ord hord
  obtain ⟨vs, s₁, laid, code⟩ := spec args hpre hlay ord hord
  have rest := layAllW_rest _ _ _ laid
  have code' : wpS (model c.prog w) callerA (tree vs) (fun fin s' => ∃ f, fin = .done f ∧ ((c.Ends s args vs s₁ (.ok f) s' ∧ s'.os = s.os ∧ kept s'.heap) ∧ leftWithCleanup s'.gens = false))
      (fun e s' => (c.Ends s args vs s₁ (.error e) s' ∧ s'.os = s.os ∧ kept s'.heap) ∧ leftWithCleanup s'.gens = false) s₁ :=
    s_mono code (fun _ _ ⟨f, e, h1, h2, h3, h4⟩ => ⟨f, e, ⟨h1, h2, h4⟩, leftWithCleanup_false_of_bare h3⟩) fun _ _ ⟨h1, h2, h3, h4⟩ => ⟨⟨h1, h2, h4⟩, leftWithCleanup_false_of_bare h3⟩
  obtain ⟨k, r, s', s'', ran, sched, fo, ends, os, kp⟩ := ends_S (prog := c.prog) (w := w) (t := tree vs) (s := s₁) (R := fun r s' => c.Ends s args vs s₁ r s' ∧ s'.os = s.os ∧ kept s'.heap) (Shared.asleep_of_life rest.2.2.2 hz) code'
  obtain ⟨eh, _, _, eo, _⟩ := Shared.forget_eq fo
  have ends := ends.congr eh
  have kp : kept s'.heap := by rw [eh]; exact kp
  have os : s'.os = s.os := eo.trans os
  have life : s'.heap.life = s.heap.life := (runN_life _ _ _ ran).trans rest.2.2.2
  refine ⟨vs, s₁, laid, k, _, s', sched, ?_, (fun _ i x hx => by rw [hgens] at hx; simp at hx), kp, by rw [life], Shared.rest_eq os⟩
  rcases ends with ⟨v, rfl, d1, d2, d3, d4, d5⟩ | ⟨e, ob, cls, rfl, d1, d2, d3, d4, d5⟩
  · exact .inl ⟨v, rfl, d1, d2, d3, fun b o y _ => d4 b o y, d5⟩
  · exact .inr ⟨e, ob, cls, rfl, d1, d2, d3, d4, fun b o y _ => d5 b o y⟩

/-- the walk that is asked: as WalkO, in the calm logic -/
abbrev WalkS (q : Program) (loose : List Str) (XP : (Str → Option Value) → Heap → Prop) (YP : World → Heap → Prop) (r : RowW) (d : DefRec) (kwd : List (Str × Expr)) (run : Value → List Value → Sem Value) : Prop :=
  ∀ (w : World) (s₀ s₁ : Shared) (mg mb : Str → Option Value), Ground q loose r.records XP w s₀ mg mb s₁.heap → YP w s₁.heap → ∀ (a : Addr) (o : Obj) (pm cd doc dV kV : Value), s₁.heap.get? a = some o →
    o.data = .func { docDef d.name d.params d.body d.scope pm cd doc with defaults := dV, kwdefaults := kV } → s₁.heap.CodeRec cd d.name → Dflts mg s₁.heap d.params kwd dV kV → mg d.name = some (.ref a) → s₁.gens = #[] →
    ∀ (args : List WData) (vals : List Value) (as : List Addr), r.claim.pre args = true → WData.layableAll args = true → ReadsAllW r.records (classAt s₀.heap) s₁.heap vals args as → WellAll w.params s₁.heap vals args → (∀ a ∈ as, (a == sysModules) = false) →
      wpS (model r.prog w) callerA (run (.ref a) vals) (fun v s' => GoodWG r.claim (classAt s₀.heap) (ExcName.means s₀.heap) args s₁ (.ok (.ret v)) s')
        (fun e s' => GoodWG r.claim (classAt s₀.heap) (ExcName.means s₀.heap) args s₁ (.error e) s') s₁

/-- as LeftO, by another name: the kernel runs the top in one go (the pieces' tables would not fit the file's lid) -/
abbrev LeftQ (p q : Program) (loose : List Str) (Xt : Shared → Bool) {α : Type} (Yf : Shared → α) (Ya : World → α) (N : Nat) : Prop := LeftO p q loose Xt Yf Ya N
/-- the head in the calm logic: the library's own line for the head finds it here by its name -/
theorem PySem.W.holds_open {r : OpenRow} {q : Program} {loose : List Str} {Xt : Shared → Bool} {XP : (Str → Option Value) → Heap → Prop} {α : Type} {Yf : Shared → α} {Ya : World → α} {YP : World → Heap → Prop} {d : DefRec} {kwd : List (Str × Expr)} {N : Nat}
    (left : LeftQ r.prog q loose Xt Yf Ya N) (hY : ∀ w s, Yf s = Ya w → YP w s.heap) (hYk : ∀ w h h', YP w h → (∀ b o, h.get? b = some o → h'.get? b = some o) → YP w h')
    (hX : ∀ s, Xt s = true → XP (s.heap.nsMap mainGlobals) s.heap) (hXk : ∀ mg h h', XP mg h → (∀ b o, h.get? b = some o → h'.get? b = some o) → XP mg h')
    (hdef : defOf q r.name = some (d, kwd)) (hp : r.prog.theDef r.name = some (d.params, d.body, d.scope)) (hk : kwWritten? d.params.kwonlyargs d.params.kw_defaults = some kwd) (hRf : ∀ s, Xt s = true → RecFacts r.records s.heap) (hwr : (!r.writes || r.records.isEmpty) = true)
    (k1 : r.wellSaid = true) (ok : (chainsOk q && opensWell r.prog && (frees r.toRowW && r.within.isEmpty)) = true) (hb : r.prog.bare) (hw : r.toRowW.promised)
    (call : WalkS q loose XP YP r.toRowW d kwd fun f vs => PySem.call f vs) : r.Holds := by
  have left : LeftO r.prog q loose Xt Yf Ya N := left
  obtain ⟨ok, k5⟩ := Bool.and_eq_true_iff.mp ok
  obtain ⟨hch, o1⟩ := Bool.and_eq_true_iff.mp ok
  obtain ⟨k5, k6⟩ := Bool.and_eq_true_iff.mp k5
  obtain ⟨same, hu, ha, hap, hm⟩ := frees_parts k5
  refine ⟨k1, hw, ⟨⟨hb, o1, by show r.makers.map _ = []; rw [hm]; rfl⟩, hw.witness, fun w => ⟨(left.behind hX hch w).1, fun s' hs' => ?_⟩⟩⟩
  obtain ⟨s₀, hf, hg0, s, hT, hz, hgens, hg, G00, y⟩ := (left.behind (XP := fun mg h => XP mg h ∧ RecFacts r.records h) (fun s hs => ⟨hX s hs, hRf s hs⟩) hch w).2 s' hs'
  have G0 : Ground q loose [] XP w s (s.heap.nsMap mainGlobals) (s.heap.nsMap builtinsNs) s.heap := ⟨G00.T, G00.B, G00.D, G00.TE, G00.TD, G00.W, G00.X.1, G00.cls, G00.has, G00.apart, G00.once, G00.K⟩
  have RF := G00.X.2
  have hgens : s.gens = #[] := Array.eq_empty_of_size_eq_zero (beq_iff_eq.mp hgens)
  have G : Ground q loose r.records XP w s _ _ s.heap := RF.ground G0
  refine ⟨s₀, hf, hg0, s, hT, fun n hn => ?_, RF.1, RF.2.1, ?_⟩
  · obtain rfl : n = r.name := by split at hn <;> simp_all
    exact pinned_of_view hg G0 hdef hp hk
  refine from_S (c := r.toRowW.claim) (tree := fun vs => do match ← nsGet mainNs r.name with
      | some f => do ret (← PySem.call f vs)
      | none => unsupported "claim.caller:no-such-global") hz hgens fun args hpre hlay ord hord => ?_
  obtain ⟨⟨vs, s₁⟩, laid⟩ := Option.isSome_iff_exists.mp (layAllW_isSome (P := w.params) (ord := ord) G.has args r.args s (pre_splitW hpre).1)
  have keeps := layAllW_keeps _ _ _ laid
  have rest := layAllW_rest _ _ _ laid
  obtain ⟨as, hrd, hin, hold⟩ := reads_layAllW hord _ _ _ laid hlay s₁.heap (fun _ _ e => e)
  have L : Laid r.records w s s₁ args vs as := ⟨⟨ord, hord, laid⟩, hrd, hin, hold, keeps, rest.1.trans hgens, rest.2.2.1⟩
  have G₁ := G.keeps hXk keeps
  obtain ⟨a, o, pm, cd, doc, dV, kV, h1, h2, h3, h4, h5⟩ := G₁.fn hdef
  have main := call w s s₁ _ _ G₁ (hYk _ _ _ (hY w s y) keeps) a o pm cd doc dV kV h2 h3 h4 h5 (defOf_name hdef ▸ h1) L.gens args vs as hpre hlay L.reads L.well (L.low G.low)
  have hi := ident_freeW hu ha hap
  have hwi : r.toRowW.claim.within = [] := List.isEmpty_iff.mp k6
  refine ⟨vs, s₁, laid, s_bind (s_any (wpAny_nsGet G₁.T.g ?_))⟩
  rw [h1]
  refine s_bind (s_mono main (fun v s' g => s_pure ⟨_, rfl, ?_⟩) fun e s' g => ?_)
  · have z := g.laid (c := r.toRowW.claim) same hwi hi L
    exact ⟨z.1, z.2.1, z.2.2, fun q => ⟨namesKept_of hT hg r.keeps keeps g.2.1.old, noTable hwr q⟩⟩
  · have z := g.laid (c := r.toRowW.claim) same hwi hi L
    exact ⟨z.1, z.2.1, z.2.2, fun q => ⟨namesKept_of hT hg r.keeps keeps g.2.1.old, noTable hwr q⟩⟩
end Mine
end
section
open PySem PySem.W PyProof.Rows
set_option Elab.async false
set_option maxRecDepth 100000
set_option maxHeartbeats 8000000
namespace Mine
open_top hd for PySem.Challenge.rw_nz0343_01
end Mine
end
section
open PySem PySem.W PySem.Spec PySem.Calls PyProof.Rows
set_option Elab.async false
set_option maxRecDepth 100000
namespace Mine
section
variable {M : Model} {A : Around} {E : Value → Shared → Prop} {s : Shared} {env : Env}

theorem s_execs_nil {Q : Flow → Shared → Prop} (h : Q .next s) : wpS M A (execs [] env) Q E s := s_any (wpAny_execs_nil h)
theorem s_execs {st : Stmt} {rest : List Stmt} {Q : Flow → Shared → Prop}
    (h : wpS M A (exec st env) (fun f s' => match f with | .next => wpS M A (execs rest env) Q E s' | f => Q f s') E s) : wpS M A (execs (st :: rest) env) Q E s := by
  rw [execs_cons]
  refine s_bind (s_mono h (fun f s' h' => ?_) fun _ _ x => x)
  cases f with
  | next => exact h'
  | brk => exact s_pure h'
  | cont => exact s_pure h'
  | ret v => exact s_pure h'
theorem s_If {test : Expr} {body orelse : List Stmt} {pos : Pos} {Q : Flow → Shared → Prop}
    (h : wpS M A (isTrue test env (eval test env)) (fun b s₂ => if b then wpS M A (execs body env) Q E s₂ else wpS M A (execs orelse env) Q E s₂) E s) :
    wpS M A (exec (.If test body orelse pos) env) Q E s := by
  rw [exec_If]
  refine s_bind (s_any (wpAny_standAt (s_bind (s_mono h (fun b s₂ h₂ => ?_) fun _ _ x => x))))
  cases b <;> exact h₂
theorem s_Return {e : Expr} {pos : Pos} {Q : Flow → Shared → Prop} (h : wpS M A (eval e env) (fun v => Q (.ret v)) E s) : wpS M A (exec (.Return (some e) pos) env) Q E s := by
  rw [exec_Return_some]
  exact s_bind (s_any (wpAny_standAt (s_bind (s_mono h (fun _ _ h' => s_pure h') fun _ _ x => x))))
theorem s_operate {vs : List Value} {m : Sem Value} {Q : Value → Shared → Prop} (h : wpS M A m Q E s) : wpS M A (operate vs m) Q E s := fun Γ p hΓ h1 h2 => by
  rw [Sem.wp_operate]; exact h Γ p hΓ h1 h2
theorem s_BinOp {l r : Expr} {op : Operator} {pos : Pos} {Q : Value → Shared → Prop}
    (h : wpS M A (eval l env) (fun a s₁ => wpS M A (eval r env) (fun b s₂ => wpAny M A (binaryOp op a b) Q E s₂) E s₁) E s) : wpS M A (eval (.BinOp l op r pos) env) Q E s := by
  rw [eval_BinOp]
  refine s_bind (s_mono h (fun a s₁ h₁ => s_bind (s_holding (s_mono h₁ (fun b s₂ h₂ => s_bind (s_any (wpAny_standAt (s_operate (s_any h₂))))) fun _ _ x => x))) fun _ _ x => x)
theorem s_isTrue_not {x : Expr} {pos : Pos} {whole : Sem Value} {Q : Bool → Shared → Prop} (h : wpS M A (isTrue x env (eval x env)) (fun c s' => Q (!c) s') E s) :
    wpS M A (isTrue (.UnaryOp .Not x pos) env whole) Q E s := by
  show wpS M A (do return !(← isTrue x env (eval x env))) Q E s
  exact s_bind (s_mono h (fun _ _ h' => s_pure h') fun _ _ x => x)
theorem s_isTrue_Call {f : Expr} {args : List Expr} {kws : List Keyword} {pos : Pos} {whole : Sem Value} {Q : Bool → Shared → Prop} (h : wpS M A whole (fun v s₁ => wpAny M A (truthy v) Q E s₁) E s) :
    wpS M A (isTrue (.Call f args kws pos) env whole) Q E s := by
  show wpS M A (do let v ← whole; standAt pos; holding [v] (truthy v)) Q E s
  exact s_bind (s_mono h (fun v s₁ h₁ => s_bind (s_any (wpAny_standAt (s_holding (s_any h₁))))) fun _ _ x => x)
theorem s_isTrue_Compare1 {l r : Expr} {op : CmpOp} {pos : Pos} {whole : Sem Value} {Q : Bool → Shared → Prop}
    (h : wpS M A (eval l env) (fun a s₁ => wpS M A (eval r env) (fun b s₂ => wpAny M A (compareOp op a b) (fun c s₃ => wpAny M A (truthy c) Q E s₃) E s₂) E s₁) E s)
    (hm : behindInMarks op r = false := by with_unfolding_all rfl) : wpS M A (isTrue (.Compare l [op] [r] pos) env whole) Q E s := by
  rw [isTrue_Compare1, markedBehindIn_of_false hm]
  refine s_bind (s_mono h (fun a s₁ h₁ => s_bind (s_holding (s_mono h₁ (fun b s₂ h₂ => s_bind (s_any (wpAny_standAt (s_bind (s_operate (s_any (wpAny_mono h₂ (fun c s₃ h₃ => s_holding (s_any h₃)) fun _ _ x => x))))))) fun _ _ x => x))) fun _ _ x => x)
theorem s_isTrue_Or {x : Expr} {rest : List Expr} {pos : Pos} {whole : Sem Value} {Q : Bool → Shared → Prop}
    (h : wpS M A (isTrue x env (eval x env)) (fun c s' => if c then Q true s' else wpS M A (isTrue (.BoolOp .Or rest pos) env whole) Q E s') E s) :
    wpS M A (isTrue (.BoolOp .Or (x :: rest) pos) env whole) Q E s := by
  show wpS M A (do
    match BoolOp.Or, ← isTrue x env (eval x env) with
    | .And, false => pure false
    | .Or, true => pure true
    | _, _ => allTrue .Or rest env) Q E s
  refine s_bind (s_mono h (fun c s' h' => ?_) fun _ _ x => x)
  cases c with
  | true => exact s_pure h'
  | false => exact h'
theorem s_isTrue_Or_nil {pos : Pos} {whole : Sem Value} {Q : Bool → Shared → Prop} (h : Q false s) : wpS M A (isTrue (.BoolOp .Or [] pos) env whole) Q E s := s_pure (a := false) h

/-- a plain call: the callee and the arguments by the library's walk, the call itself here -/
theorem s_callWith {pos : Pos} {f : Value} {args : List (Bool × Sem Value)} {Q : Value → Shared → Prop} {P : Heap → Prop} (hplain : args.any (·.1) = false)
    (hk : ∀ h, P h → ∃ k, (k = Keeper.frame ∨ k = Keeper.machine ∨ k = Keeper.boundFrame) ∧ Looks M h (keeperOf f) k)
    (h : wpAny M A (evalArgs f true args []) (fun a s₁ => P s₁.heap ∧ wpS M A (call f a.pos a.kw) Q E s₁) E s) : wpS M A (callWith pos f [] args []) Q E s := by
  unfold callWith
  refine s_bind (s_any (wpAny_holding (wpAny_mono h (fun a s₁ h₁ => s_bind (s_any (wpAny_standAt ?_))) fun _ _ x => x)))
  obtain ⟨k, hk', L⟩ := hk _ h₁.1
  have hpl : (args.any (·.1) || ([] : List (Option Str × Sem Value)).any (·.1.isNone)) = false := by rw [hplain]; rfl
  simp only [hpl]
  refine s_bind (s_any (L.here ?_))
  have tail : ∀ {t : Sem Value}, wpS M A t Q E s₁ → wpS M A (t >>= fun r => holding [r] point >>= fun _ => pure r) Q E s₁ :=
    fun ht => s_bind (s_mono ht (fun r s₂ hr => s_bind (s_any (wpAny_holding (wpAny_point (s_pure hr))))) fun _ _ x => x)
  have marked (mk : Value) : wpS M A (callMarked mk f ([] ++ a.pos) a.kw) Q E s₁ := by unfold callMarked; exact s_keep h₁.2
  rcases hk' with rfl | rfl | rfl <;> dsimp only <;> first | exact tail h₁.2 | (split <;> first | exact tail h₁.2 | exact tail (marked _))
theorem s_Call {K : Frag} {f : Expr} {e : Expr} {rest : List Expr} {pos : Pos} {Q : Value → Shared → Prop}
    (h : wpAny M A (eval f env) (fun fv s₁ => keepIn K fv = true ∧ wpAny M A (spliced (backTo pos (starEach (e :: rest) env))) (fun vs s₂ => K.In s₂.heap ∧ wpS M A (call fv vs) Q E s₂) E s₁) E s)
    (hf : eval (.Call f (e :: rest) [] pos) env = (do callWith pos (← eval f env) [] (backTo pos (starEach (e :: rest) env)) (backToKw pos (keywordEach [] env))) := by rfl)
    (he : starEach (e :: rest) env = (false, eval e env) :: starEach rest env := by rfl) (hplain : (backTo pos (starEach rest env)).any (·.1) = false := by rfl) :
    wpS M A (eval (.Call f (e :: rest) [] pos) env) Q E s := by
  rw [hf]
  refine s_bind (s_any (wpAny_mono h (fun fv s₁ h₁ => ?_) fun _ _ x => x))
  obtain ⟨hk, h₁⟩ := h₁
  rw [he] at h₁ ⊢
  exact s_callWith (P := K.In) (by show (false || (backTo pos (starEach rest env)).any (·.1)) = false; rw [hplain]; rfl) (keeps_K hk) (evalArgs_plain h₁)
end

section
variable {prog : Program} {w : World} {A : Around} {E : Value → Shared → Prop} {s : Shared}
/-- a def's body, where nothing is raised -/
theorem codeS_func {R : Result → Shared → Prop} {body : List Stmt} {env : Env}
    (h : wpS (model prog w) (A.deeper env) (execs body env) (fun f s' => R (.ok (.ret (match f with | .ret v => v | _ => .none))) s') (fun _ _ => False) s) :
    codeS (model prog w) A (.func body env) R s := by
  refine codeS_tree rfl ?_
  show wpS _ (A.deeper env) (do point; match ← (execs body env).onRaise (leaving env) with | .ret v => ret v | _ => ret .none) _ _ s
  refine s_bind (s_any (wpAny_point (s_bind (s_onRaise (s_mono h (fun f s' h' => ?_) fun _ _ x => x.elim)))))
  cases f <;> exact s_pure h'
theorem codeS_def {R : Result → Shared → Prop} {a : Addr} {o : Obj} {fd : FuncData} {body : List Stmt} {args : Args} {binds : List (Str × Value)}
    (hroom : A.depth < recursionLimit) (ho : s.heap.get? a = some o) (hdata : o.data = .func fd) (hlim : s.heap.NoLimit) (hcd : s.heap.CodeRec fd.code fd.qualname)
    (hbody : fd.body = .stmts body) (hbind : BindsTo s fd args binds)
    (hcell : ∀ x ∈ fd.scope.names, x.2 ≠ .cell) (hloc : ∀ x ∈ binds, fd.scope.names.lookup x.1 = some .local)
    (h : ∀ h₀, h₀.Ns s.heap.objs.size (fun x => binds.reverse.lookup x) → (∀ b o, s.heap.get? b = some o → h₀.get? b = some o) →
      wpS (model prog w) (A.deeper (callEnv fd s.heap.objs.size a)) (execs body (callEnv fd s.heap.objs.size a)) (fun f s' => R (.ok (.ret (match f with | .ret v => v | _ => .none))) s') (fun _ _ => False)
        { s with heap := h₀, toks := s.toks + binds.length })
    (hco : fd.scope.isCoroutine = false := by rfl) (hgen : fd.scope.isGenerator = false := by rfl) (hk : fd.scope.kind = .function := by rfl) :
    codeS (model prog w) A (.call (.ref a) args) R s := by
  refine codeS_tree rfl ?_
  show wpS _ A.in1 (callAny (.ref a) args) _ _ s
  simp only [callAny]
  refine s_bind (s_any (wpAny_load ho ?_))
  obtain ⟨c, oc, vs, tq, hc, hoc, hdc, hq⟩ := hcd
  simp only [hdata, callFunction, hco, hgen, hbody]
  refine s_any ?_
  rw [hc]
  refine wpAny_bind (m := field (.ref c) 1) (wpAny_field hoc hdc hq (wpAny_bind (wpAny_pure ?_)))
  refine wpAny_bind (hbind _ _ _ _ (wpAny_bind (wpAny_newFunctionEnv hcell hloc (fun h₀ ns sb => ?_) hk)))
  refine wpAny_bind (wpAny_enterFrame (hlim.fresh _ sb) hroom (wpAny_pure (And.intro rfl (codeS_func ?_))))
  have z := h h₀ ns fun b o e => sb.extBut b o (Nat.ne_of_lt (Heap.lt_size e)) (Heap.get?_push_of_some _ e)
  have e : callEnv fd s.heap.objs.size a = newEnv fd.scope s.heap.objs.size fd.globals fd.closure (fd.qualname ++ ".<locals>.") (some a) fd.code none fd.builtins := rfl
  rw [hc] at e
  rw [← e]
  exact z
/-- one turn of a while -/
theorem codeS_while {R : Result → Shared → Prop} {test : Expr} {body : List Stmt} {env : Env}
    (h : wpS (model prog w) A (isTrue test env (eval test env)) (fun b s₂ => if b then wpS (model prog w) A (execs body env) (fun f s₃ => f = .next ∧ codeS (model prog w) A (.whileLoop test body [] env) R s₃) (fun _ _ => False) s₂
      else R (.ok .next) s₂) (fun _ _ => False) s) : codeS (model prog w) A (.whileLoop test body [] env) R s := by
  refine codeS_tree rfl ?_
  show wpS _ A ((whileTurn test body [] env).onRaise (fun x => do noteFrame x env; theTreesLotGoes x)) _ _ s
  refine s_onRaise (E := fun e s' => R (.error e) s') ?_
  simp only [whileTurn]
  refine s_bind (s_mono h (fun b s₂ h₂ => ?_) fun _ _ x => x.elim)
  cases b with
  | false =>
    simp only [Bool.false_eq_true, if_false] at h₂ ⊢
    exact s_bind (s_any (wpAny_execs_nil (s_pure h₂)))
  | true =>
    simp only [if_true] at h₂ ⊢
    refine s_bind (s_mono h₂ (fun f s₃ h₃ => ?_) fun _ _ x => x.elim)
    obtain ⟨rfl, h₃⟩ := h₃
    exact s_pure ⟨rfl, h₃⟩
theorem s_runOwn {c : Code} {env : Env} {Q : Flow → Shared → Prop}
    (h : codeS (model prog w) A c (fun r s' => match r with | .ok f => Q f s' | .error _ => False) s) : wpS (model prog w) A (runOwn c env) Q E s := by
  unfold runOwn
  exact s_onRaise (s_run (codeS_mono h fun r s' hr => by cases r with | ok f => exact hr | error e => exact hr.elim))
theorem s_While {test : Expr} {body : List Stmt} {pos : Pos} {env : Env} {Q : Flow → Shared → Prop}
    (h : codeS (model prog w) A (.whileLoop test body [] env) (fun r s' => match r with | .ok f => Q f s' | .error _ => False) s) : wpS (model prog w) A (exec (.While test body [] pos) env) Q E s := by
  rw [exec_While]
  exact s_bind (s_any (wpAny_standAt (s_runOwn h)))
/-- one turn of a for -/
theorem codeS_for {R : Result → Shared → Prop} {target : Expr} {it : Value} {body : List Stmt} {env : Env}
    (h : wpAny (model prog w) A (pyNext it) (fun r s₁ => match r with
      | none => R (.ok .next) s₁
      | some v => wpAny (model prog w) A (letOwnedTupleGo target it v) (fun _ s₁' => wpAny (model prog w) A (assign target env v) (fun _ s₂ =>
          wpS (model prog w) A (execs body env) (fun f s₃ => f = .next ∧ codeS (model prog w) A (.forLoop target it body [] env) R s₃) (fun _ _ => False) s₂) (fun _ _ => False) s₁') (fun _ _ => False) s₁) (fun _ _ => False) s) :
    codeS (model prog w) A (.forLoop target it body [] env) R s := by
  refine codeS_tree rfl ?_
  show wpS _ A ((forTurn target it body [] env).onRaise (fun x => do noteFrame x env; theTreesLotGoes x)) _ _ s
  refine s_onRaise (E := fun e s' => R (.error e) s') ?_
  simp only [forTurn]
  refine s_bind (s_any (wpAny_standAt (s_bind (s_any (wpAny_onRaise (wpAny_mono h (fun r s₁ h₁ => ?_) fun _ _ x => x.elim))))))
  cases r with
  | none => exact s_pure ⟨rfl, codeS_any (codeAny_block (wpAny_execs_nil h₁))⟩
  | some v =>
    refine s_bind (s_any (wpAny_mono h₁ (fun _ s₁' h₁' => ?_) fun _ _ x => x.elim))
    refine s_bind (s_any (wpAny_mono h₁' (fun _ s₂ h₂ => s_bind (s_mono h₂ (fun f s₃ h₃ => ?_) fun _ _ x => x.elim)) fun _ _ x => x.elim))
    obtain ⟨rfl, h₃⟩ := h₃
    exact s_pure ⟨rfl, h₃⟩
theorem s_For {target iter : Expr} {body : List Stmt} {pos : Pos} {env : Env} {Q : Flow → Shared → Prop}
    (h : wpAny (model prog w) A (eval iter env) (fun x s₁ => wpAny (model prog w) A (pyIter x) (fun it s₂ =>
      codeS (model prog w) A (.forLoop target it body [] env) (fun r s' => match r with | .ok f => Q f s' | .error _ => False) s₂) E s₁) E s)
    (hs : ∀ x, foldedSetIterable iter env x = pure x := by intro _; rfl) : wpS (model prog w) A (exec (.For target iter body [] pos) env) Q E s := by
  rw [exec_For]
  refine s_bind (s_any (wpAny_standAt (s_bind (s_any (wpAny_mono h (fun x s₁ h₁ => ?_) fun _ _ e => e)))))
  rw [hs]
  refine s_bind (s_any (wpAny_pure (s_bind (s_any (wpAny_standAt ?_)))))
  exact s_bind (s_any (wpAny_holding (wpAny_mono h₁ (fun it s₂ h₂ => s_runOwn h₂) fun _ _ e => e)))
end
end Mine
end
section
open PySem PySem.W PySem.Spec PySem.Calls PyProof.Rows
set_option Elab.async false
set_option maxRecDepth 100000
namespace Mine
open Builtin
theorem ba_mro : mroOf (.type "bytearray") = pure [.type "bytearray", .type "object"] := by rw [mroOf_type]; kernel_rfl
theorem ba_lookup_new : typeLookup (.type "bytearray") "__new__" = pure (some (.builtin "bytearray.__new__")) := by rw [typeLookup_type, builtinLookup_eq_fast]; kernel_rfl
theorem ba_init_slot : Slot "bytearray" "__init__" "bytearray.__init__" :=
  .of (owner := "bytearray") (n := "__init__") (by rw [typeLookup_type, builtinLookup_eq_fast]; kernel_rfl) (by decide +kernel) (by decide +kernel) (by decide +kernel)
    (by first | exact .inl (by decide +kernel) | exact .inr (by decide +kernel)) (by rw [isSubtype_type]; kernel_rfl)
theorem ba_called : TypeCalled "bytearray" "bytearray.__new__" "bytearray.__init__" :=
  ⟨by decide +kernel, by decide +kernel, ⟨_, _, ba_mro⟩, madeBy_type ba_mro ba_lookup_new (by decide +kernel), by decide +kernel, by rw [isSubtype_type]; kernel_rfl, ba_init_slot⟩
theorem ba_typeCall (a : Value) : checkTypeCall "bytearray" ⟨[a], []⟩ = pure () := by kernel_rfl
theorem ba_newCall (a : Value) : checkBuiltinCall "bytearray.__new__" ⟨[.type "bytearray", a], []⟩ = pure () := by kernel_rfl
theorem ba_plain_new : plainId "bytearray.__new__" = true := by decide +kernel
theorem ba_entry_new : entryFor table "bytearray.__new__" = some Builtin.«list.__new__» := entryFor_alias (id' := "list.__new__") (by kernel_rfl) (by decide +kernel) (by decide +kernel) (by kernel_rfl)
theorem ba_entry_init : entryFor table "bytearray.__init__" = some Builtin.«bytearray.__init__» := by first | exact entryFor_of_fast (by kernel_rfl) | exact entryFor_of_tree (by kernel_rfl)
theorem ba_entry_append : entryFor table "bytearray.append" = some Builtin.«bytearray.append» := by first | exact entryFor_of_fast (by kernel_rfl) | exact entryFor_of_tree (by kernel_rfl)
theorem ba_sub : isSubtype (.type "bytearray") (.type "bytearray") = pure true := by rw [isSubtype_type]; kernel_rfl
set_option maxRecDepth 1000000 in
set_option maxHeartbeats 4000000 in
theorem ba_owner : ("bytearray.__new__".splitOn ".__new__").headD "" = "bytearray" := by simp +decide [String.splitOn, String.splitOnAux]
theorem ba_args_init (a b : Value) : argsOk "bytearray.__init__" ⟨[a, b], []⟩ := by unfold argsOk; kernel_rfl
theorem ba_bind (v : Value) : Bytes.bindOptional "bytearray.__init__" "bytearray" ["source", "encoding", "errors"] [v] [] = pure [some v, none, none] := by kernel_rfl
theorem lends_of {id : String} {args : Args} (h : (["bytearray.__contains__", "bytearray.__mod__", "bytearray.__rmod__", "_struct.pack_into.held", "bytearray.find.held"] ++ Bytes.decodersThatHold).contains id = true) : lends (.builtin id args) = true := h
section
variable {M : Model} {A : Around} {E : Value → Shared → Prop} {s : Shared}
theorem s_exported {v : Value} {Q : Bool → Shared → Prop} (h : Q false s) : wpS M A (Bytes.exported v) Q E s := by
  unfold Bytes.exported
  refine s_bind (s_stack fun st hc => s_pure ?_)
  have z : ∀ (f : Code × Pos → Bool), (∀ x, lends x.1 = false → f x = false) → st.any f = false := fun f hf => List.any_eq_false.mpr fun x hx => by rw [hf x (hc x hx)]; exact Bool.false_ne_true
  rw [z]
  · exact h
  · rintro ⟨c, p⟩ hl
    dsimp only at hl ⊢
    split
    all_goals first
      | (rename_i e; simp only [Prod.mk.injEq] at e; obtain ⟨e, _⟩ := e; subst e; exact absurd (hl.symm.trans (lends_of (by decide +kernel))) Bool.false_ne_true)
      | (rename_i id v' tl kw snd x1 x2 x3 x4 x5 e; simp only [Prod.mk.injEq] at e; obtain ⟨e, _⟩ := e; subst e
         have hd : Bytes.decodersThatHold.contains id = false := by
           have hl' : (["bytearray.__contains__", "bytearray.__mod__", "bytearray.__rmod__", "_struct.pack_into.held", "bytearray.find.held"] ++ Bytes.decodersThatHold).contains id = false := hl
           rw [List.contains_eq_mem] at hl' ⊢
           simp only [List.mem_append, decide_eq_false_iff_not, not_or] at hl' ⊢
           exact hl'.2
         rw [hd, Bool.and_false])
      | rfl

theorem s_exported_or {v : Value} {a : Addr} {o : Obj} {b : Array UInt8} {Q : Bool → Shared → Prop} (hv : v = .ref a) (ho : s.heap.get? a = some o) (hd : o.data = .bytearray b) (h : Q false s) :
    wpS M A (Bytes.exported v <||> (do return (← Bytes.exportsOf v) > 0)) Q E s := by
  subst hv
  unfold orM
  refine s_bind (s_exported ?_)
  show wpS M A (do let n ← Bytes.exportsOf (.ref a); pure (decide (n > 0))) Q E s
  refine s_bind ?_
  unfold Bytes.exportsOf
  refine s_bind (s_any (wpAny_load ho ?_))
  rw [hd]
  exact s_pure (s_pure h)
theorem s_checkResize {a : Addr} {o : Obj} {b : Array UInt8} {Q : Unit → Shared → Prop} (ho : s.heap.get? a = some o) (hd : o.data = .bytearray b) (h : Q () s) : wpS M A (Bytes.checkResize (.ref a)) Q E s := by
  unfold Bytes.checkResize
  refine s_bind (s_exported_or rfl ho hd ?_)
  exact s_pure h
theorem ba_write {a : Addr} {b : Array UInt8} {f : Array UInt8 → Array UInt8} {Q : Unit → Shared → Prop} (ho : s.heap.get? a = some { cls := .type "bytearray", data := .bytearray b }) (hz : (f b).size ≤ sizeLine)
    (h : ∀ h', h'.get? a = some { cls := .type "bytearray", data := .bytearray (f b) } → Heap.SameBut a s.heap h' → Q () { s with heap := h' }) : wpAny M A (Bytes.write (.ref a) f) Q E s := by
  show wpAny M A (updateBytearray a f) Q E s
  unfold updateBytearray
  refine wpAny_bind (wpAny_load ho ?_)
  show wpAny _ _ (update a (Obj.mapBytearray f) >>= fun _ => lookBehind a) _ _ _
  refine wpAny_bind (wpAny_update ho ?_)
  have ho₂ : (s.heap.update a (Obj.mapBytearray f)).get? a = some { cls := .type "bytearray", data := .bytearray (f b) } := Heap.get?_update_self (Obj.mapBytearray f) ho rfl
  refine wpAny_lookBehind ho₂ ?_ (h _ ho₂ (Heap.SameBut.update ..))
  show (if (f b).size > sizeLine then some "bytearray:memory" else none) = none
  rw [if_neg (Nat.not_lt.mpr hz)]
end
theorem ba_byteValue {n : Int} {t : Tok} (h0 : 0 ≤ n) (h1 : n < 256) : Bytes.byteValue (.int n t) = pure n.toNat.toUInt8 := by
  have e : Bytes.byteValue (.int n t) = (if n < 0 || n ≥ 256 then (do rule "bytes.byte-out-of-range"; raiseError "ValueError" "byte must be in range(0, 256)"; return n.toNat.toUInt8) else return n.toNat.toUInt8) := rfl
  rw [e, if_neg]
  simp only [Bool.or_eq_true, decide_eq_true_eq]
  omega
theorem ba_slot_append : Slot "bytearray" "append" "bytearray.append" :=
  .of (owner := "bytearray") (n := "append") (by rw [typeLookup_type, builtinLookup_eq_fast]; kernel_rfl) (by decide +kernel) (by decide +kernel) (by decide +kernel)
    (by first | exact .inl (by decide +kernel) | exact .inr (by decide +kernel)) (by rw [isSubtype_type]; kernel_rfl)
theorem ba_args_append (a b : Value) : argsOk "bytearray.append" ⟨[a, b], []⟩ := by unfold argsOk; kernel_rfl
section
variable {prog : Program} {w : World} {A : Around} {E : Value → Shared → Prop} {s : Shared}
/-- a built-in's code, in the calm logic -/
theorem codeS_builtin {id : String} {args : Args} {b : Builtin} {R : Result → Shared → Prop} (hl : lends (.builtin id args) = false) (hb : entryFor table id = some b)
    (h : wpS (model prog w) (A.under (.builtin id args)) (b args) (fun fin s' => match fin with | .done f => R (.ok f) s' | .again c' => c'.quiet = true ∧ codeS (model prog w) A c' R s') (fun e s' => R (.error e) s') s) :
    codeS (model prog w) A (.builtin id args) R s := by
  refine codeS_tree hl ?_
  show wpS _ _ (match entryFor table id with | some b => b args | none => unsupported ((withoutEnding? id "#data").getD id)) _ _ s
  rw [hb]; exact h
theorem codeS_call_builtin {id : String} {args : Args} {b : Builtin} {R : Result → Shared → Prop} (hq : plainId id = true) (hl : lends (.builtin id args) = false) (hb : entryFor table id = some b)
    (h : wpAny (model prog w) A.in1 (checkBuiltinCall id args) (fun _ s₁ => wpS (model prog w) A.in1 (b args)
      (fun fin s' => match fin with | .done f => R (.ok f) s' | .again c' => c'.quiet = true ∧ codeS (model prog w) A c' R s') (fun e s' => R (.error e) s') s₁)
      (fun e s' => R (.error e) s') s) : codeS (model prog w) A (.call (.builtin id) args) R s := by
  refine codeS_tree rfl ?_
  show wpS _ A.in1 (do checkBuiltinCall id args; again (.builtin id args)) _ _ s
  refine s_bind (s_any (wpAny_mono h (fun _ s₁ h₁ => s_pure (And.intro (plainId_quiet hq args) (codeS_builtin hl hb ?_))) fun _ _ h' => h'))
  rw [Around.under_plainId hq args]; exact h₁

/-- found.append(n) -/
theorem s_append {a : Addr} {b : Array UInt8} {n : Int} {t : Tok} {Q : Value → Shared → Prop} (ho : s.heap.get? a = some { cls := .type "bytearray", data := .bytearray b }) (h0 : 0 ≤ n) (h1 : n < 256) (hz : b.size + 1 ≤ sizeLine)
    (h : ∀ h', h'.get? a = some { cls := .type "bytearray", data := .bytearray (b.push n.toNat.toUInt8) } → Heap.SameBut a s.heap h' → Q .none { s with heap := h' }) :
    wpS (model prog w) A (call (.builtin "bytearray.append") [.ref a, .int n t]) Q E s := by
  refine s_call (codeS_call_builtin ba_slot_append.plain rfl ba_entry_append (ba_slot_append.check _ _ _ _ _ _ _ _ ⟨_, ho, rfl⟩ (ba_args_append _ _) ?_))
  show wpS _ _ (do let c ← Bytes.byteValue (.int n t); Bytes.checkResize (.ref a); Bytes.write (.ref a) (·.push c); ret .none) _ _ s
  rw [ba_byteValue h0 h1]
  refine s_bind (s_pure (s_bind (s_checkResize ho rfl (s_bind (s_any (ba_write ho (by rw [Array.size_push]; exact hz) fun h' e k => ?_))))))
  exact s_pure (h h' e k)
end
end Mine
end
section
open PySem PySem.W PySem.Spec PySem.Calls PyProof.Rows
set_option Elab.async false
set_option maxRecDepth 100000
namespace Mine
open Builtin
theorem ba_slotIsOwn : typeLookup (.type "bytearray") "__release_buffer__" = pure (some (.builtin "bytearray.__release_buffer__")) := by rw [typeLookup_type, builtinLookup_eq_fast]; kernel_rfl
theorem ba_ends : ("bytearray.__release_buffer__".endsWith ("." ++ "__release_buffer__")) = true := by decide +kernel
theorem ba_drop : "bytearray.__release_buffer__".dropRight ("__release_buffer__".length + 1) = "bytearray" := by decide +kernel
theorem ba_release_name : (("__release_buffer__" : String) : Str) = Str.ofString "__release_buffer__" := rfl
section
variable {prog : Program} {w : World} {A : Around} {E : Value → Shared → Prop} {s : Shared}
theorem ba_ownRelease {M : Model} {a : Addr} {Q : Bool → Shared → Prop} (hT : s.TypeIs (.ref a) "bytearray") (h : Q false s) : wpAny M A (Bytes.ownRelease (.ref a)) Q E s := by
  unfold Bytes.ownRelease Bytes.slotIsOwn
  refine wpAny_bind (wpAny_bind (wpAny_specialOf hT ba_slotIsOwn ?_))
  dsimp only
  rw [ba_ends]
  show wpAny M A (isInstance (.ref a) (.type ("bytearray.__release_buffer__".dropRight ("__release_buffer__".length + 1)))) _ E s
  rw [ba_drop]
  exact wpAny_isInstance hT ba_sub (wpAny_pure h)
theorem ba_new (a : Value) {Q₁ : Value → Shared → Prop}
    (h : Q₁ (.ref s.heap.objs.size) { s with heap := s.heap.push { cls := .type "bytearray", data := .bytearray #[] } }) :
    codeAny (model prog w) A (.call (.builtin "bytearray.__new__") ⟨[.type "bytearray", a], []⟩) (wants Q₁ E) s := by
  refine codeAny_of_tree ?_
  show wpAny _ A.in1 (do checkBuiltinCall "bytearray.__new__" ⟨[.type "bytearray", a], []⟩; again (.builtin "bytearray.__new__" ⟨[.type "bytearray", a], []⟩)) _ _ s
  refine wpAny_bind (wpAny_of_eq (ba_newCall a) (wpAny_pure ⟨plainId_quiet ba_plain_new _, codeAny_builtin_stack ba_entry_new rfl fun p st => ?_⟩))
  rw [Around.under_plainId ba_plain_new _]
  have hsub := ba_sub
  have hown := ba_owner
  obtain ⟨hp, g, d, tk, os⟩ := s
  simp only [hown]
  wp_walk
  exact h
end
section
variable {prog : Program} {w : World} {A : Around} {E : Value → Shared → Prop} {s : Shared}
theorem s_if_false {α : Type} {M : Model} {c : Bool} {a b : Sem α} {Q : α → Shared → Prop} (hc : c = false) (h : wpS M A b Q E s) : wpS M A (if c = true then a else b) Q E s := by
  subst hc; exact h
theorem s_if_true {α : Type} {M : Model} {c : Bool} {a b : Sem α} {Q : α → Shared → Prop} (hc : c = true) (h : wpS M A a Q E s) : wpS M A (if c = true then a else b) Q E s := by
  subst hc; exact h
theorem s_eq {α β : Type} {M : Model} {m : Sem α} {a : α} {f : α → Sem β} {Q : β → Shared → Prop} (he : m = pure a) (h : wpS M A (f a) Q E s) : wpS M A (m >>= f) Q E s := by
  subst he; exact s_bind (s_pure h)
theorem ba_init {a l : Addr} {n : Int} {t : Tok} {b : Array UInt8} {R : Fin → Shared → Prop} (ho : s.heap.get? a = some { cls := .type "bytearray", data := .bytearray b }) (hl : s.heap.IsList l #[.int n t]) (h0 : 0 ≤ n) (h1 : n < 256)
    (h : ∀ h', h'.get? a = some { cls := .type "bytearray", data := .bytearray #[n.toNat.toUInt8] } → Heap.SameBut a s.heap h' → R (.done (.ret .none)) { s with heap := h' }) :
    wpS (model prog w) A (Builtin.«bytearray.__init__» ⟨[.ref a, .ref l], []⟩) R E s := by
  have hT : s.TypeIs (.ref l) "list" := hl.typeIs
  have hne : l ≠ a := by
    rintro rfl
    obtain ⟨o, e, c, _⟩ := hl
    rw [ho] at e; cases e; exact absurd c (by simp)
  obtain ⟨ol, hol, hoc, nl, hod⟩ := id hl
  unfold Builtin.«bytearray.__init__»
  refine s_bind (s_any (ba_ownRelease ⟨_, ho, rfl⟩ ?_))
  refine s_if_false rfl ?_
  refine s_eq (ba_bind _) ?_
  refine s_eq (a := ()) rfl ?_
  refine s_eq (a := ()) rfl ?_
  refine s_bind (s_exported_or rfl ho rfl ?_)
  refine s_if_false rfl ?_
  refine s_bind (s_any (ba_write ho (by decide) fun h₁ e₁ k₁ => ?_))
  have hl₁ : h₁.IsList l #[.int n t] := hl.extBut k₁.extBut hne
  have hT₁ : ({ s with heap := h₁ } : Shared).TypeIs (.ref l) "list" := Heap.IsList.typeIs (s := { s with heap := h₁ }) hl₁
  obtain ⟨ol₁, hol₁, hoc₁, nl₁, hod₁⟩ := id hl₁
  refine s_bind ?_
  refine s_any (wpAny_bind (wpAny_load hol₁ ?_))
  rw [hod₁]
  refine wpAny_pure ?_
  refine s_if_false rfl ?_
  refine s_eq (a := ()) rfl ?_
  refine s_bind (s_any (wpAny_specialOf hT₁ F.bm_no_index ?_))
  refine s_if_false rfl ?_
  refine s_bind (s_any ?_)
  unfold Bytes.buffer?
  refine wpAny_bind (wpAny_specialOf hT₁ F.bm_no_buffer ?_)
  refine wpAny_bind (wpAny_specialOf hT₁ F.bm_no_buffer ?_)
  refine wpAny_pure ?_
  refine s_bind (s_any (wpAny_typeOf hT₁ ?_))
  refine s_if_true (by decide) ?_
  refine s_bind (s_any (wpAny_seqItems hol₁ hod₁ ?_))
  simp only [List.takeWhile_cons, List.takeWhile_nil, h0, h1, decide_true, Bool.and_self, if_true, List.length_cons, List.length_nil, List.filterMap_cons, List.filterMap_nil]
  refine s_bind (s_any (wpAny_rule (s_bind (s_any (ba_write e₁ (by simp [sizeLine_eq]) fun h₂ e₂ k₂ => s_pure ?_)))))
  exact h h₂ e₂ (k₁.trans k₂)

/-- bytearray([n]) -/
theorem s_bytearray {l : Addr} {n : Int} {t : Tok} {Q : Value → Shared → Prop} (hl : s.heap.IsList l #[.int n t]) (h0 : 0 ≤ n) (h1 : n < 256)
    (h : ∀ h', h'.get? s.heap.objs.size = some { cls := .type "bytearray", data := .bytearray #[n.toNat.toUInt8] } → (∀ b o, s.heap.get? b = some o → h'.get? b = some o) → Q (.ref s.heap.objs.size) { s with heap := h' }) :
    wpS (model prog w) A (call (.type "bytearray") [.ref l]) Q E s := by
  have ft := ba_called
  obtain ⟨c, tl, hmro⟩ := ft.mro
  have hmade := ft.made
  have hsub := ft.sub
  refine s_call (codeS_tree rfl ?_)
  show wpS _ _ (callAny (.type "bytearray") _) _ _ _
  refine s_pure ⟨Code.quiet_builtin _ (by decide +kernel), codeS_builtin rfl F.entry_type_call ?_⟩
  rw [Around.under_plain (weight_type_call_type "bytearray" [.ref l] []) rfl]
  unfold Builtin.«type.__call__»
  refine s_if_false ft.notType ?_
  refine s_if_false ft.canCreate ?_
  refine s_eq (ba_typeCall _) ?_
  refine s_eq hmro ?_
  refine s_if_false rfl ?_
  refine s_eq hmade ?_
  refine s_bind (s_pure ?_)
  refine s_bind (s_holding (s_call (codeS_any (codeAny_mono (ba_new (E := fun _ _ => False) (Q₁ := fun v s' => v = .ref s.heap.objs.size ∧ s' = { s with heap := s.heap.push { cls := .type "bytearray", data := .bytearray #[] } }) (.ref l) ⟨rfl, rfl⟩) ?_))))
  rintro (e | f) s₁ hr
  · exact hr.elim
  cases f with
  | ret v =>
    obtain ⟨rfl, rfl⟩ := hr
    have ho : (s.heap.push { cls := .type "bytearray", data := .bytearray #[] }).get? s.heap.objs.size = some { cls := .type "bytearray", data := .bytearray #[] } := Heap.get?_push_size _ rfl
    have hT : ({ s with heap := s.heap.push { cls := .type "bytearray", data := .bytearray #[] } } : Shared).TypeIs (.ref s.heap.objs.size) "bytearray" := ⟨_, ho, rfl⟩
    refine s_bind (s_any (wpAny_isInstance hT ba_sub ?_))
    refine s_if_false rfl ?_
    refine s_bind (s_holding ?_)
    unfold callSpecial?
    refine s_bind (s_any (wpAny_specialOf hT ba_init_slot.lookup ?_))
    refine s_holding (s_eq (ba_init_slot.bind _) ?_)
    refine s_bind (s_call (codeS_call_builtin ba_init_slot.plain rfl ba_entry_init (ba_init_slot.check _ _ _ _ _ _ _ _ hT (ba_args_init _ _) ?_)))
    refine ba_init ho (hl.push _) h0 h1 fun h' e k => ?_
    refine s_pure ?_
    refine s_if_false rfl ?_
    refine s_pure ?_
    exact h h' e fun b o eb => k.extBut b o (Nat.ne_of_lt (Heap.lt_size eb)) (Heap.get?_push_of_some _ eb)
  | next => exact hr.elim
  | brk => exact hr.elim
  | cont => exact hr.elim
end
end Mine
end
section
open PySem PySem.W PySem.Spec PySem.Calls PyProof.Rows
set_option Elab.async false
set_option maxRecDepth 100000
namespace Mine
open Builtin
section
variable {M : Model} {A : Around} {E : Value → Shared → Prop} {s : Shared} {env : Env}
theorem s_callM {pos : Pos} {f : Value} {first : List Value} {args : List (Bool × Sem Value)} {Q : Value → Shared → Prop} (hplain : args.any (·.1) = false) (hk : keeperOf f = pure .machine)
    (h : wpAny M A (evalArgs f true args []) (fun a s₁ => wpS M A (call f (first ++ a.pos) a.kw) Q E s₁) E s) : wpS M A (callWith pos f first args []) Q E s := by
  unfold callWith
  refine s_bind (s_any (wpAny_holding (wpAny_mono h (fun a s₁ h₁ => s_bind (s_any (wpAny_standAt ?_))) fun _ _ x => x)))
  have hpl : (args.any (·.1) || ([] : List (Option Str × Sem Value)).any (·.1.isNone)) = false := by rw [hplain]; rfl
  simp only [hpl]
  refine s_eq hk ?_
  exact s_bind (s_mono h₁ (fun r s₂ hr => s_bind (s_any (wpAny_holding (wpAny_point (s_pure hr))))) fun _ _ x => x)
/-- a call of a built-in type by its name -/
theorem s_CallT {T : String} {f : Expr} {e : Expr} {rest : List Expr} {pos : Pos} {Q : Value → Shared → Prop}
    (h : wpAny M A (eval f env) (fun fv s₁ => fv = .type T ∧ wpAny M A (spliced (backTo pos (starEach (e :: rest) env))) (fun vs s₂ => wpS M A (call (.type T) vs) Q E s₂) E s₁) E s)
    (hf : eval (.Call f (e :: rest) [] pos) env = (do callWith pos (← eval f env) [] (backTo pos (starEach (e :: rest) env)) (backToKw pos (keywordEach [] env))) := by rfl)
    (he : starEach (e :: rest) env = (false, eval e env) :: starEach rest env := by rfl) (hplain : (backTo pos (starEach rest env)).any (·.1) = false := by rfl) :
    wpS M A (eval (.Call f (e :: rest) [] pos) env) Q E s := by
  rw [hf]
  refine s_bind (s_any (wpAny_mono h (fun fv s₁ h₁ => ?_) fun _ _ x => x))
  obtain ⟨rfl, h₁⟩ := h₁
  rw [he] at h₁ ⊢
  exact s_callM (by show (false || (backTo pos (starEach rest env)).any (·.1)) = false; rw [hplain]; rfl) rfl (evalArgs_plain h₁)
/-- a method of a built-in object, called -/
theorem s_Method {id : String} {o : Expr} {name : Str} {apos pos : Pos} {e : Expr} {rest : List Expr} {pl : Sem Bool} {Q : Value → Shared → Prop}
    (h : wpAny M A (eval o env) (fun ov s₁ => wpAny M A (getMethod ov name pl) (fun fx s₂ => fx.1 = .builtin id ∧ wpAny M A (spliced (backTo pos (starEach (e :: rest) env))) (fun vs s₃ => wpS M A (call (.builtin id) (fx.2 ++ vs)) Q E s₃) E s₂) E s₁) E s)
    (hm : eval (.Call (.Attribute o name apos) (e :: rest) [] pos) env = (do
      let ov ← eval o env
      standAt apos.atName
      let (f, first) ← holding [ov] (getMethod ov name pl)
      callWith pos f first (backTo pos (starEach (e :: rest) env)) []) := by rfl)
    (he : starEach (e :: rest) env = (false, eval e env) :: starEach rest env := by rfl) (hplain : (backTo pos (starEach rest env)).any (·.1) = false := by rfl) :
    wpS M A (eval (.Call (.Attribute o name apos) (e :: rest) [] pos) env) Q E s := by
  rw [hm]
  refine s_bind (s_any (wpAny_mono h (fun ov s₁ h₁ => s_bind (s_any (wpAny_standAt (s_bind (s_any (wpAny_holding (wpAny_mono h₁ (fun fx s₂ h₂ => ?_) fun _ _ x => x))))))) fun _ _ x => x))
  obtain ⟨f, first⟩ := fx
  obtain ⟨rfl, h₂⟩ := h₂
  show wpS M A (callWith pos (.builtin id) first (backTo pos (starEach (e :: rest) env)) []) Q E s₂
  rw [he] at h₂ ⊢
  exact s_callM (by show (false || (backTo pos (starEach rest env)).any (·.1)) = false; rw [hplain]; rfl) rfl (evalArgs_plain h₂)
theorem s_Expr {e : Expr} {pos : Pos} {Q : Flow → Shared → Prop} (h : wpS M A (eval e env) (fun v s' => v = .none ∧ Q .next s') E s) (hi : interactive env = false := by rfl) (hs : swapsWith e none pos.line env = pure false := by rfl) :
    wpS M A (exec (.Expr e pos) env) Q E s := by
  rw [exec_Expr env e pos hi hs]
  refine s_bind (s_any (wpAny_standAt (s_bind (s_mono h (fun v s' h' => ?_) fun _ _ x => x))))
  obtain ⟨rfl, h'⟩ := h'
  rw [dropValue_plain (fun a z => by cases z)]
  exact s_pure h'
theorem s_isTrue_any {e : Expr} {whole : Sem Value} {Q : Bool → Shared → Prop} (h : wpAny M A (isTrue e env whole) Q E s) : wpS M A (isTrue e env whole) Q E s := s_any h
/-- a tuple display whose first item is walked here -/
theorem s_Tuple2 {a b : Expr} {k : Nat} {pos : Pos} {Q : Value → Shared → Prop}
    (h : wpS M A (eval a env) (fun v s₁ => wpAny M A (eval b env) (fun u s₂ => wpAny M A (newTuple [v, u]) Q E s₂) E s₁) E s)
    (he : starEach [a, b] env = [(false, eval a env), (false, eval b env)] := by rfl) : wpS M A (eval (.Tuple [a, b] k pos) env) Q E s := by
  show wpS M A (do standAt pos; newTuple (← spliced (backTo pos (starEach [a, b] env)))) Q E s
  rw [he]
  show wpS M A (do standAt pos; newTuple (← spliced [(false, eval a env), (false, eval b env)])) Q E s
  refine s_bind (s_any (wpAny_standAt (s_bind ?_)))
  unfold spliced
  refine s_bind (s_mono h (fun v s₁ h₁ => ?_) fun _ _ x => x)
  refine s_if_false rfl (s_bind (s_pure ?_))
  refine s_bind (s_holding ?_)
  unfold spliced
  refine s_bind (s_any (wpAny_mono h₁ (fun u s₂ h₂ => ?_) fun _ _ x => x))
  refine s_if_false rfl (s_bind (s_pure ?_))
  refine s_bind (s_holding ?_)
  unfold spliced
  exact s_pure (s_pure (s_pure (s_any h₂)))
theorem s_Assign_swapped {elts : List Expr} {k : Nat} {tpos : Pos} {value : Expr} {pos : Pos} {names : List Str} {Q : Flow → Shared → Prop}
    (h : wpS M A (eval value env) (fun v s₁ => wpAny M A (unpackItems v names.length none) (fun items s₂ =>
      wpAny M A (assignInOrder (names.reverse.map fun n => bindName env n) items.reverse) (fun _ => Q .next) E s₂) E s₁) E s)
    (hs : swapsWithSole [.Tuple elts k tpos] value pos.line env = pure false := by rfl)
    (hw : swappedStores [.Tuple elts k tpos] value env = pure (some names) := by rfl) :
    wpS M A (exec (.Assign [.Tuple elts k tpos] value pos) env) Q E s := by
  rw [exec_Assign]
  refine s_bind (s_any (wpAny_standAt ?_))
  rw [hs]
  refine s_bind (s_pure ?_)
  rw [if_neg (by decide)]
  refine s_bind (s_mono h (fun v s₁ h₁ => ?_) fun _ _ x => x)
  rw [hw]
  refine s_bind (s_pure ?_)
  show wpS M A (do rule "assign.swapped-stores"; let items ← unpackItems v names.length none; assignInOrder (names.reverse.map fun n => bindName env n) items.reverse; pure .next) Q E s₁
  exact s_any (wpAny_bind (wpAny_rule (wpAny_bind (wpAny_mono h₁ (fun items s₂ h₂ => wpAny_bind (wpAny_mono h₂ (fun _ _ x => wpAny_pure x) fun _ _ x => x)) fun _ _ x => x))))
end

theorem ba_no_bytes : typeLookup (.type "bytearray") "__bytes__" = pure none := by rw [typeLookup_type, builtinLookup_eq_fast]; kernel_rfl
theorem ba_no_index : typeLookup (.type "bytearray") "__index__" = pure none := by rw [typeLookup_type, builtinLookup_eq_fast]; kernel_rfl
theorem ba_buffer : typeLookup (.type "bytearray") "__buffer__" = pure (some (.builtin "bytearray.__buffer__")) := by rw [typeLookup_type, builtinLookup_eq_fast]; kernel_rfl
theorem by_bytes : typeLookup (.type "bytes") "__bytes__" = pure (some (.builtin "bytes.__bytes__")) := by rw [typeLookup_type, builtinLookup_eq_fast]; kernel_rfl
theorem ba_bends : ("bytearray.__buffer__".endsWith ("." ++ "__buffer__")) = true := by decide +kernel
theorem ba_bdrop : "bytearray.__buffer__".dropRight ("__buffer__".length + 1) = "bytearray" := by decide +kernel
theorem ba_plainAttrs : PlainAttrs "bytearray" :=
  ⟨⟨"bytearray.__getattribute__", by rw [typeLookup_type, builtinLookup_eq_fast]; kernel_rfl, by decide +kernel⟩, by rw [typeLookup_type, builtinLookup_eq_fast]; kernel_rfl⟩
theorem ba_append_type : typeOf (.builtin "bytearray.append") = pure (.type "method_descriptor") := by show builtinType _ = _; rw [builtinType_eq_fast]; kernel_rfl
section
variable {prog : Program} {w : World} {A : Around} {E : Value → Shared → Prop} {s : Shared}
theorem ba_getMethod {a : Addr} {b : Array UInt8} {pl : Sem Bool} {Q : Value × List Value → Shared → Prop} (ho : s.heap.get? a = some { cls := .type "bytearray", data := .bytearray b })
    (h : Q (.builtin "bytearray.append", [.ref a]) s) : wpAny (model prog w) A (getMethod (.ref a) "append" pl) Q E s :=
  getMethod_builtin (T := "bytearray") ⟨_, ho, rfl⟩ ba_plainAttrs ba_slot_append ba_append_type (fun a' e => by cases e; exact ⟨_, ho, rfl⟩) h
theorem ba_slotIsOwn_buffer {M : Model} {a : Addr} {Q : Bool → Shared → Prop} (hT : s.TypeIs (.ref a) "bytearray") (h : Q true s) : wpAny M A (Bytes.slotIsOwn (.ref a) "__buffer__") Q E s := by
  unfold Bytes.slotIsOwn
  refine wpAny_bind (wpAny_specialOf hT ba_buffer ?_)
  dsimp only
  rw [ba_bends]
  show wpAny M A (isInstance (.ref a) (.type ("bytearray.__buffer__".dropRight ("__buffer__".length + 1)))) _ E s
  rw [ba_bdrop]
  exact wpAny_isInstance hT ba_sub h
theorem by_new_ba {a : Addr} {b : Array UInt8} {Q : Value → Shared → Prop} (ho : s.heap.get? a = some { cls := .type "bytearray", data := .bytearray b }) (hz : b.size ≤ sizeLine)
    (hQ : ∀ t k, Q (.bytes b t) { s with toks := k }) : codeAny (model prog w) A (.call (.builtin "bytes.__new__") ⟨[.type "bytes", .ref a], []⟩) (wants Q E) s := by
  refine codeAny_of_tree ?_
  show wpAny _ A.in1 (do checkBuiltinCall "bytes.__new__" ⟨[.type "bytes", .ref a], []⟩; again (.builtin "bytes.__new__" ⟨[.type "bytes", .ref a], []⟩)) _ _ s
  refine wpAny_bind (wpAny_of_eq (F.bm_newCall _) (wpAny_pure ⟨plainId_quiet F.bm_plain _, codeAny_builtin F.bm_entry ?_⟩))
  rw [Around.under_plainId F.bm_plain _]
  have hT : s.TypeIs (.ref a) "bytearray" := ⟨_, ho, rfl⟩
  unfold Builtin.«bytes.__new__»
  refine wpAny_bind (wpAny_of_eq (a := true) rfl ?_)
  refine bm_if_false rfl ?_
  refine wpAny_bind (wpAny_of_eq F.bm_sub ?_)
  refine bm_if_false rfl ?_
  refine wpAny_bind (wpAny_of_eq (F.bm_bind _) ?_)
  refine wpAny_bind (wpAny_of_eq (a := ()) rfl ?_)
  refine wpAny_bind (wpAny_of_eq (a := ()) rfl ?_)
  refine bm_if_false rfl ?_
  refine wpAny_bind (wpAny_specialOf hT ba_no_bytes ?_)
  refine wpAny_bind (wpAny_bind ?_)
  show wpAny _ _ (load a >>= _) _ _ _
  refine wpAny_bind (wpAny_load ho ?_)
  refine wpAny_pure (wpAny_pure ?_)
  refine bm_if_false rfl ?_
  refine wpAny_bind (wpAny_specialOf hT ba_no_index ?_)
  refine bm_if_true rfl ?_
  first
    | show wpAny _ _ (Builtin.Bytes.buffer? "bytes.__new__" (.ref a) true >>= _) _ _ _
    | (refine wpAny_bind ?_; show wpAny _ _ (Builtin.Bytes.buffer? "bytes.__new__" (.ref a) true >>= _) _ _ _)
  refine wpAny_bind ?_
  unfold Builtin.Bytes.buffer?
  refine wpAny_bind (wpAny_specialOf hT ba_buffer ?_)
  refine wpAny_bind (ba_slotIsOwn_buffer hT ?_)
  refine bm_if_false rfl ?_
  refine wpAny_bind (wpAny_specialOf hT ba_buffer ?_)
  refine wpAny_bind (ba_ownRelease hT ?_)
  refine bm_if_false rfl ?_
  refine wpAny_bind ?_
  unfold Bytes.payload Bytes.payload?
  refine wpAny_bind (wpAny_bind (wpAny_load ho ?_))
  refine wpAny_pure (wpAny_pure (wpAny_pure ?_))
  refine wpAny_bind (wpAny_rule ?_)
  refine wpAny_bind (wpAny_mkBytes ?_ hz)
  show wpAny _ _ (if (Value.type "bytes" == Value.type "bytes") = true then _ else _) _ _ _
  refine bm_if_true (by decide) ?_
  exact wpAny_pure (hQ _ _)
/-- bytes(found) -/
theorem by_of_ba {a : Addr} {b : Array UInt8} {Q : Value → Shared → Prop} (ho : s.heap.get? a = some { cls := .type "bytearray", data := .bytearray b }) (hz : b.size ≤ sizeLine)
    (hQ : ∀ t k, Q (.bytes b t) { s with toks := k }) : wpAny (model prog w) A (call (.type "bytes") [.ref a]) Q E s := by
  refine callType_codes (Q₁ := fun obj s₁ => s₁.TypeIs obj "bytes" ∧ Q obj s₁) F.bm_called (F.bm_typeCall _) F.entry_object_init (by_new_ba ho hz fun t k => ⟨PySem.W.typeIs_bytes _ _ _, hQ t k⟩) fun obj s₁ h₁ => ?_
  exact ⟨h₁.1, F.args_object_init_2 obj _, object_init_meets F.bm_called.init.lookup F.bm_called.made (by decide) prog w A.in1 _ s₁ ⟨h₁.1, rfl, h₁.2⟩⟩
theorem by_new_by {b : Array UInt8} {t : Tok} {Q : Value → Shared → Prop}
    (hQ : Q (.bytes b t) s) : codeAny (model prog w) A (.call (.builtin "bytes.__new__") ⟨[.type "bytes", .bytes b t], []⟩) (wants Q E) s := by
  refine codeAny_of_tree ?_
  show wpAny _ A.in1 (do checkBuiltinCall "bytes.__new__" ⟨[.type "bytes", .bytes b t], []⟩; again (.builtin "bytes.__new__" ⟨[.type "bytes", .bytes b t], []⟩)) _ _ s
  refine wpAny_bind (wpAny_of_eq (F.bm_newCall _) (wpAny_pure ⟨plainId_quiet F.bm_plain _, codeAny_builtin F.bm_entry ?_⟩))
  rw [Around.under_plainId F.bm_plain _]
  have hT : s.TypeIs (.bytes b t) "bytes" := rfl
  unfold Builtin.«bytes.__new__»
  refine wpAny_bind (wpAny_of_eq (a := true) rfl ?_)
  refine bm_if_false rfl ?_
  refine wpAny_bind (wpAny_of_eq F.bm_sub ?_)
  refine bm_if_false rfl ?_
  refine wpAny_bind (wpAny_of_eq (F.bm_bind _) ?_)
  refine wpAny_bind (wpAny_of_eq (a := ()) rfl ?_)
  refine wpAny_bind (wpAny_of_eq (a := ()) rfl ?_)
  refine bm_if_false rfl ?_
  refine wpAny_bind (wpAny_specialOf hT by_bytes ?_)
  refine wpAny_bind (wpAny_rule ?_)
  refine wpAny_bind (wpAny_typeOf hT ?_)
  refine bm_if_true (by decide) ?_
  show wpAny _ _ (if (Value.type "bytes" == Value.type "bytes") = true then _ else _) _ _ _
  refine bm_if_true (by decide) ?_
  exact wpAny_pure hQ
/-- bytes(b) of bytes -/
theorem by_of_by {b : Array UInt8} {t : Tok} {Q : Value → Shared → Prop} (hQ : Q (.bytes b t) s) : wpAny (model prog w) A (call (.type "bytes") [.bytes b t]) Q E s := by
  refine callType_codes (Q₁ := fun obj s₁ => s₁.TypeIs obj "bytes" ∧ Q obj s₁) F.bm_called (F.bm_typeCall _) F.entry_object_init (by_new_by ⟨PySem.W.typeIs_bytes _ _ _, hQ⟩) fun obj s₁ h₁ => ?_
  exact ⟨h₁.1, F.args_object_init_2 obj _, object_init_meets F.bm_called.init.lookup F.bm_called.made (by decide) prog w A.in1 _ s₁ ⟨h₁.1, rfl, h₁.2⟩⟩
end
end Mine
end
section
open PySem PySem.W PySem.Spec PySem.Calls PyProof.Rows
set_option Elab.async false
set_option maxRecDepth 100000
namespace Mine
/-- an octet -/
def oct (n : Int) : UInt8 := n.toNat.toUInt8
/-- the figures behind the first octet (to 2097152) -/
def tailF (l : Int) : List UInt8 :=
  if l < 128 then [oct l] else if l < 16384 then [oct (128 + l % 128), oct (l / 128)] else [oct (128 + l % 128), oct (128 + l / 128 % 128), oct (l / 128 / 128)]
/-- a number's figures: M is 2 ** bits -/
def figs (n M h : Int) : List UInt8 := if n < M - 1 then [oct (h + n)] else oct (h + (M - 1)) :: tailF (n - (M - 1))
theorem tailF_len (l : Int) : (tailF l).length ≤ 3 := by
  unfold tailF
  split
  · simp
  · split <;> simp
theorem figs_len (n M h : Int) : 1 ≤ (figs n M h).length ∧ (figs n M h).length ≤ 4 := by
  unfold figs
  split
  · simp
  · have := tailF_len (n - (M - 1))
    simp only [List.length_cons]; omega

section
variable {prog : Program} {w : World} {A : Around} {E : Value → Shared → Prop} {s : Shared} {h₀ : Heap} {L : Addr} {m : Str → Option Value} {news : List (Addr × Obj)}
/-- bytes([n]) -/
theorem by_one {l : Addr} {n : Int} {t : Tok} {c : Nat} {Q : Value → Shared → Prop} (F : Fr h₀ L s.heap m) (N : News h₀ L s.heap news) (hl : (l, listOf #[.int n t] c) ∈ news) (h0 : 0 ≤ n) (h1 : n < 256) (hh : A.handled = none)
    (h : ∀ h' u k, Fr h₀ L h' m → News h₀ L h' news → Q (.bytes ([oct n] : List UInt8).toArray u) { s with heap := h', toks := k }) : wpAny (model prog w) A (call (.type "bytes") [.ref l]) Q E s :=
  call_bytes_ints (vs := [.int n t]) (ns := [n]) ⟨_, (N _ hl).1, rfl, c, rfl⟩ (.cons _ _ .nil) (fun x hx => by rw [List.mem_singleton.mp hx]; exact ⟨h0, h1⟩) (by simp [sizeLine_eq]) hh
    fun h' u k hk => h h' u k (F.keeps hk) fun q hq => ⟨hk _ _ (N q hq).1, (N q hq).2⟩
theorem by_add {x y : List UInt8} {t u : Tok} {Q : Value → Shared → Prop} (hz : x.length + y.length ≤ 16777216) (h : ∀ t' k, Q (.bytes (x ++ y).toArray t') { s with toks := k }) :
    wpAny (model prog w) A (binaryOp .Add (.bytes x.toArray t) (.bytes y.toArray u)) Q E s := by
  refine KBy.add_bytes (by simpa using hz) fun t' k => ?_
  rw [List.append_toArray]
  exact h t' k
theorem int_mod {a b : Int} {t u : Tok} {Q : Value → Shared → Prop} (hb : 0 < b) (h : ∀ t' k, Q (.int (a % b) t') { s with toks := k }) : wpAny (model prog w) A (binaryOp .Mod (.int a t) (.int b u)) Q E s :=
  mod_int' (Int.ne_of_gt hb) (by rw [Int.fmod_eq_emod_of_nonneg _ (Int.le_of_lt hb)]; exact h _ _)
theorem int_div {a b : Int} {t u : Tok} {Q : Value → Shared → Prop} (hb : 0 < b) (hs : b < 1073741824) (h : ∀ t' k, Q (.int (a / b) t') { s with toks := k }) : wpAny (model prog w) A (binaryOp .FloorDiv (.int a t) (.int b u)) Q E s :=
  floordiv_int (Int.ne_of_gt hb) (by rw [Int.fdiv_eq_ediv_of_nonneg _ (Int.le_of_lt hb)]; exact h _ _) (.inl (PyProof.noPylong_small (by omega)))
theorem int_and {a b c : Int} {t u : Tok} {Q : Value → Shared → Prop} (he : Builtin.bitAnd a b = c) (h : ∀ t' k, Q (.int c t') { s with toks := k }) : wpAny (model prog w) A (binaryOp .BitAnd (.int a t) (.int b u)) Q E s :=
  and_int (by rw [he]; exact h _ _)
theorem int_or {a b c : Int} {t u : Tok} {Q : Value → Shared → Prop} (he : Builtin.bitOr a b = c) (h : ∀ t' k, Q (.int c t') { s with toks := k }) : wpAny (model prog w) A (binaryOp .BitOr (.int a t) (.int b u)) Q E s :=
  or_int (by rw [he]; exact h _ _)
end
theorem bitOr_nat (x y : Nat) : Builtin.bitOr (x : Int) (y : Int) = ((x ||| y : Nat) : Int) := by
  have h1 : ¬ (0 ≤ Builtin.bitNot (x : Int)) := by show ¬ (0 ≤ -(x : Int) - 1); omega
  have h2 : ¬ (0 ≤ Builtin.bitNot (y : Int)) := by show ¬ (0 ≤ -(y : Int) - 1); omega
  have e1 : (Builtin.bitNot (Builtin.bitNot (x : Int))).toNat = x := by show (-(-(x : Int) - 1) - 1).toNat = x; omega
  have e2 : (Builtin.bitNot (Builtin.bitNot (y : Int))).toNat = y := by show (-(-(y : Int) - 1) - 1).toNat = y; omega
  unfold Builtin.bitOr Builtin.bitAnd
  simp only [decide_eq_false h1, decide_eq_false h2, e1, e2]
  show -(-((x ||| y : Nat) : Int) - 1) - 1 = _
  omega
/-- a head and what stands below it -/
theorem bitOr_head {q n M : Int} {k : Nat} (hM : (2 : Int) ^ k = M) (hq : 0 ≤ q) (h0 : 0 ≤ n) (h1 : n < M) : Builtin.bitOr (M * q) n = M * q + n := by
  obtain ⟨q, rfl⟩ := Int.eq_ofNat_of_zero_le hq
  obtain ⟨n, rfl⟩ := Int.eq_ofNat_of_zero_le h0
  subst hM
  have e : (2 : Int) ^ k * (q : Int) = ((2 ^ k * q : Nat) : Int) := by simp
  have h1' : n < 2 ^ k := by
    have : ((2 ^ k : Nat) : Int) = (2 : Int) ^ k := by simp
    omega
  rw [e, bitOr_nat, ← Nat.two_pow_add_eq_or_of_lt h1' q]
  simp
theorem figs_0 {n M h : Int} (c : n < M - 1) : figs n M h = [oct (h + n)] := by unfold figs; rw [if_pos c]
theorem figs_1 {n M h : Int} (c : M - 1 ≤ n ∧ n < M - 1 + 128) : figs n M h = [oct (h + (M - 1)), oct (n - (M - 1))] := by
  unfold figs tailF; rw [if_neg (by omega), if_pos (by omega)]
theorem figs_2 {n M h : Int} (c : M - 1 + 128 ≤ n ∧ n < M - 1 + 16384) : figs n M h = [oct (h + (M - 1)), oct (128 + (n - (M - 1)) % 128), oct ((n - (M - 1)) / 128)] := by
  unfold figs tailF; rw [if_neg (by omega), if_neg (by omega), if_pos (by omega)]
theorem figs_3 {n M h : Int} (hM : 0 < M) (c : M - 1 + 16384 ≤ n) : figs n M h = [oct (h + (M - 1)), oct (128 + (n - (M - 1)) % 128), oct (128 + (n - (M - 1)) / 128 % 128), oct ((n - (M - 1)) / 128 / 128)] := by
  unfold figs tailF; rw [if_neg (by omega), if_neg (by omega), if_neg (by omega)]
end Mine
end
section
open PySem PySem.W PySem.Spec PySem.Calls PyProof.Rows
set_option Elab.async false
set_option maxRecDepth 100000
namespace Mine
abbrev VAddr := Addr
abbrev VObj := Obj
abbrev Led := List (VAddr × VObj)
/-- a def's contract: it returns; what it makes stands behind what stood -/
def Ct (w : World) (f : VAddr) (vs : List Value) (k : Nat) (Out : Value → Led → Prop) : Prop :=
  ∀ (mean : ExcName → Option Value) (mg mb : Str → Option Value) (dp un : Nat) (gd : Option (List Code)) (cn : Str) (cs : Scope) (a : Addr) (ccd : Value) (cl : List (Str × Addr)) (outer : List Env) (A₀ : Around) (base h₀ : Heap) (L : Addr) (m : Str → Option Value) (news : Led) (s : Shared) (Q E : Value → Shared → Prop),
    Below A₀ base outer h₀ → Fr h₀ L s.heap m → (Mine.hd.heap_39 w.params).In h₀ → News h₀ L s.heap news →
    Top Mine.hd.view_39 (looseW Mine.hd.view_39 [Str.ofString "GREATEST"]) mean mg mb h₀ → cs.kind = .function →
    dp + k < recursionLimit → un + 8 * k < cLine →
    (∀ (r : Value) (tl : Led) (h' : Heap) (tk' : Nat), Fr h₀ L h' m → News h₀ L h' (tl ++ news) → (∀ p ∈ news, ∀ q ∈ tl, p.1 < q.1) → Out r tl → Q r { s with heap := h', toks := tk' }) →
    wpAny (model PySem.Challenge.rw_nz0343_01.row.prog w) (ktrTop dp un gd cn cs L a ccd cl outer) (call (.ref f) vs) Q E s
end Mine
end
section
open PySem PySem.W PySem.Spec PySem.Calls PyProof.Rows
set_option Elab.async false
set_option maxRecDepth 100000
set_option maxHeartbeats 0
namespace Mine
def Stop (P : Prop) : Prop := P
theorem Stop.of {P : Prop} (h : Stop P) : P := h
theorem Stop.mk {P : Prop} (h : P) : Stop P := h
theorem whl_inv {prog : Program} {w : World} {A : Around} {E : Value → Shared → Prop} {env : Env} {test : PySem.Expr} {body orelse : List Stmt} {Q : Flow → Shared → Prop} {I : Nat → Shared → Prop} (N : Nat)
    (step : ∀ i k s, i ≤ N → I i s → (∀ k s', i < N → I (i + 1) s' → WhlRest prog w A E env test body orelse Q k s') → WhlRest prog w A E env test body orelse Q (k + 1) s) :
    ∀ j i s, i + j = N → I i s → ∀ k, WhlRest prog w A E env test body orelse Q k s
  | 0, i, s, e, h, _ => step i 0 s (by omega) h fun _ _ q => absurd q (by omega)
  | j + 1, i, s, e, h, _ => step i 0 s (by omega) h fun k s' _ h' => whl_inv N step j (i + 1) s' (by omega) h' k
theorem Fr.map {g h : Heap} {L : Addr} {m m' : Str → Option Value} (F : Fr g L h m) (e : m = m') : Fr g L h m' := e ▸ F
theorem tailF_step {k : Int} (h : 128 ≤ k ∧ k < 20000) : tailF k = oct (128 + k % 128) :: tailF (k / 128) := by
  unfold tailF
  rw [if_neg (by omega)]
  by_cases q : k < 16384
  · rw [if_pos q, if_pos (by omega)]
  · rw [if_neg q, if_neg (by omega), if_pos (by omega)]
theorem tailF_stop {k : Int} (h : k < 128) : tailF k = [oct k] := if_pos h
end Mine
end
section
open PySem PySem.W PySem.Spec PySem.Calls PyProof.Rows
set_option Elab.async false
set_option maxRecDepth 100000
set_option maxHeartbeats 0
set_option rowWalk.seconds 3000
namespace Mine
/-- the names of _law_figures in its loop -/
abbrev fgM (m : Str → Option Value) (x lf : Value) : Str → Option Value := fun y => if y = Str.ofString "text" then some x else if y = Str.ofString "left" then some lf else m y
theorem fg_nrm1 {m : Str → Option Value} {x lf x' lf' : Value} : (fun y => if y = Str.ofString "text" then some x' else if y = Str.ofString "left" then some lf' else if y = Str.ofString "text" then some x else if y = Str.ofString "left" then some lf else m y) = fgM m x' lf' := by
  funext y
  by_cases h1 : y = Str.ofString "left"
  · subst h1; rfl
  by_cases h2 : y = Str.ofString "text"
  · subst h2; rfl
  simp only [fgM, if_neg h1, if_neg h2]
theorem figures_ct {w : World} {n b hd M : Int} {t1 t2 t3 : Tok} (hM : 2 ^ b.toNat = M) (hb : 3 ≤ b ∧ b ≤ 7 ∧ 8 ≤ M ∧ M ≤ 128) (hh : 0 ≤ hd ∧ hd + M ≤ 256) (hn : 0 ≤ n ∧ n < 20000) : Ct w 159 [.int n t1, .int b t2, .int hd t3] 5 (fun v tl => tl = [] ∧ ∃ t, v = .bytes (figs n M hd).toArray t) := by
  k_with_none
  k_with "call type:bytes" => (k_here; (with_reducible show wpAny _ _ (call (Value.type "bytes") [Value.ref _]) _ _ _); k_dflt (refine' by_one ?Fq9 ?Nq9 ?lq9 ?aq9 ?bq9 ?hhq9 ?_; (case Fq9 => k_asm); (case Nq9 => k_asm); (case lq9 => k_mem); (case aq9 => omega); (case bq9 => omega); (case hhq9 => rfl)); intro h' u' tk' F' N'; (try k_sweep))
  k_with "binaryOp Add bytes bytes" => (k_here; (with_reducible show wpAny _ _ (binaryOp Operator.Add (Value.bytes _ _) (Value.bytes _ _)) _ _ _); (refine by_add ?zq9 ?_; (case zq9 => (simp only [List.length_cons, List.length_nil]; omega))); intro _ _)
  k_with "exec While Compare cons nil" => (k_here; k_dflt (refine whl_start 0 (Stop.of ?_)))
  k_with "WhlPost" => (refine Stop.of ?_)
  k_with "binaryOp Mod int int" => ((with_reducible show wpAny _ _ (binaryOp Operator.Mod (Value.int _ _) (Value.int (@OfNat.ofNat Int _ _) _)) _ _ _); refine int_mod (by decide) ?_; intro _ _)
  k_with "binaryOp FloorDiv int int" => ((with_reducible show wpAny _ _ (binaryOp Operator.FloorDiv (Value.int _ _) (Value.int (@OfNat.ofNat Int _ _) _)) _ _ _); refine int_div (by decide) (by decide) ?_; intro _ _)
  unfold Ct
  k_fill
  intro mean mg mb dp un gd cn cs a ccd cl outer A₀ base h₀ L m news s Q E B F X N T hk hd' hu hret
  refine wpAny_call ?_
  k_dflt (refine' code_def ?k1 ?k2 ?k3 ?k4 ?k5 ?kA ?kF ?kK ?k6 ?k7 ?k8 ?k9 ?kB ?_ ?c2 ?c3 ?c4 ?c5; (case kA => exact rfl); (case kF => exact rfl); (case kK => assumption); (case k1 => k_asm); (case k2 => k_asm); (case k3 => k_asm); (case k4 => k_asm); (case k5 => k_asm); (case k6 => k_is); (case k7 => k_is); (case k8 => ktr_room); (case k9 => exact BindsTo.of_eq rfl); (case c5 => decide); (case kB => exact locs rfl); (case c2 => exact rfl); (case c3 => exact rfl); (case c4 => exact rfl); k_whole; intro g' L' h' FG' F' N' B' X' T'; (try dsimp only); (try k_lift B'); (try k_fold))
  with_unfolding_all (change Fr _ _ _ (fun y => List.lookup y [(Str.ofString "head", Value.int hd t3), (Str.ofString "bits", Value.int b t2), (Str.ofString "number", Value.int n t1)]) at F')
  k_steps
  · exact hret _ [] _ _ (by k_asm) (cb_drop (by k_asm) (fun _ hp => .tail _ hp)) (fun _ _ _ hq => nomatch hq) ⟨rfl, _, by rw [figs_0 (by omega)]⟩
  refine Stop.mk ?_
  have hfg : figs n M hd = oct (hd + (M - 1)) :: tailF (n - (M - 1)) := if_neg (by omega)
  k_dflt (refine' whl_inv (I := fun i s' => ∃ vm x lf u1 u2, Fr g' L' s'.heap (fgM (fun y => if y = Str.ofString "full" then some vm else List.lookup y [(Str.ofString "head", Value.int hd t3), (Str.ofString "bits", Value.int b t2), (Str.ofString "number", Value.int n t1)]) (.bytes (List.toArray x) u1) (.int lf u2)) ∧ News g' L' s'.heap news ∧ (x ++ tailF lf = figs n M hd ∧ x.length ≤ i + 1) ∧ (0 ≤ lf ∧ lf < 20000 ∧ (1 ≤ i → lf < 157) ∧ (2 ≤ i → lf < 2)) ∧ s'.gens = s.gens ∧ s'.drawn = s.drawn ∧ s'.os = s.os) 2 ?stp9 2 0 _ rfl ?h09 0)
  case h09 => exact ⟨_, _, _, _, _, (by k_asm), cb_drop (by k_asm) (by kcj_all), ⟨by rw [hfg, ← hM]; rfl, by simp⟩, ⟨by omega, by omega, by omega, by omega⟩, rfl, rfl, rfl⟩
  case stp9 =>
    intro i k s9 hi hI hk9
    obtain ⟨vm, x, lf, u1, u2, F9, N9, ⟨hx, hxl⟩, ⟨h0, h1, h2, h3⟩, e1, e2, e3⟩ := hI
    obtain ⟨h9, g9, d9, t9, o9⟩ := s9
    dsimp only at F9 N9 e1 e2 e3
    subst e1 e2 e3
    k_steps
    by_cases h8 : (127 : Int) < lf
    · refine WhlIf.yes (by simp only [decide_eq_true_eq]; omega) ?_
      have hi2 : i < 2 := by
        rcases Nat.lt_or_ge i 2 with q | q
        · exact q
        · have := h3 q; omega
      have hl9 : 0 ≤ lf / 128 ∧ lf / 128 < 157 ∧ (1 ≤ i → lf / 128 < 2) := ⟨by omega, by omega, fun q => by have := h2 q; omega⟩
      k_steps
      refine Stop.mk ?_
      dsimp only [WhlPost]
      exact hk9 _ _ hi2 ⟨_, _, _, _, _, Fr.map (by k_asm) fg_nrm1, cb_drop (by k_asm) (by kcj_all), ⟨by rw [← hx, tailF_step (k := lf) ⟨by omega, by omega⟩, Int.add_comm (lf % 128) 128, List.append_assoc]; rfl, by simp only [List.length_append, List.length_cons, List.length_nil]; omega⟩, ⟨hl9.1, by omega, fun _ => hl9.2.1, fun q => hl9.2.2 (by omega)⟩, rfl, rfl, rfl⟩
    · refine WhlIf.no (by simp only [decide_eq_false_iff_not]; omega) ?_
      k_steps
      exact hret _ [] _ _ (by k_asm) (cb_drop (by k_asm) (by kcj_all)) (fun _ _ _ hq => nomatch hq) ⟨rfl, _, by rw [← hx, tailF_stop (by omega)]⟩
end Mine
end
section
open PySem PySem.W PySem.Spec PySem.Calls PyProof.Rows
set_option Elab.async false
set_option maxRecDepth 100000
set_option maxHeartbeats 0
namespace Mine
section
variable {prog : Program} {w : World} {A A₀ : Around} {s : Shared} {K : Frag} {L : Addr} {h₀ base : Heap} {m mg mb : Str → Option Value} {news : List (Addr × Obj)} {p : Program} {loose : List Str} {mean : ExcName → Option Value}
theorem codeS_defK {env : Env} {outer : List Env} {R : Result → Shared → Prop} {name qual : Str} {params : Arguments} {body : List Stmt} {scope : Scope} {dV kV doc pm cdv ct oc : Value} {an od : Option Addr} {osl : Array (Option Value)} {f : Addr} {args : Args} {binds : List (Str × Value)}
    (B : Below A₀ base outer h₀) (F : Fr h₀ L s.heap m) (X₀ : K.In h₀) (N : News h₀ L s.heap news) (T : Top p loose mean mg mb h₀) (hA : A.frames = some (env :: outer)) (hf : env.frame = some L) (hke : env.scope.kind = .function)
    (ho : K.lookup f = some ⟨oc, od, .func (fnOf name qual params body scope dV kV doc pm an cdv ct), osl⟩) (hcd : codeIn K cdv qual = true) (hroom : A.depth < recursionLimit)
    (hbind : BindsTo s (fnOf name qual params body scope dV kV doc pm an cdv ct) args binds) (hloc : ∀ y ∈ binds, scope.names.lookup y.1 = some .local)
    (h : ∀ g L' h₁, Fr h₀ L g m → Fr g L' h₁ (fun y => binds.reverse.lookup y) → News g L' h₁ news → Below A base (env :: outer) g → K.In g → Top p loose mean mg mb g →
      wpS (model prog w) (A.deeper (envOf qual scope L' f cdv)) (execs body (envOf qual scope L' f cdv))
        (fun fl s' => LeaveK h₀ L m g R (match fl with | .ret v => v | _ => .none) s')
        (fun _ _ => False)
        { s with heap := h₁, toks := s.toks + binds.length })
    (hco : scope.isCoroutine = false) (hgen : scope.isGenerator = false) (hk : scope.kind = .function)
    (hcell : ∀ x ∈ scope.names, x.2 ≠ .cell) : codeS (model prog w) A (.call (.ref f) args) R s := by
  obtain ⟨FG, BG, st, lv⟩ := groundX (R := R) B F N hA hf hke
  have X := X₀.keeps F.keep
  refine codeS_def (fd := fnOf name qual params body scope dV kV doc pm an cdv ct) (body := body) (binds := binds) hroom (X _ _ ho) rfl (T.nolimit.keeps F.keep) (codeRec_of X hcd) rfl hbind hcell hloc (fun h₁ hns hk₁ => ?_) hco hgen hk
  exact s_mono (h _ s.heap.objs.size h₁ FG ⟨hns, fun b o e => hk₁ b o (of_hideAll _ e), Nat.le_of_eq (hideAll_size _ _)⟩
    (fun p hp => ⟨hk₁ _ _ (N p hp).1, Nat.ne_of_lt (Heap.lt_size (N p hp).1), hideAll_none _ (List.mem_map_of_mem hp)⟩) BG (X₀.keeps st) (T.keeps st)) (fun fl s' hl => lv _ _ hl) fun _ _ y => y
end
/-- a contract in the calm logic -/
def CtS (w : World) (f : VAddr) (vs : List Value) (k : Nat) (Led₀ : Led → Prop) (Out : Value → Led → Prop) : Prop :=
  ∀ (mean : ExcName → Option Value) (mg mb : Str → Option Value) (dp un : Nat) (gd : Option (List Code)) (cn : Str) (cs : Scope) (a : Addr) (ccd : Value) (cl : List (Str × Addr)) (outer : List Env) (A₀ : Around) (base h₀ : Heap) (L : Addr) (m : Str → Option Value) (news : Led) (s : Shared) (Q E : Value → Shared → Prop),
    Below A₀ base outer h₀ → Fr h₀ L s.heap m → (Mine.hd.heap_39 w.params).In h₀ → News h₀ L s.heap news → Led₀ news →
    Top Mine.hd.view_39 (looseW Mine.hd.view_39 [Str.ofString "GREATEST"]) mean mg mb h₀ → cs.kind = .function →
    dp + k < recursionLimit → un + 8 * k < cLine →
    (∀ (r : Value) (tl : Led) (h' : Heap) (tk' : Nat), Fr h₀ L h' m → News h₀ L h' (tl ++ news) → (∀ p ∈ news, ∀ q ∈ tl, p.1 < q.1) → Out r tl → Q r { s with heap := h', toks := tk' }) →
    wpS (model PySem.Challenge.rw_nz0343_01.row.prog w) (ktrTop dp un gd cn cs L a ccd cl outer) (call (.ref f) vs) Q E s
section
variable {w : World} {f : Addr} {vs : List Value} {k : Nat} {Out : Value → Led → Prop} {Led₀ : Led → Prop} {mean : ExcName → Option Value} {mg mb : Str → Option Value} {dp un : Nat} {gd : Option (List Code)} {cn : Str} {cs : Scope} {a : Addr} {ccd : Value} {cl : List (Str × Addr)} {outer : List Env} {A₀ : Around} {base h₀ : Heap} {L : Addr} {m : Str → Option Value} {news : Led} {s : Shared} {Q E : Value → Shared → Prop}
theorem Ct.use (C : Ct w f vs k Out) (B : Below A₀ base outer h₀) (F : Fr h₀ L s.heap m) (X : (Mine.hd.heap_39 w.params).In h₀) (N : News h₀ L s.heap news)
    (T : Top Mine.hd.view_39 (looseW Mine.hd.view_39 [Str.ofString "GREATEST"]) mean mg mb h₀) (hk : cs.kind = .function) (hd : dp + k < recursionLimit) (hu : un + 8 * k < cLine)
    (ret : ∀ (r : Value) (tl : Led) (h' : Heap) (tk' : Nat), Fr h₀ L h' m → News h₀ L h' (tl ++ news) → (∀ p ∈ news, ∀ q ∈ tl, p.1 < q.1) → Out r tl → Q r { s with heap := h', toks := tk' }) :
    wpAny (model PySem.Challenge.rw_nz0343_01.row.prog w) (ktrTop dp un gd cn cs L a ccd cl outer) (call (.ref f) vs) Q E s := C _ _ _ _ _ _ _ _ _ _ _ _ _ _ _ _ _ _ _ _ _ B F X N T hk hd hu ret
theorem CtS.use (C : CtS w f vs k Led₀ Out) (B : Below A₀ base outer h₀) (F : Fr h₀ L s.heap m) (X : (Mine.hd.heap_39 w.params).In h₀) (N : News h₀ L s.heap news) (hl : Led₀ news)
    (T : Top Mine.hd.view_39 (looseW Mine.hd.view_39 [Str.ofString "GREATEST"]) mean mg mb h₀) (hk : cs.kind = .function) (hd : dp + k < recursionLimit) (hu : un + 8 * k < cLine)
    (ret : ∀ (r : Value) (tl : Led) (h' : Heap) (tk' : Nat), Fr h₀ L h' m → News h₀ L h' (tl ++ news) → (∀ p ∈ news, ∀ q ∈ tl, p.1 < q.1) → Out r tl → Q r { s with heap := h', toks := tk' }) :
    wpS (model PySem.Challenge.rw_nz0343_01.row.prog w) (ktrTop dp un gd cn cs L a ccd cl outer) (call (.ref f) vs) Q E s := C _ _ _ _ _ _ _ _ _ _ _ _ _ _ _ _ _ _ _ _ _ B F X N hl T hk hd hu ret
end
end Mine
end
section
open PySem PySem.W PySem.Spec PySem.Calls PyProof.Rows
set_option Elab.async false
set_option maxRecDepth 100000
namespace Mine
/-- marks of the own walk -/
def Nx (f : Flow) (G : Prop) : Prop := f = .next ∧ G
def Kp (K : Frag) (fv : Value) (G : Prop) : Prop := keepIn K fv = true ∧ G
def Ki (K : Frag) (h : Heap) (G : Prop) : Prop := K.In h ∧ G
section
variable {M : Model} {A : Around} {E : Value → Shared → Prop} {s : Shared} {env : Env}
theorem s_leaf {st : Stmt} {rest : List Stmt} {Q : Flow → Shared → Prop}
    (h : wpAny M A (exec st env) (fun f s' => Nx f (wpS M A (execs rest env) Q E s')) E s) : wpS M A (execs (st :: rest) env) Q E s :=
  s_execs (s_any (wpAny_mono h (fun f s' h' => by obtain ⟨rfl, h'⟩ := h'; exact h') fun _ _ x => x))
theorem s_last {st : Stmt} {Q : Flow → Shared → Prop}
    (h : wpS M A (exec st env) Q E s) : wpS M A (execs [st] env) Q E s :=
  s_execs (s_mono h (fun f s' h' => by cases f with | next => exact s_execs_nil h' | brk => exact h' | cont => exact h' | ret v => exact h') fun _ _ x => x)
theorem s_IfL {test : Expr} {body orelse : List Stmt} {pos : Pos} {Q : Flow → Shared → Prop}
    (h : wpAny M A (isTrue test env (eval test env)) (fun b s₂ => if b then wpS M A (execs body env) Q E s₂ else wpS M A (execs orelse env) Q E s₂) E s) :
    wpS M A (exec (.If test body orelse pos) env) Q E s := s_If (s_any h)
theorem s_IfR {test : Expr} {pos : Pos} {rest : List Stmt} {v : Expr} {p : Pos} {Q : Flow → Shared → Prop}
    (h : wpAny M A (isTrue test env (eval test env)) (fun b s₂ => if b then wpS M A (exec (.Return (some v) p) env) Q E s₂ else wpS M A (execs rest env) Q E s₂) E s)
    (hR : ∀ f s', Q f s' → ∃ v, f = .ret v) :
    wpS M A (execs (.If test [.Return (some v) p] [] pos :: rest) env) Q E s := by
  refine s_execs (s_If (s_any (wpAny_mono h (fun b s₂ h₂ => ?_) fun _ _ x => x)))
  cases b with
  | true =>
    simp only [if_true] at h₂ ⊢
    refine s_execs (s_mono h₂ (fun f s' h' => ?_) fun _ _ x => x)
    obtain ⟨v, rfl⟩ := hR _ _ h'
    exact h'
  | false =>
    simp only [Bool.false_eq_true, if_false] at h₂ ⊢
    exact s_execs_nil h₂
theorem s_CallK {K : Frag} {f : Expr} {e : Expr} {rest : List Expr} {pos : Pos} {Q : Value → Shared → Prop}
    (h : wpAny M A (eval f env) (fun fv s₁ => Kp K fv (wpAny M A (spliced (backTo pos (starEach (e :: rest) env))) (fun vs s₂ => Ki K s₂.heap (wpS M A (call fv vs) Q E s₂)) E s₁)) E s)
    (hf : eval (.Call f (e :: rest) [] pos) env = (do callWith pos (← eval f env) [] (backTo pos (starEach (e :: rest) env)) (backToKw pos (keywordEach [] env))) := by rfl)
    (he : starEach (e :: rest) env = (false, eval e env) :: starEach rest env := by rfl) (hplain : (backTo pos (starEach rest env)).any (·.1) = false := by rfl) :
    wpS M A (eval (.Call f (e :: rest) [] pos) env) Q E s := s_Call (K := K) h hf he hplain
end
abbrev baObj (b : Array UInt8) : Obj := { cls := .type "bytearray", data := .bytearray b }
section
variable {prog : Program} {w : World} {A : Around} {E : Value → Shared → Prop} {s : Shared} {h₀ : Heap} {L : Addr} {m : Str → Option Value} {news : List (Addr × Obj)}
theorem s_bytearrayN {l : Addr} {n : Int} {t : Tok} {c : Nat} {Q : Value → Shared → Prop} (F : Fr h₀ L s.heap m) (N : News h₀ L s.heap news) (hl : (l, listOf #[.int n t] c) ∈ news) (h0 : 0 ≤ n) (h1 : n < 256)
    (h : ∀ h' d, Fr h₀ L h' m → News h₀ L h' ((d, baObj [oct n].toArray) :: news) → (∀ p ∈ news, p.1 ≠ d) → Q (.ref d) { s with heap := h' }) : wpS (model prog w) A (call (.type "bytearray") [.ref l]) Q E s := by
  refine s_bytearray (N.isList hl) h0 h1 fun h' ho hk => ?_
  have F' := F.keeps hk
  exact h h' _ F' (News.more F' (N.keeps hk) ho (fun es n q => by cases q) F.fresh) fun p hp => Nat.ne_of_lt (Heap.lt_size (N p hp).1)
theorem s_appendN {d : Addr} {l : List UInt8} {n : Int} {t : Tok} {Q : Value → Shared → Prop} (F : Fr h₀ L s.heap m) (N : News h₀ L s.heap ((d, baObj l.toArray) :: news)) (hap : ∀ p ∈ news, p.1 ≠ d) (h0 : 0 ≤ n) (h1 : n < 256) (hz : l.length < 16)
    (h : ∀ h', Fr h₀ L h' m → News h₀ L h' ((d, baObj (l ++ [oct n]).toArray) :: news) → Q .none { s with heap := h' }) : wpS (model prog w) A (call (.builtin "bytearray.append") [.ref d, .int n t]) Q E s := by
  have hm := N (d, _) (.head _)
  refine s_append hm.1 h0 h1 ?_ fun h' ho hs => ?_
  · have : sizeLine ≥ 17 := by decide
    simp only [List.size_toArray]; omega
  have e : l.toArray.push n.toNat.toUInt8 = (l ++ [oct n]).toArray := by simp [oct]
  rw [e] at ho
  exact h h' (F.change hs hm.2.1 hm.2.2) (N.setHead hap hs ho)
end
end Mine
end
section
open PySem PySem.W PySem.Spec PySem.Calls PyProof.Rows
set_option Elab.async false
set_option maxRecDepth 100000
set_option maxHeartbeats 0
set_option rowWalk.seconds 3000
namespace Mine
theorem s_inv {prog : Program} {w : World} {A : Around} {R : Result → Shared → Prop} {env : Env} {test : PySem.Expr} {body : List Stmt} {I : Nat → Shared → Prop} (N : Nat)
    (step : ∀ i s, i ≤ N → I i s → (∀ s', i < N → I (i + 1) s' → codeS (model prog w) A (.whileLoop test body [] env) R s') → codeS (model prog w) A (.whileLoop test body [] env) R s) :
    ∀ j i s, i + j = N → I i s → codeS (model prog w) A (.whileLoop test body [] env) R s
  | 0, i, s, e, h => step i s (by omega) h fun s' q => absurd q (by omega)
  | j + 1, i, s, e, h => step i s (by omega) h fun s' _ h' => s_inv N step j (i + 1) s' (by omega) h'
/-- the names of put_prefix in its loop -/
abbrev fpM (m : Str → Option Value) (lf fd : Value) : Str → Option Value := fun y => if y = Str.ofString "left" then some lf else if y = Str.ofString "found" then some fd else m y
theorem fp_nrm0 {m : Str → Option Value} {lf fd : Value} : (fun y => if y = Str.ofString "found" then some fd else if y = Str.ofString "left" then some lf else m y) = fpM m lf fd := by
  funext y
  by_cases h1 : y = Str.ofString "found"
  · subst h1; rfl
  · rw [if_neg h1]; simp only [fpM, if_neg h1]
theorem fp_nrm1 {m : Str → Option Value} {lf fd lf' : Value} : (fun y => if y = Str.ofString "left" then some lf' else if y = Str.ofString "left" then some lf else if y = Str.ofString "found" then some fd else m y) = fpM m lf' fd := by
  funext y
  by_cases h1 : y = Str.ofString "left"
  · subst h1; rfl
  simp only [fpM, if_neg h1]
theorem prefix_ct {w : World} {n b q M : Int} {t1 t2 t3 : Tok} (hM : 2 ^ b.toNat = M) (hb : 3 ≤ b ∧ b ≤ 7 ∧ 8 ≤ M ∧ M ≤ 128) (hh : 0 ≤ q ∧ M * q + M ≤ 256 ∧ 0 ≤ M * q) (hn : 0 ≤ n ∧ n < 20000) : CtS w 61 [.int n t1, .int b t2, .int (M * q) t3] 5 (fun _ => True) (fun v tl => tl = [] ∧ ∃ t, v = .bytes (figs n M (M * q)).toArray t) := by
  k_with_none
  k_with "Nx" => refine ⟨rfl, ?_⟩
  k_with "Kp" => (k_dflt (refine ⟨by k_is, ?_⟩))
  k_with "Ki" => (refine' ⟨Frag.In.keeps ?Xq9 (Fr.keep ?Fq9), ?_⟩; (case Fq9 => k_asm); (case Xq9 => assumption))
  k_with "binaryOp Mod int int" => ((with_reducible show wpAny _ _ (binaryOp Operator.Mod (Value.int _ _) (Value.int (@OfNat.ofNat Int _ _) _)) _ _ _); refine int_mod (by decide) ?_; intro _ _)
  k_with "binaryOp FloorDiv int int" => ((with_reducible show wpAny _ _ (binaryOp Operator.FloorDiv (Value.int _ _) (Value.int (@OfNat.ofNat Int _ _) _)) _ _ _); refine int_div (by decide) (by decide) ?_; intro _ _)
  k_with "call type:bytes" => (k_here; (with_reducible show wpAny _ _ (call (Value.type "bytes") [Value.ref _]) _ _ _); k_dflt (first | (refine' by_one ?Fq9 ?Nq9 ?lq9 ?aq9 ?bq9 ?hhq9 ?_; (case Fq9 => k_asm); (case Nq9 => k_asm); (case lq9 => k_mem); (case aq9 => omega); (case bq9 => omega); (case hhq9 => rfl); intro h' u' tk' F' N'; (try k_sweep)) | (refine' by_of_ba ?hoq9 ?hzq9 ?_; (case hoq9 => exact News.get (by assumption) (by k_mem)); (case hzq9 => (have : sizeLine ≥ 17 := by decide); simp only [List.size_toArray, List.length_append, List.length_cons, List.length_nil]; omega); intro t' k')))
  k_with "binaryOp BitOr int int" => ((with_reducible show wpAny _ _ (binaryOp Operator.BitOr (Value.int _ _) (Value.int _ _)) _ _ _); (refine' int_or (bitOr_head ?hMq9 ?h0q9 ?h1q9 ?h2q9) ?_; (case hMq9 => assumption); (case h0q9 => omega); (case h1q9 => omega); (case h2q9 => omega)); intro _ _)
  k_with "getMethod ref" => (k_dflt (refine ba_getMethod (News.get (by assumption) (by k_mem)) ?_))
  unfold CtS
  k_fill
  intro mean mg mb dp un gd cn cs a ccd cl outer A₀ base h₀ L m news s Q E B F X N hl T hk hd' hu hret
  refine s_call ?_
  k_dflt (refine' codeS_defK ?k1 ?k2 ?k3 ?k4 ?k5 ?kA ?kF ?kK ?k6 ?k7 ?k8 ?k9 ?kB ?_ ?c2 ?c3 ?c4 ?c5; (case kA => exact rfl); (case kF => exact rfl); (case kK => assumption); (case k1 => k_asm); (case k2 => k_asm); (case k3 => k_asm); (case k4 => k_asm); (case k5 => k_asm); (case k6 => k_is); (case k7 => k_is); (case k8 => ktr_room); (case k9 => exact BindsTo.of_eq rfl); (case c5 => decide); (case kB => exact locs rfl); (case c2 => exact rfl); (case c3 => exact rfl); (case c4 => exact rfl); k_whole; intro g' L' h' FG' F' N' B' X' T'; (try dsimp only); (try k_lift B'))
  with_unfolding_all (change Fr _ _ _ (fun y => List.lookup y [(Str.ofString "head", Value.int (M * q) t3), (Str.ofString "bits", Value.int b t2), (Str.ofString "number", Value.int n t1)]) at F')
  refine s_leaf ?_
  k_steps
  rename_i F9 N9
  refine s_execs ?_
  refine s_IfL ?_
  k_steps
  · refine s_any ?_
    k_steps
    refine hret _ [] _ _ (by k_asm) (cb_drop (by k_asm) ?_) (fun _ _ _ hq => nomatch hq) ⟨rfl, _, by rw [figs_0 (by omega)]⟩
    kcj_all
  have hfg : figs n M (M * q) = oct (M * q + (M - 1)) :: tailF (n - (M - 1)) := if_neg (by omega)
  refine s_execs_nil ?_
  refine s_execs ?_
  refine s_Assign_swapped ?_
  refine s_Tuple2 ?_
  refine s_CallT (T := "bytearray") ?_
  k_steps
  rename_i N8
  k_dflt (refine' s_bytearrayN ?F ?N ?l ?a ?b ?_; (case F => k_asm); (case N => k_asm); (case l => k_mem); (case a => omega); (case b => omega))
  intro h8 d8 F8 N8 H8
  try dsimp only
  k_steps
  rename_i N7
  replace N7 := N7.tail'
  refine s_execs ?_
  refine s_While ?_
  have H7 : ∀ p ∈ news, p.1 ≠ d8 := fun p hp => H8 p (.tail _ hp)
  k_dflt (refine' s_inv (I := fun i s' => ∃ vm x lf u2, Fr g' L' s'.heap (fpM (fun y => if y = Str.ofString "most" then some vm else List.lookup y [(Str.ofString "head", Value.int (M * q) t3), (Str.ofString "bits", Value.int b t2), (Str.ofString "number", Value.int n t1)]) (.int lf u2) (.ref d8)) ∧ News g' L' s'.heap ((d8, baObj (List.toArray x)) :: news) ∧ (x ++ tailF lf = figs n M (M * q) ∧ x.length ≤ i + 1) ∧ (0 ≤ lf ∧ lf < 20000 ∧ (1 ≤ i → lf < 157) ∧ (2 ≤ i → lf < 2)) ∧ s'.gens = s.gens ∧ s'.drawn = s.drawn ∧ s'.os = s.os) 2 ?stp9 2 0 _ rfl ?h09)
  case h09 => exact ⟨_, _, _, _, Fr.map (by k_asm) fp_nrm0, cb_drop (by k_asm) (by kcj_all), ⟨by rw [hfg, ← hM, Int.one_mul]; rfl, by simp⟩, ⟨by omega, by omega, by omega, by omega⟩, rfl, rfl, rfl⟩
  case stp9 =>
    intro i s9 hi hI hk9
    obtain ⟨vm, x, lf, u2, F9, N9, ⟨hx, hxl⟩, ⟨h0, h1, h2, h3⟩, e1, e2, e3⟩ := hI
    obtain ⟨h9, g9, d9, t9, o9⟩ := s9
    dsimp only at F9 N9 e1 e2 e3
    subst e1 e2 e3
    refine codeS_while ?_
    refine s_any ?_
    k_steps
    · have hi2 : i < 2 := by
        rcases Nat.lt_or_ge i 2 with q | q
        · exact q
        · have := h3 q; omega
      have hl9 : 0 ≤ lf / 128 ∧ lf / 128 < 157 ∧ (1 ≤ i → lf / 128 < 2) := ⟨by omega, by omega, fun q => by have := h2 q; omega⟩
      try dsimp only
      refine s_execs ?_
      refine s_Expr ?_
      refine s_Method (id := "bytearray.append") ?_
      k_steps
      k_dflt (refine' s_appendN ?F9 ?N9 ?H9 ?a9 ?b9 ?z9 ?_; (case F9 => k_asm); (case N9 => k_asm); (case H9 => assumption); (case a9 => omega); (case b9 => omega); (case z9 => omega))
      intro h7 F7 N7
      try dsimp only
      refine ⟨rfl, ?_⟩
      try dsimp only
      refine s_leaf ?_
      k_steps
      refine s_execs_nil ?_
      refine ⟨rfl, ?_⟩
      exact hk9 _ hi2 ⟨_, _, _, _, Fr.map (by k_asm) fp_nrm1, by k_asm, ⟨by rw [← hx, tailF_step (k := lf) ⟨by omega, by omega⟩, List.append_assoc]; rfl, by simp only [List.length_append, List.length_cons, List.length_nil]; omega⟩, ⟨hl9.1, by omega, fun _ => hl9.2.1, fun q => hl9.2.2 (by omega)⟩, rfl, rfl, rfl⟩
    · try dsimp only
      refine s_execs ?_
      refine s_Expr ?_
      refine s_Method (id := "bytearray.append") ?_
      k_steps
      k_dflt (refine' s_appendN ?F9 ?N9 ?H9 ?a9 ?b9 ?z9 ?_; (case F9 => k_asm); (case N9 => k_asm); (case H9 => assumption); (case a9 => omega); (case b9 => omega); (case z9 => omega))
      intro h7 F7 N7
      try dsimp only
      refine ⟨rfl, ?_⟩
      try dsimp only
      refine s_any ?_
      k_steps
      refine hret _ [] _ _ (by k_asm) (cb_drop (by k_asm) ?_) (fun _ _ _ hq => nomatch hq) ⟨rfl, _, by rw [← hx, tailF_stop (by omega)]⟩
      kcj_all
end Mine
end
section
open PySem PySem.W PySem.Spec PySem.Calls PyProof.Rows
set_option Elab.async false
set_option maxRecDepth 100000
set_option maxHeartbeats 0
set_option rowWalk.seconds 3000
namespace Mine
/-- what stands behind a statement -/
def Aft (M : Model) (A : Around) (rest : List Stmt) (env : Env) (Q : Flow → Shared → Prop) (E : Value → Shared → Prop) : Flow → Shared → Prop := fun f s' => match f with | .next => wpS M A (execs rest env) Q E s' | f => Q f s'
section
variable {M : Model} {A : Around} {E : Value → Shared → Prop} {s : Shared} {env : Env}
theorem s_IfS {test : Expr} {body orelse : List Stmt} {pos : Pos} {rest : List Stmt} {Q : Flow → Shared → Prop}
    (h : wpAny M A (isTrue test env (eval test env)) (fun b s₂ => if b then wpS M A (execs body env) (Aft M A rest env Q E) E s₂ else wpS M A (execs orelse env) (Aft M A rest env Q E) E s₂) E s) :
    wpS M A (execs (.If test body orelse pos :: rest) env) Q E s := s_execs (s_If (s_any h))
end
theorem s_CallH {w : World} {A : Around} {E : Value → Shared → Prop} {s : Shared} {env : Env} {f : Expr} {e : Expr} {rest : List Expr} {pos : Pos} {Q : Value → Shared → Prop}
    (h : wpAny (model PySem.Challenge.rw_nz0343_01.row.prog w) A (eval f env) (fun fv s₁ => Kp (Mine.hd.heap_39 w.params) fv (wpAny (model PySem.Challenge.rw_nz0343_01.row.prog w) A (spliced (backTo pos (starEach (e :: rest) env))) (fun vs s₂ => Ki (Mine.hd.heap_39 w.params) s₂.heap (wpS (model PySem.Challenge.rw_nz0343_01.row.prog w) A (call fv vs) Q E s₂)) E s₁)) E s)
    (hf : eval (.Call f (e :: rest) [] pos) env = (do callWith pos (← eval f env) [] (backTo pos (starEach (e :: rest) env)) (backToKw pos (keywordEach [] env))) := by rfl)
    (he : starEach (e :: rest) env = (false, eval e env) :: starEach rest env := by rfl) (hplain : (backTo pos (starEach rest env)).any (·.1) = false := by rfl) :
    wpS (model PySem.Challenge.rw_nz0343_01.row.prog w) A (eval (.Call f (e :: rest) [] pos) env) Q E s := s_CallK h hf he hplain
/-- bits, 2 ** bits, head -/
abbrev Bits (b M h : Int) : Prop := 2 ^ b.toNat = M ∧ (3 ≤ b ∧ b ≤ 7 ∧ 8 ≤ M ∧ M ≤ 128) ∧ h % M = 0 ∧ (0 ≤ h ∧ h + M ≤ 256)
theorem prefix_b {w : World} {n b h M : Int} {t1 t2 t3 : Tok} (hB : Bits b M h) (hn : 0 ≤ n ∧ n < 20000) : CtS w 61 [.int n t1, .int b t2, .int h t3] 5 (fun _ => True) (fun v tl => tl = [] ∧ ∃ t, v = .bytes (figs n M h).toArray t) := by
  obtain ⟨hM, hb, hq, hh⟩ := hB
  have e : h = M * (h / M) := by have := Int.mul_ediv_add_emod h M; omega
  rw [e]
  exact prefix_ct hM hb ⟨Int.ediv_nonneg hh.1 (by omega), by rw [← e]; exact hh.2, by rw [← e]; exact hh.1⟩ hn
theorem figures_b {w : World} {n b h M : Int} {t1 t2 t3 : Tok} (hB : Bits b M h) (hn : 0 ≤ n ∧ n < 20000) : Ct w 159 [.int n t1, .int b t2, .int h t3] 5 (fun v tl => tl = [] ∧ ∃ t, v = .bytes (figs n M h).toArray t) :=
  figures_ct hB.1 hB.2.1 hB.2.2.2 hn
theorem figs_le {n M h : Int} : (figs n M h).length ≤ 4 := (figs_len n M h).2
theorem app_le {x y : List UInt8} {a b : Nat} (hx : x.length ≤ a) (hy : y.length ≤ b) : (x ++ y).length ≤ a + b := by rw [List.length_append]; omega
theorem by_addS {prog : Program} {w : World} {A : Around} {E : Value → Shared → Prop} {s : Shared} {x y : List UInt8} {a b : Nat} {t u : Tok} {Q : Value → Shared → Prop} (hx : x.length ≤ a) (hy : y.length ≤ b) (hz : a + b ≤ 16777216) (h : ∀ t' k, Q (.bytes (x ++ y).toArray t') { s with toks := k }) :
    wpAny (model prog w) A (binaryOp .Add (.bytes x.toArray t) (.bytes y.toArray u)) Q E s := by_add (by omega) h
abbrev tupO (l : List Value) : Obj := { cls := .type "tuple", data := .seq l.toArray }
end Mine
end
section
open PySem PySem.W PySem.Spec PySem.Calls PyProof.Rows
set_option Elab.async false
set_option maxRecDepth 100000
set_option maxHeartbeats 0
set_option rowWalk.seconds 3000
namespace Mine
/-- an octet of the data -/
structure Oc (k : Nat) (d : List UInt8) (j v : Int) : Prop where
  all : 0 ≤ j ∧ j < d.length ∧ d[j.toNat]? = some (oct v) ∧ 0 ≤ v ∧ v < 256
section
variable {prog : Program} {w : World} {A : Around} {E : Value → Shared → Prop} {s : Shared}
theorem by_at (k : Nat) {d : List UInt8} {i j v : Int} {t ui : Tok} {value slice : Expr} {Q : Value → Shared → Prop} (O : Oc k d j v) (e : i = j) (hfit : d.length ≤ 1099511627776) (h : ∀ t' k', Q (.int v t') { s with toks := k' })
    (hs : subscripted slice false (.bytes d.toArray t) (.int i ui) = operate [.bytes d.toArray t, .int i ui] (getItem (.bytes d.toArray t) (.int i ui)) := by with_unfolding_all rfl)
    (ht : ∀ r, letTemporaryGo value (.bytes d.toArray t) r = pure () := by intro _; with_unfolding_all rfl) : wpAny (model prog w) A (subscriptTail value slice (.bytes d.toArray t) (.int i ui)) Q E s := by
  subst e
  obtain ⟨h0, h1, h2, h3, h4⟩ := O.all
  refine bytes_item_K hfit h0 h1 (k := v) ?_ (h _ _) hs ht
  rw [List.getD_eq_getElem?_getD, h2]
  exact byte_back h3 h4
theorem len_by {d : List UInt8} {t : Tok} {Q : Value → Shared → Prop} (hz : d.length ≤ 100000) (h : ∀ t' k, Q (.int d.length t') { s with toks := k }) : wpAny (model prog w) A (call (.builtin "len") [.bytes d.toArray t]) Q E s :=
  len_bytes (by simp only [List.size_toArray]; omega) (by simp only [List.size_toArray]; exact h _ _)
theorem int_and7 {x : Int} {t u : Tok} {Q : Value → Shared → Prop} (h : ∀ t' k, Q (.int (x % 128) t') { s with toks := k }) : wpAny (model prog w) A (binaryOp .BitAnd (.int x t) (.int 127 u)) Q E s :=
  int_and (by have := kbt_mask x 7; simpa using this) h
theorem int_shl {a k c : Int} {t u : Tok} {Q : Value → Shared → Prop} (n : Nat) (hk : k = n) (hn : n ≤ 64) (ha : 0 ≤ a ∧ a < 256) (hc : a * 2 ^ n = c) (h : ∀ t' k, Q (.int c t') { s with toks := k }) : wpAny (model prog w) A (binaryOp .LShift (.int a t) (.int k u)) Q E s := by
  subst hk hc
  refine lshift_int (by omega) ?_ (by simpa using h _ _)
  have key : ∀ x : Nat, x < 256 → Builtin.Int.intBits (x : Int) ≤ 8 := by decide +kernel
  have : Builtin.Int.intBits a ≤ 8 := by
    obtain ⟨x, rfl⟩ := Int.eq_ofNat_of_zero_le ha.1
    have hx : x < 256 := by omega
    exact key x hx
  omega
end
def CtT (w : World) (f : VAddr) (vs : List Value) (k : Nat) (Led₀ : Led → Prop) (Out : Value → Led → Prop) : Prop :=
  ∀ (mean : ExcName → Option Value) (mg mb : Str → Option Value) (dp un : Nat) (gd : Option (List Code)) (cn : Str) (cs : Scope) (a : Addr) (ccd : Value) (cl : List (Str × Addr)) (outer : List Env) (A₀ : Around) (base h₀ : Heap) (L : Addr) (m : Str → Option Value) (news : Led) (s : Shared) (Q E : Value → Shared → Prop),
    Below A₀ base outer h₀ → Fr h₀ L s.heap m → (Mine.hd.heap_39 w.params).In h₀ → News h₀ L s.heap news → Led₀ news →
    Top Mine.hd.view_39 (looseW Mine.hd.view_39 [Str.ofString "GREATEST"]) mean mg mb h₀ → cs.kind = .function →
    dp + k < recursionLimit → un + 8 * k < cLine →
    (∀ (r : Value) (tl : Led) (h' : Heap) (tk' : Nat), Fr h₀ L h' m → News h₀ L h' (tl ++ news) → Out r tl → Q r { s with heap := h', toks := tk' }) →
    wpAny (model PySem.Challenge.rw_nz0343_01.row.prog w) (ktrTop dp un gd cn cs L a ccd cl outer) (call (.ref f) vs) Q E s
section
variable {w : World} {f : Addr} {vs : List Value} {k : Nat} {Out : Value → Led → Prop} {Led₀ : Led → Prop} {mean : ExcName → Option Value} {mg mb : Str → Option Value} {dp un : Nat} {gd : Option (List Code)} {cn : Str} {cs : Scope} {a : Addr} {ccd : Value} {cl : List (Str × Addr)} {outer : List Env} {A₀ : Around} {base h₀ : Heap} {L : Addr} {m : Str → Option Value} {news : Led} {s : Shared} {Q E : Value → Shared → Prop}
theorem CtT.use (C : CtT w f vs k Led₀ Out) (B : Below A₀ base outer h₀) (F : Fr h₀ L s.heap m) (X : (Mine.hd.heap_39 w.params).In h₀) (N : News h₀ L s.heap news) (hl : Led₀ news)
    (T : Top Mine.hd.view_39 (looseW Mine.hd.view_39 [Str.ofString "GREATEST"]) mean mg mb h₀) (hk : cs.kind = .function) (hd : dp + k < recursionLimit) (hu : un + 8 * k < cLine)
    (ret : ∀ (r : Value) (tl : Led) (h' : Heap) (tk' : Nat), Fr h₀ L h' m → News h₀ L h' (tl ++ news) → Out r tl → Q r { s with heap := h', toks := tk' }) :
    wpAny (model PySem.Challenge.rw_nz0343_01.row.prog w) (ktrTop dp un gd cn cs L a ccd cl outer) (call (.ref f) vs) Q E s := C _ _ _ _ _ _ _ _ _ _ _ _ _ _ _ _ _ _ _ _ _ B F X N hl T hk hd hu ret
end
section
variable {f : Addr} {Out : Value → Led → Prop} {h₀ : Heap} {L : Addr} {m : Str → Option Value} {news : Led} {s : Shared} {Q : Value → Shared → Prop}
theorem ret1 (hret : ∀ (r : Value) (tl : Led) (h' : Heap) (tk' : Nat), Fr h₀ L h' m → News h₀ L h' (tl ++ news) → Out r tl → Q r { s with heap := h', toks := tk' }) {led : Led} {h' : Heap} {tk' : Nat} {q : Addr} {o : Obj}
    (F : Fr h₀ L h' m) (N : News h₀ L h' led) (hm : (q, o) ∈ led) (hn : ∀ p ∈ news, p ∈ led) (hO : Out (.ref q) [(q, o)]) : Q (.ref q) { s with heap := h', toks := tk' } :=
  hret _ _ _ _ F (fun p hp => by
    rcases List.mem_cons.mp hp with rfl | hp
    · exact N _ hm
    · exact N _ (hn _ hp)) hO
theorem ret2 (hret : ∀ (r : Value) (tl : Led) (h' : Heap) (tk' : Nat), Fr h₀ L h' m → News h₀ L h' (tl ++ news) → Out r tl → Q r { s with heap := h', toks := tk' }) {led : Led} {h' : Heap} {tk' : Nat} {q q2 : Addr} {o o2 : Obj}
    (F : Fr h₀ L h' m) (N : News h₀ L h' led) (hm : (q, o) ∈ led) (hm2 : (q2, o2) ∈ led) (hn : ∀ p ∈ news, p ∈ led) (hO : Out (.ref q) [(q, o), (q2, o2)]) : Q (.ref q) { s with heap := h', toks := tk' } :=
  hret _ _ _ _ F (fun p hp => by
    rcases List.mem_cons.mp hp with rfl | hp
    · exact N _ hm
    rcases List.mem_cons.mp hp with rfl | hp
    · exact N _ hm2
    · exact N _ (hn _ hp)) hO
end
theorem iteY {c : Prop} [Decidable c] {P Q : Prop} (h : c) (p : P) : if c then P else Q := by rw [if_pos h]; exact p
theorem iteN {c : Prop} [Decidable c] {P Q : Prop} (h : ¬ c) (q : Q) : if c then P else Q := by rw [if_neg h]; exact q
theorem pairO {D : Addr} {x y n e : Int} {a b : Tok} (ex : x = n) (ey : y = e) : ∃ q t1 t2, [((D, tupO [.int x a, .int y b]) : Addr × Obj)] = [(q, tupO [.int n t1, .int e t2])] ∧ Value.ref D = Value.ref q := by
  subst ex ey
  exact ⟨_, _, _, rfl, rfl⟩
/-- the octets l stand in d from p on -/
def Has (d : List UInt8) (p : Int) (l : List UInt8) : Prop := 0 ≤ p ∧ (d.drop p.toNat).take l.length = l
theorem Has.len {d l : List UInt8} {p : Int} (H : Has d p l) (hl : l ≠ []) : p + l.length ≤ d.length := by
  have := congrArg List.length H.2
  rw [List.length_take, List.length_drop] at this
  have h0 := H.1
  have : 0 < l.length := List.length_pos_iff.mpr hl
  omega
theorem Has.at {d l : List UInt8} {p v : Int} (H : Has d p l) {k j : Nat} (hk : l[j]? = some (oct v)) (hv : 0 ≤ v ∧ v < 256) : Oc k d (p + j) v := by
  have hj : j < l.length := by
    rcases Nat.lt_or_ge j l.length with h | h
    · exact h
    · rw [List.getElem?_eq_none h] at hk; cases hk
  have hne : l ≠ [] := by rintro rfl; simp at hj
  have hlen := H.len hne
  have h0 := H.1
  refine ⟨by omega, by omega, ?_, hv.1, hv.2⟩
  have e : (p + (j : Int)).toNat = p.toNat + j := by omega
  have h2 := H.2
  rw [e, ← hk, ← List.getElem?_drop]
  have := congrArg (fun x => x[j]?) h2
  simpa [List.getElem?_take, hj] using this
end Mine
end
section
open PySem PySem.W PySem.Spec PySem.Calls PyProof.Rows
set_option Elab.async false
set_option maxRecDepth 100000
set_option maxHeartbeats 0
set_option rowWalk.seconds 3000
namespace Mine
theorem text_b {w : World} {l : List UInt8} {b h M : Int} {t1 t2 t3 : Tok} (hB : Bits b M h) (hn : l.length < 20000) : CtS w 75 [.bytes l.toArray t1, .int b t2, .int h t3] 6 (fun _ => True) (fun v tl => tl = [] ∧ ∃ t, v = .bytes (figs l.length M h ++ l).toArray t) := by
  k_with_none
  k_with "S enter" => (refine' codeS_defK ?k1q9 ?k2q9 ?k3q9 ?k4q9 ?k5q9 ?kAq9 ?kFq9 ?kKq9 ?k6q9 ?k7q9 ?k8q9 ?k9q9 ?kBq9 ?_ ?c2q9 ?c3q9 ?c4q9 ?c5q9; (case kAq9 => exact rfl); (case kFq9 => exact rfl); (case kKq9 => assumption); (case k1q9 => k_asm); (case k2q9 => k_asm); (case k3q9 => k_asm); (case k4q9 => k_asm); (case k5q9 => k_asm); (case k6q9 => k_is); (case k7q9 => k_is); (case k8q9 => ktr_room); (case k9q9 => exact BindsTo.of_eq rfl); (case c5q9 => decide); (case kBq9 => exact locs rfl); (case c2q9 => exact rfl); (case c3q9 => exact rfl); (case c4q9 => exact rfl); k_whole; intro g' L' h' FG' F' N' B' X' T'; (try dsimp only); (try k_lift B'); (try k_fold))
  k_with "Nx" => refine ⟨rfl, ?_⟩
  k_with "Kp" => (k_dflt (refine ⟨by k_is, ?_⟩))
  k_with "Ki" => (refine' ⟨Frag.In.keeps ?Xq9 (Fr.keep ?Fq9), ?_⟩; (case Fq9 => k_asm); (case Xq9 => assumption))
  k_with "Aft" => dsimp only [Aft]
  k_with "wpS" => (k_here; first | ((with_reducible show wpS _ _ (execs [Stmt.Return (some _) _] _) _ _ _); k_dflt (refine s_last ?_; refine s_Return ?_)) | ((with_reducible show wpS _ _ (execs (Stmt.If _ _ _ _ :: _) _) _ _ _); k_dflt (refine s_IfS ?_)) | ((with_reducible show wpS _ _ (execs [] _) _ _ _); k_dflt (refine s_execs_nil ?_)) | ((with_reducible show wpS _ _ (execs (_ :: _) _) _ _ _); k_dflt (refine s_leaf ?_)) | ((with_reducible show wpS _ _ (eval (Expr.BinOp _ Operator.Add _ _) _) _ _ _); k_dflt (refine s_BinOp ?_)) | ((with_reducible show wpS _ _ (eval (Expr.Call _ _ [] _) _) _ _ _); k_dflt (refine s_CallH ?_)) | ((with_reducible show wpS _ _ (eval _ _) _ _ _); k_dflt (refine s_any ?_)) | ((with_reducible show wpS _ _ (call (Value.ref _) _) _ _ _); walk_at "S call"))
  k_with "len" => first | exact figs_le | ((with_reducible show List.length (_ ++ _) ≤ _); exact app_le (by walk_at "len") (by walk_at "len")) | exact Nat.le_of_lt (show _ < 20000 by omega)
  k_with "binaryOp Add bytes bytes" => (k_here; (with_reducible show wpAny _ _ (binaryOp Operator.Add (Value.bytes _ _) (Value.bytes _ _)) _ _ _); k_dflt (refine' by_addS ?xq9 ?yq9 ?zq9 ?_; (case xq9 => walk_at "len"); (case yq9 => walk_at "len"); (case zq9 => decide)); intro _ _)
  k_with "S call" => first | (k_dflt (refine' CtS.use (prefix_b ?Q1q9 ?Q2q9) ?Bq9 ?Fq9 ?Xq9 ?Nq9 ?hlq9 ?Tq9 ?hkq9 ?hdq9 ?huq9 ?_; (case hlq9 => exact trivial); (case Q1q9 => assumption); (case Q2q9 => ((try simp only [List.size_toArray]); omega)); (case Fq9 => k_asm); (case Bq9 => k_asm); (case Xq9 => k_asm); (case Nq9 => k_asm); (case Tq9 => k_asm); (case hkq9 => first | exact rfl | assumption); (case hdq9 => ktr_room); (case huq9 => ktr_units)); intro r9 tl9 h9 tk9 F9 N9 O9 P9; obtain ⟨e9, t9, e8⟩ := P9; clear O9; subst e9 e8; simp only [List.nil_append] at N9; (try dsimp only); (try k_sweep))
  unfold CtS
  k_fill
  intro mean mg mb dp un gd cn cs a ccd cl outer A₀ base h₀ L m news s Q E B F X N hl T hk hd hu hret
  refine s_call ?_
  k_dflt walk_at "S enter"
  k_steps
  refine hret _ [] _ _ (by k_asm) (cb_drop (by k_asm) ?_) (fun _ _ _ hq => nomatch hq) ⟨rfl, _, rfl⟩
  kcj_all
theorem put_static {w : World} {p : Addr} {n : Int} {t1 t2 : Tok} (hn : 0 ≤ n ∧ n < 20000) : CtS w 89 [.ref p] 8 (fun news => (p, tupO [.str "static" t1, .int n t2]) ∈ news) (fun v tl => tl = [] ∧ ∃ t, v = .bytes (figs n 64 192).toArray t) := by
  k_with_none
  k_with "S enter" => (refine' codeS_defK ?k1q9 ?k2q9 ?k3q9 ?k4q9 ?k5q9 ?kAq9 ?kFq9 ?kKq9 ?k6q9 ?k7q9 ?k8q9 ?k9q9 ?kBq9 ?_ ?c2q9 ?c3q9 ?c4q9 ?c5q9; (case kAq9 => exact rfl); (case kFq9 => exact rfl); (case kKq9 => assumption); (case k1q9 => k_asm); (case k2q9 => k_asm); (case k3q9 => k_asm); (case k4q9 => k_asm); (case k5q9 => k_asm); (case k6q9 => k_is); (case k7q9 => k_is); (case k8q9 => ktr_room); (case k9q9 => exact BindsTo.of_eq rfl); (case c5q9 => decide); (case kBq9 => exact locs rfl); (case c2q9 => exact rfl); (case c3q9 => exact rfl); (case c4q9 => exact rfl); k_whole; intro g' L' h' FG' F' N' B' X' T'; (try dsimp only); (try k_lift B'); (try k_fold))
  k_with "Nx" => refine ⟨rfl, ?_⟩
  k_with "Kp" => (k_dflt (refine ⟨by k_is, ?_⟩))
  k_with "Ki" => (refine' ⟨Frag.In.keeps ?Xq9 (Fr.keep ?Fq9), ?_⟩; (case Fq9 => k_asm); (case Xq9 => assumption))
  k_with "Aft" => dsimp only [Aft]
  k_with "wpS" => (k_here; first | ((with_reducible show wpS _ _ (execs [Stmt.Return (some _) _] _) _ _ _); k_dflt (refine s_last ?_; refine s_Return ?_)) | ((with_reducible show wpS _ _ (execs (Stmt.If _ _ _ _ :: _) _) _ _ _); k_dflt (refine s_IfS ?_)) | ((with_reducible show wpS _ _ (execs [] _) _ _ _); k_dflt (refine s_execs_nil ?_)) | ((with_reducible show wpS _ _ (execs (_ :: _) _) _ _ _); k_dflt (refine s_leaf ?_)) | ((with_reducible show wpS _ _ (eval (Expr.BinOp _ Operator.Add _ _) _) _ _ _); k_dflt (refine s_BinOp ?_)) | ((with_reducible show wpS _ _ (eval (Expr.Call _ _ [] _) _) _ _ _); k_dflt (refine s_CallH ?_)) | ((with_reducible show wpS _ _ (eval _ _) _ _ _); k_dflt (refine s_any ?_)) | ((with_reducible show wpS _ _ (call (Value.ref _) _) _ _ _); walk_at "S call"))
  k_with "len" => first | exact figs_le | ((with_reducible show List.length (_ ++ _) ≤ _); exact app_le (by walk_at "len") (by walk_at "len")) | exact Nat.le_of_lt (show _ < 20000 by omega)
  k_with "binaryOp Add bytes bytes" => (k_here; (with_reducible show wpAny _ _ (binaryOp Operator.Add (Value.bytes _ _) (Value.bytes _ _)) _ _ _); k_dflt (refine' by_addS ?xq9 ?yq9 ?zq9 ?_; (case xq9 => walk_at "len"); (case yq9 => walk_at "len"); (case zq9 => decide)); intro _ _)
  k_with "S call" => first | (k_dflt (refine' CtS.use (prefix_b ?Q1q9 ?Q2q9) ?Bq9 ?Fq9 ?Xq9 ?Nq9 ?hlq9 ?Tq9 ?hkq9 ?hdq9 ?huq9 ?_; (case hlq9 => exact trivial); (case Q1q9 => assumption); (case Q2q9 => ((try simp only [List.size_toArray]); omega)); (case Fq9 => k_asm); (case Bq9 => k_asm); (case Xq9 => k_asm); (case Nq9 => k_asm); (case Tq9 => k_asm); (case hkq9 => first | exact rfl | assumption); (case hdq9 => ktr_room); (case huq9 => ktr_units)); intro r9 tl9 h9 tk9 F9 N9 O9 P9; obtain ⟨e9, t9, e8⟩ := P9; clear O9; subst e9 e8; simp only [List.nil_append] at N9; (try dsimp only); (try k_sweep))
  k_with "S call" => first | (k_dflt (refine' CtS.use (prefix_b (b := 3) (M := 8) ?Q1q9 ?Q2q9) ?Bq9 ?Fq9 ?Xq9 ?Nq9 ?hlq9 ?Tq9 ?hkq9 ?hdq9 ?huq9 ?_; (case hlq9 => exact trivial); (case Q1q9 => exact of_decide_eq_true rfl); (case Q2q9 => (first | omega | decide)); (case Fq9 => k_asm); (case Bq9 => k_asm); (case Xq9 => k_asm); (case Nq9 => k_asm); (case Tq9 => k_asm); (case hkq9 => first | exact rfl | assumption); (case hdq9 => ktr_room); (case huq9 => ktr_units)); intro r9 tl9 h9 tk9 F9 N9 O9 P9; obtain ⟨e9, t9, e8⟩ := P9; clear O9; subst e9 e8; simp only [List.nil_append] at N9; (try dsimp only); (try k_sweep)) | (k_dflt (refine' CtS.use (prefix_b (b := 4) (M := 16) ?Q1q9 ?Q2q9) ?Bq9 ?Fq9 ?Xq9 ?Nq9 ?hlq9 ?Tq9 ?hkq9 ?hdq9 ?huq9 ?_; (case hlq9 => exact trivial); (case Q1q9 => exact of_decide_eq_true rfl); (case Q2q9 => (first | omega | decide)); (case Fq9 => k_asm); (case Bq9 => k_asm); (case Xq9 => k_asm); (case Nq9 => k_asm); (case Tq9 => k_asm); (case hkq9 => first | exact rfl | assumption); (case hdq9 => ktr_room); (case huq9 => ktr_units)); intro r9 tl9 h9 tk9 F9 N9 O9 P9; obtain ⟨e9, t9, e8⟩ := P9; clear O9; subst e9 e8; simp only [List.nil_append] at N9; (try dsimp only); (try k_sweep)) | (k_dflt (refine' CtS.use (prefix_b (b := 5) (M := 32) ?Q1q9 ?Q2q9) ?Bq9 ?Fq9 ?Xq9 ?Nq9 ?hlq9 ?Tq9 ?hkq9 ?hdq9 ?huq9 ?_; (case hlq9 => exact trivial); (case Q1q9 => exact of_decide_eq_true rfl); (case Q2q9 => (first | omega | decide)); (case Fq9 => k_asm); (case Bq9 => k_asm); (case Xq9 => k_asm); (case Nq9 => k_asm); (case Tq9 => k_asm); (case hkq9 => first | exact rfl | assumption); (case hdq9 => ktr_room); (case huq9 => ktr_units)); intro r9 tl9 h9 tk9 F9 N9 O9 P9; obtain ⟨e9, t9, e8⟩ := P9; clear O9; subst e9 e8; simp only [List.nil_append] at N9; (try dsimp only); (try k_sweep)) | (k_dflt (refine' CtS.use (prefix_b (b := 6) (M := 64) ?Q1q9 ?Q2q9) ?Bq9 ?Fq9 ?Xq9 ?Nq9 ?hlq9 ?Tq9 ?hkq9 ?hdq9 ?huq9 ?_; (case hlq9 => exact trivial); (case Q1q9 => exact of_decide_eq_true rfl); (case Q2q9 => (first | omega | decide)); (case Fq9 => k_asm); (case Bq9 => k_asm); (case Xq9 => k_asm); (case Nq9 => k_asm); (case Tq9 => k_asm); (case hkq9 => first | exact rfl | assumption); (case hdq9 => ktr_room); (case huq9 => ktr_units)); intro r9 tl9 h9 tk9 F9 N9 O9 P9; obtain ⟨e9, t9, e8⟩ := P9; clear O9; subst e9 e8; simp only [List.nil_append] at N9; (try dsimp only); (try k_sweep)) | (k_dflt (refine' CtS.use (prefix_b (b := 7) (M := 128) ?Q1q9 ?Q2q9) ?Bq9 ?Fq9 ?Xq9 ?Nq9 ?hlq9 ?Tq9 ?hkq9 ?hdq9 ?huq9 ?_; (case hlq9 => exact trivial); (case Q1q9 => exact of_decide_eq_true rfl); (case Q2q9 => (first | omega | decide)); (case Fq9 => k_asm); (case Bq9 => k_asm); (case Xq9 => k_asm); (case Nq9 => k_asm); (case Tq9 => k_asm); (case hkq9 => first | exact rfl | assumption); (case hdq9 => ktr_room); (case huq9 => ktr_units)); intro r9 tl9 h9 tk9 F9 N9 O9 P9; obtain ⟨e9, t9, e8⟩ := P9; clear O9; subst e9 e8; simp only [List.nil_append] at N9; (try dsimp only); (try k_sweep)) | (k_dflt (refine' CtS.use (text_b (b := 3) (M := 8) ?Q1q9 ?Q2q9) ?Bq9 ?Fq9 ?Xq9 ?Nq9 ?hlq9 ?Tq9 ?hkq9 ?hdq9 ?huq9 ?_; (case hlq9 => exact trivial); (case Q1q9 => exact of_decide_eq_true rfl); (case Q2q9 => (first | omega | decide)); (case Fq9 => k_asm); (case Bq9 => k_asm); (case Xq9 => k_asm); (case Nq9 => k_asm); (case Tq9 => k_asm); (case hkq9 => first | exact rfl | assumption); (case hdq9 => ktr_room); (case huq9 => ktr_units)); intro r9 tl9 h9 tk9 F9 N9 O9 P9; obtain ⟨e9, t9, e8⟩ := P9; clear O9; subst e9 e8; simp only [List.nil_append] at N9; (try dsimp only); (try k_sweep)) | (k_dflt (refine' CtS.use (text_b (b := 4) (M := 16) ?Q1q9 ?Q2q9) ?Bq9 ?Fq9 ?Xq9 ?Nq9 ?hlq9 ?Tq9 ?hkq9 ?hdq9 ?huq9 ?_; (case hlq9 => exact trivial); (case Q1q9 => exact of_decide_eq_true rfl); (case Q2q9 => (first | omega | decide)); (case Fq9 => k_asm); (case Bq9 => k_asm); (case Xq9 => k_asm); (case Nq9 => k_asm); (case Tq9 => k_asm); (case hkq9 => first | exact rfl | assumption); (case hdq9 => ktr_room); (case huq9 => ktr_units)); intro r9 tl9 h9 tk9 F9 N9 O9 P9; obtain ⟨e9, t9, e8⟩ := P9; clear O9; subst e9 e8; simp only [List.nil_append] at N9; (try dsimp only); (try k_sweep)) | (k_dflt (refine' CtS.use (text_b (b := 5) (M := 32) ?Q1q9 ?Q2q9) ?Bq9 ?Fq9 ?Xq9 ?Nq9 ?hlq9 ?Tq9 ?hkq9 ?hdq9 ?huq9 ?_; (case hlq9 => exact trivial); (case Q1q9 => exact of_decide_eq_true rfl); (case Q2q9 => (first | omega | decide)); (case Fq9 => k_asm); (case Bq9 => k_asm); (case Xq9 => k_asm); (case Nq9 => k_asm); (case Tq9 => k_asm); (case hkq9 => first | exact rfl | assumption); (case hdq9 => ktr_room); (case huq9 => ktr_units)); intro r9 tl9 h9 tk9 F9 N9 O9 P9; obtain ⟨e9, t9, e8⟩ := P9; clear O9; subst e9 e8; simp only [List.nil_append] at N9; (try dsimp only); (try k_sweep)) | (k_dflt (refine' CtS.use (text_b (b := 6) (M := 64) ?Q1q9 ?Q2q9) ?Bq9 ?Fq9 ?Xq9 ?Nq9 ?hlq9 ?Tq9 ?hkq9 ?hdq9 ?huq9 ?_; (case hlq9 => exact trivial); (case Q1q9 => exact of_decide_eq_true rfl); (case Q2q9 => (first | omega | decide)); (case Fq9 => k_asm); (case Bq9 => k_asm); (case Xq9 => k_asm); (case Nq9 => k_asm); (case Tq9 => k_asm); (case hkq9 => first | exact rfl | assumption); (case hdq9 => ktr_room); (case huq9 => ktr_units)); intro r9 tl9 h9 tk9 F9 N9 O9 P9; obtain ⟨e9, t9, e8⟩ := P9; clear O9; subst e9 e8; simp only [List.nil_append] at N9; (try dsimp only); (try k_sweep)) | (k_dflt (refine' CtS.use (text_b (b := 7) (M := 128) ?Q1q9 ?Q2q9) ?Bq9 ?Fq9 ?Xq9 ?Nq9 ?hlq9 ?Tq9 ?hkq9 ?hdq9 ?huq9 ?_; (case hlq9 => exact trivial); (case Q1q9 => exact of_decide_eq_true rfl); (case Q2q9 => (first | omega | decide)); (case Fq9 => k_asm); (case Bq9 => k_asm); (case Xq9 => k_asm); (case Nq9 => k_asm); (case Tq9 => k_asm); (case hkq9 => first | exact rfl | assumption); (case hdq9 => ktr_room); (case huq9 => ktr_units)); intro r9 tl9 h9 tk9 F9 N9 O9 P9; obtain ⟨e9, t9, e8⟩ := P9; clear O9; subst e9 e8; simp only [List.nil_append] at N9; (try dsimp only); (try k_sweep))
  unfold CtS
  k_fill
  intro mean mg mb dp un gd cn cs a ccd cl outer A₀ base h₀ L m news s Q E B F X N hl T hk hd hu hret
  refine s_call ?_
  k_dflt walk_at "S enter"
  k_steps
  refine hret _ [] _ _ (by k_asm) (cb_drop (by k_asm) ?_) (fun _ _ _ hq => nomatch hq) ⟨rfl, _, rfl⟩
  kcj_all
theorem put_dynamic {w : World} {p : Addr} {n : Int} {t1 t2 : Tok} (hn : 0 ≤ n ∧ n < 20000) : CtS w 89 [.ref p] 8 (fun news => (p, tupO [.str "dynamic" t1, .int n t2]) ∈ news) (fun v tl => tl = [] ∧ ∃ t, v = .bytes (figs n 64 128).toArray t) := by
  unfold CtS
  k_fill
  intro mean mg mb dp un gd cn cs a ccd cl outer A₀ base h₀ L m news s Q E B F X N hl T hk hd hu hret
  refine s_call ?_
  k_dflt walk_at "S enter"
  k_steps
  refine hret _ [] _ _ (by k_asm) (cb_drop (by k_asm) ?_) (fun _ _ _ hq => nomatch hq) ⟨rfl, _, rfl⟩
  kcj_all
theorem put_post {w : World} {p : Addr} {n : Int} {t1 t2 : Tok} (hn : 0 ≤ n ∧ n < 20000) : CtS w 89 [.ref p] 8 (fun news => (p, tupO [.str "post" t1, .int n t2]) ∈ news) (fun v tl => tl = [] ∧ ∃ t, v = .bytes (figs n 16 16).toArray t) := by
  unfold CtS
  k_fill
  intro mean mg mb dp un gd cn cs a ccd cl outer A₀ base h₀ L m news s Q E B F X N hl T hk hd hu hret
  refine s_call ?_
  k_dflt walk_at "S enter"
  k_steps
  refine hret _ [] _ _ (by k_asm) (cb_drop (by k_asm) ?_) (fun _ _ _ hq => nomatch hq) ⟨rfl, _, rfl⟩
  kcj_all
theorem put_capacity {w : World} {p : Addr} {n : Int} {t1 t2 : Tok} (hn : 0 ≤ n ∧ n < 20000) : CtS w 103 [.ref p] 8 (fun news => (p, tupO [.str "capacity" t1, .int n t2]) ∈ news) (fun v tl => tl = [] ∧ ∃ t, v = .bytes (figs n 32 32).toArray t) := by
  unfold CtS
  k_fill
  intro mean mg mb dp un gd cn cs a ccd cl outer A₀ base h₀ L m news s Q E B F X N hl T hk hd hu hret
  refine s_call ?_
  k_dflt walk_at "S enter"
  k_steps
  refine hret _ [] _ _ (by k_asm) (cb_drop (by k_asm) ?_) (fun _ _ _ hq => nomatch hq) ⟨rfl, _, rfl⟩
  kcj_all
theorem put_duplicate {w : World} {p : Addr} {n : Int} {t1 t2 : Tok} (hn : 0 ≤ n ∧ n < 20000) : CtS w 103 [.ref p] 8 (fun news => (p, tupO [.str "duplicate" t1, .int n t2]) ∈ news) (fun v tl => tl = [] ∧ ∃ t, v = .bytes (figs n 32 0).toArray t) := by
  unfold CtS
  k_fill
  intro mean mg mb dp un gd cn cs a ccd cl outer A₀ base h₀ L m news s Q E B F X N hl T hk hd hu hret
  refine s_call ?_
  k_dflt walk_at "S enter"
  k_steps
  refine hret _ [] _ _ (by k_asm) (cb_drop (by k_asm) ?_) (fun _ _ _ hq => nomatch hq) ⟨rfl, _, rfl⟩
  kcj_all
theorem put_ack {w : World} {p : Addr} {n : Int} {t1 t2 : Tok} (hn : 0 ≤ n ∧ n < 20000) : CtS w 117 [.ref p] 8 (fun news => (p, tupO [.str "ack" t1, .int n t2]) ∈ news) (fun v tl => tl = [] ∧ ∃ t, v = .bytes (figs n 128 128).toArray t) := by
  unfold CtS
  k_fill
  intro mean mg mb dp un gd cn cs a ccd cl outer A₀ base h₀ L m news s Q E B F X N hl T hk hd hu hret
  refine s_call ?_
  k_dflt walk_at "S enter"
  k_steps
  refine hret _ [] _ _ (by k_asm) (cb_drop (by k_asm) ?_) (fun _ _ _ hq => nomatch hq) ⟨rfl, _, rfl⟩
  kcj_all
theorem put_cancel {w : World} {p : Addr} {n : Int} {t1 t2 : Tok} (hn : 0 ≤ n ∧ n < 20000) : CtS w 117 [.ref p] 8 (fun news => (p, tupO [.str "cancel" t1, .int n t2]) ∈ news) (fun v tl => tl = [] ∧ ∃ t, v = .bytes (figs n 64 64).toArray t) := by
  unfold CtS
  k_fill
  intro mean mg mb dp un gd cn cs a ccd cl outer A₀ base h₀ L m news s Q E B F X N hl T hk hd hu hret
  refine s_call ?_
  k_dflt walk_at "S enter"
  k_steps
  refine hret _ [] _ _ (by k_asm) (cb_drop (by k_asm) ?_) (fun _ _ _ hq => nomatch hq) ⟨rfl, _, rfl⟩
  kcj_all
theorem put_increment {w : World} {p : Addr} {n : Int} {t1 t2 : Tok} (hn : 0 ≤ n ∧ n < 20000) : CtS w 117 [.ref p] 8 (fun news => (p, tupO [.str "increment" t1, .int n t2]) ∈ news) (fun v tl => tl = [] ∧ ∃ t, v = .bytes (figs n 64 0).toArray t) := by
  unfold CtS
  k_fill
  intro mean mg mb dp un gd cn cs a ccd cl outer A₀ base h₀ L m news s Q E B F X N hl T hk hd hu hret
  refine s_call ?_
  k_dflt walk_at "S enter"
  k_steps
  refine hret _ [] _ _ (by k_asm) (cb_drop (by k_asm) ?_) (fun _ _ _ hq => nomatch hq) ⟨rfl, _, rfl⟩
  kcj_all
theorem put_insert_static {w : World} {p : Addr} {n : Int} {l : List UInt8} {t1 t2 t3 : Tok} (hn : 0 ≤ n ∧ n < 20000) (hl0 : l.length < 20000) : CtS w 103 [.ref p] 8 (fun news => (p, tupO [.str "insert_static" t1, .int n t2, .bytes l.toArray t3]) ∈ news) (fun v tl => tl = [] ∧ ∃ t, v = .bytes (figs n 64 192 ++ (figs l.length 128 0 ++ l)).toArray t) := by
  unfold CtS
  k_fill
  intro mean mg mb dp un gd cn cs a ccd cl outer A₀ base h₀ L m news s Q E B F X N hl T hk hd hu hret
  refine s_call ?_
  k_dflt walk_at "S enter"
  k_steps
  refine hret _ [] _ _ (by k_asm) (cb_drop (by k_asm) ?_) (fun _ _ _ hq => nomatch hq) ⟨rfl, _, rfl⟩
  kcj_all
theorem put_insert_dynamic {w : World} {p : Addr} {n : Int} {l : List UInt8} {t1 t2 t3 : Tok} (hn : 0 ≤ n ∧ n < 20000) (hl0 : l.length < 20000) : CtS w 103 [.ref p] 8 (fun news => (p, tupO [.str "insert_dynamic" t1, .int n t2, .bytes l.toArray t3]) ∈ news) (fun v tl => tl = [] ∧ ∃ t, v = .bytes (figs n 64 128 ++ (figs l.length 128 0 ++ l)).toArray t) := by
  unfold CtS
  k_fill
  intro mean mg mb dp un gd cn cs a ccd cl outer A₀ base h₀ L m news s Q E B F X N hl T hk hd hu hret
  refine s_call ?_
  k_dflt walk_at "S enter"
  k_steps
  refine hret _ [] _ _ (by k_asm) (cb_drop (by k_asm) ?_) (fun _ _ _ hq => nomatch hq) ⟨rfl, _, rfl⟩
  kcj_all
theorem put_insert_literal {w : World} {p : Addr} {l1 l : List UInt8} {t1 t2 t3 : Tok} (hn : l1.length < 20000) (hl0 : l.length < 20000) : CtS w 103 [.ref p] 8 (fun news => (p, tupO [.str "insert_literal" t1, .bytes l1.toArray t2, .bytes l.toArray t3]) ∈ news) (fun v tl => tl = [] ∧ ∃ t, v = .bytes (figs l1.length 32 64 ++ l1 ++ (figs l.length 128 0 ++ l)).toArray t) := by
  unfold CtS
  k_fill
  intro mean mg mb dp un gd cn cs a ccd cl outer A₀ base h₀ L m news s Q E B F X N hl T hk hd hu hret
  refine s_call ?_
  k_dflt walk_at "S enter"
  k_steps
  refine hret _ [] _ _ (by k_asm) (cb_drop (by k_asm) ?_) (fun _ _ _ hq => nomatch hq) ⟨rfl, _, rfl⟩
  kcj_all
theorem put_static_name {w : World} {p : Addr} {n : Int} {nv : Bool} {l : List UInt8} {t1 t2 t3 : Tok} (hn : 0 ≤ n ∧ n < 20000) (hl0 : l.length < 20000) : CtS w 89 [.ref p] 8 (fun news => (p, tupO [.str "static_name" t1, .int n t2, .bool nv, .bytes l.toArray t3]) ∈ news) (fun v tl => tl = [] ∧ ∃ t, v = .bytes (figs n 16 (if nv then 112 else 80) ++ (figs l.length 128 0 ++ l)).toArray t) := by
  unfold CtS
  k_fill
  intro mean mg mb dp un gd cn cs a ccd cl outer A₀ base h₀ L m news s Q E B F X N hl T hk hd hu hret
  refine s_call ?_
  k_dflt walk_at "S enter"
  cases nv
  all_goals k_steps
  · refine hret _ [] _ _ (by k_asm) (cb_drop (by k_asm) ?_) (fun _ _ _ hq => nomatch hq) ⟨rfl, _, rfl⟩
    kcj_all
  · refine hret _ [] _ _ (by k_asm) (cb_drop (by k_asm) ?_) (fun _ _ _ hq => nomatch hq) ⟨rfl, _, rfl⟩
    kcj_all
theorem put_dynamic_name {w : World} {p : Addr} {n : Int} {nv : Bool} {l : List UInt8} {t1 t2 t3 : Tok} (hn : 0 ≤ n ∧ n < 20000) (hl0 : l.length < 20000) : CtS w 89 [.ref p] 8 (fun news => (p, tupO [.str "dynamic_name" t1, .int n t2, .bool nv, .bytes l.toArray t3]) ∈ news) (fun v tl => tl = [] ∧ ∃ t, v = .bytes (figs n 16 (if nv then 96 else 64) ++ (figs l.length 128 0 ++ l)).toArray t) := by
  unfold CtS
  k_fill
  intro mean mg mb dp un gd cn cs a ccd cl outer A₀ base h₀ L m news s Q E B F X N hl T hk hd hu hret
  refine s_call ?_
  k_dflt walk_at "S enter"
  cases nv
  all_goals k_steps
  · refine hret _ [] _ _ (by k_asm) (cb_drop (by k_asm) ?_) (fun _ _ _ hq => nomatch hq) ⟨rfl, _, rfl⟩
    kcj_all
  · refine hret _ [] _ _ (by k_asm) (cb_drop (by k_asm) ?_) (fun _ _ _ hq => nomatch hq) ⟨rfl, _, rfl⟩
    kcj_all
theorem put_post_name {w : World} {p : Addr} {n : Int} {nv : Bool} {l : List UInt8} {t1 t2 t3 : Tok} (hn : 0 ≤ n ∧ n < 20000) (hl0 : l.length < 20000) : CtS w 89 [.ref p] 8 (fun news => (p, tupO [.str "post_name" t1, .int n t2, .bool nv, .bytes l.toArray t3]) ∈ news) (fun v tl => tl = [] ∧ ∃ t, v = .bytes (figs n 8 (if nv then 8 else 0) ++ (figs l.length 128 0 ++ l)).toArray t) := by
  unfold CtS
  k_fill
  intro mean mg mb dp un gd cn cs a ccd cl outer A₀ base h₀ L m news s Q E B F X N hl T hk hd hu hret
  refine s_call ?_
  k_dflt walk_at "S enter"
  cases nv
  all_goals k_steps
  · refine hret _ [] _ _ (by k_asm) (cb_drop (by k_asm) ?_) (fun _ _ _ hq => nomatch hq) ⟨rfl, _, rfl⟩
    kcj_all
  · refine hret _ [] _ _ (by k_asm) (cb_drop (by k_asm) ?_) (fun _ _ _ hq => nomatch hq) ⟨rfl, _, rfl⟩
    kcj_all
theorem put_literal {w : World} {p : Addr} {nv : Bool} {l1 l : List UInt8} {t1 t2 t3 : Tok} (hn : l1.length < 20000) (hl0 : l.length < 20000) : CtS w 89 [.ref p] 8 (fun news => (p, tupO [.str "literal" t1, .bytes l1.toArray t2, .bool nv, .bytes l.toArray t3]) ∈ news) (fun v tl => tl = [] ∧ ∃ t, v = .bytes (figs l1.length 8 (if nv then 48 else 32) ++ l1 ++ (figs l.length 128 0 ++ l)).toArray t) := by
  unfold CtS
  k_fill
  intro mean mg mb dp un gd cn cs a ccd cl outer A₀ base h₀ L m news s Q E B F X N hl T hk hd hu hret
  refine s_call ?_
  k_dflt walk_at "S enter"
  cases nv
  all_goals k_steps
  · refine hret _ [] _ _ (by k_asm) (cb_drop (by k_asm) ?_) (fun _ _ _ hq => nomatch hq) ⟨rfl, _, rfl⟩
    kcj_all
  · refine hret _ [] _ _ (by k_asm) (cb_drop (by k_asm) ?_) (fun _ _ _ hq => nomatch hq) ⟨rfl, _, rfl⟩
    kcj_all
end Mine
end
section
open PySem PySem.W PySem.Spec PySem.Calls PyProof.Rows
set_option Elab.async false
set_option maxRecDepth 100000
set_option maxHeartbeats 0
namespace Mine
/-- an exception of the class Short, without and with a dict of its own -/
abbrev excO (a0 : Value) : Obj := { cls := .ref 51, data := .fields #[a0, .none, .none, .none, .bool false, .none] }
abbrev excD (a0 : Value) (d : Addr) : Obj := { cls := .ref 51, dict := some d, data := .fields #[a0, .none, .none, .none, .bool false, .none] }
def shortNs (w : World) : Array DictEntry :=
  #[{ hash := PyData.keyHash w.params (Str.ofString "__module__"), key := Value.str (Str.ofString "__module__") 227, val := Value.str (Str.ofString "quic.errors") 187 },
    { hash := PyData.keyHash w.params (Str.ofString "__firstlineno__"), key := Value.str (Str.ofString "__firstlineno__") 231, val := Value.int 8 230 },
    { hash := PyData.keyHash w.params (Str.ofString "__init__"), key := Value.str (Str.ofString "__init__") 239, val := Value.ref 48 },
    { hash := PyData.keyHash w.params (Str.ofString "__static_attributes__"), key := Value.str (Str.ofString "__static_attributes__") 241, val := Value.ref 49 },
    { hash := PyData.keyHash w.params (Str.ofString "__weakref__"), key := Value.str (Str.ofString "__weakref__") 243, val := Value.ref 52 },
    { hash := PyData.keyHash w.params (Str.ofString "__doc__"), key := Value.str (Str.ofString "__doc__") 244, val := Value.none }]
abbrev shortCls : Obj := excClassObj (Str.ofString "Short") (Str.ofString "Short") 51 50 [Value.type "Exception"] [Value.type "Exception", Value.type "BaseException", Value.type "object"] true [] [] false none none
  (some (Value.ref 35)) none (some (Value.str (Str.ofString "Short") 220)) (some (Value.str (Str.ofString "Short") 228)) (some (Value.bool true)) "Exception.__new__"
theorem short_K (w : World) : PySem.Challenge.rw_nz0343_01 = PySem.Challenge.rw_nz0343_01 → ∀ h, (Mine.hd.heap_39 w.params).In h →
    h.get? 51 = some shortCls ∧ h.Ns 50 (fun x => nsFind (shortNs w) x) ∧ ∃ o, h.get? 48 = some o ∧ o.cls = .type "function" := by
  k_fill
  intro _ h X
  have hC := X 51 _ (by k_is)
  have hN := X 50 _ (by k_is)
  have hf := X 48 _ (by k_is)
  refine ⟨hC, ⟨_, shortNs w, 3, hN, rfl, ?_, fun _ => rfl⟩, _, hf, rfl⟩
  intro e he
  simp only [shortNs, List.mem_toArray, List.mem_cons, List.not_mem_nil, or_false] at he
  rcases he with rfl | rfl | rfl | rfl | rfl | rfl <;> exact ⟨_, _, rfl⟩
section
variable {w : World} {A : Around} {E : Value → Shared → Prop} {s : Shared} {h₀ : Heap} {L e : Addr} {m : Str → Option Value} {news : List (Addr × Obj)}
theorem excinit_N {t1 : Addr} {v : Value} {Q : Value → Shared → Prop} (X : (Mine.hd.heap_39 w.params).In s.heap) (F : Fr h₀ L s.heap m) (N : News h₀ L s.heap ((e, excO (.ref t1)) :: news)) (hap : ∀ p ∈ news, p.1 ≠ e)
    (h : ∀ t2 h', Fr h₀ L h' m → News h₀ L h' ((e, excO (.ref t2)) :: (t2, tupO [v]) :: news) → (∀ p ∈ (t2, tupO [v]) :: news, p.1 ≠ e) → Q .none { s with heap := h' }) :
    wpAny (model PySem.Challenge.rw_nz0343_01.row.prog w) A (call (.builtin "Exception.__init__") [.ref e, v]) Q E s := by
  have hC := (short_K w rfl _ X).1
  have he := (N _ (.head _)).1
  have hne := Nat.ne_of_lt (Heap.lt_size he)
  obtain ⟨hp, g, d, tk, os⟩ := s
  refine wpAny_call (codeAny_call_builtin PySem.F.excBase_Exception.init.plain PySem.F.excBase_Exception.initEntry (wpAny_check_init_sub PySem.F.excBase_Exception hC he rfl ?_))
  unfold Builtin.«BaseException.__init__»
  dsimp only
  rw [if_neg (by simp)]
  unfold newTuple Builtin.BaseException.bexcPut
  have he₁ := Heap.get?_push_of_some (h := hp) { cls := .type "tuple", data := .seq [v].toArray } he
  refine wpAny_bind (wpAny_newObj_type (wpAny_bind (wpAny_bind (wpAny_field he₁ rfl rfl (wpAny_bind (wpAny_setField he₁ rfl (by simp) ?_))))) (by show [v].toArray.size ≤ sizeLine; rw [sizeLine_eq]; simp))
  refine wpAny_letGo (wpAny_pure ?_)
  have F1 := F.push { cls := .type "tuple", data := .seq [v].toArray }
  have N1 := News.push F N { cls := .type "tuple", data := .seq [v].toArray }
  have N2 : News h₀ L (hp.push { cls := .type "tuple", data := .seq [v].toArray }) ((e, excO (.ref t1)) :: (hp.objs.size, tupO [v]) :: news) := fun p hp' => by
    rcases List.mem_cons.mp hp' with rfl | hp'
    · exact N1 _ (.tail _ (.head _))
    rcases List.mem_cons.mp hp' with rfl | hp'
    · exact N1 _ (.head _)
    · exact N1 _ (.tail _ (.tail _ hp'))
  have ap : ∀ p ∈ (hp.objs.size, tupO [v]) :: news, p.1 ≠ e := fun p hp' => by
    rcases List.mem_cons.mp hp' with rfl | hp'
    · exact (Ne.symm hne)
    · exact hap _ hp'
  have hs := Heap.SameBut.update (hp.push { cls := .type "tuple", data := .seq [v].toArray }) e (Obj.mapFields (·.setIfInBounds 0 (.ref hp.objs.size)))
  have hm := N2 _ (.head _)
  refine h hp.objs.size _ (F1.change hs hm.2.1 hm.2.2) (N2.setHead ap hs ?_) ap
  exact Heap.get?_update_self _ hm.1 rfl
theorem excset_N {t1 : Addr} {v : Value} {Q : Unit → Shared → Prop} (X : (Mine.hd.heap_39 w.params).In h₀) (F : Fr h₀ L s.heap m) (N : News h₀ L s.heap ((e, excO (.ref t1)) :: news)) (hap : ∀ p ∈ news, p.1 ≠ e)
    (h : ∀ d h' tk', Fr h₀ L h' m → News h₀ L h' ((e, excD (.ref t1) d) :: news) → Q () { s with heap := h', toks := tk' }) :
    wpAny (model PySem.Challenge.rw_nz0343_01.row.prog w) A (setAttr (.ref e) (Str.ofString "text") v) Q E s := by
  obtain ⟨hC, hn, _⟩ := short_K w rfl _ (X.keeps F.keep)
  have he := N _ (.head _)
  obtain ⟨hp, g, dr, tk, os⟩ := s
  have hx51 : e ≠ 51 := by
    rintro rfl
    have q := (short_K w rfl _ X).1
    rw [he.2.2] at q; cases q
  refine store_attr (mA := fun _ => none) (ns := []) PySem.F.store_Exception hC hn rfl rfl (by rw [typeLookup_type, builtinLookup_eq_fast]; kernel_rfl) hx51 ⟨_, he.1, rfl, (fun c q => by cases q), .inl ⟨rfl, fun _ => rfl⟩⟩
    (fun h' tk' I hk hsame => ?_) (fun y hy => absurd rfl hy)
  have kp : ∀ b o, b ≠ e → hp.get? b = some o → h'.get? b = some o := fun b o hb ho => hk b o hb (fun o₀ dx e0 e1 => by
    rw [he.1] at e0; cases e0; cases e1) ho
  obtain ⟨⟨oc, od, odt, osl⟩, ho1, hc1, hd1, hs1, hdict⟩ := hsame _ he.1
  dsimp only at hc1 hd1 hs1
  subst hc1 hd1 hs1
  obtain ⟨oi, hi, _, _, hii⟩ := I
  rw [ho1] at hi
  cases hi
  rcases hii with ⟨_, h0⟩ | ⟨d, hd, _⟩
  · have := h0 (Str.ofString "text"); simp at this
  · dsimp only at hd
    subst hd
    refine h d h' tk' ?_ fun p hp' => ?_
    · obtain ⟨oL, es, ep, hL, r⟩ := F.ns
      exact ⟨⟨oL, es, ep, kp _ _ (Ne.symm he.2.1) hL, r⟩, fun b o q => kp b o (fun z => by rw [z, he.2.2] at q; cases q) (F.keep b o q), F.above⟩
    · rcases List.mem_cons.mp hp' with rfl | hp'
      · exact ⟨ho1, he.2⟩
      · exact ⟨kp _ _ (hap _ hp') (N _ (.tail _ hp')).1, (N _ (.tail _ hp')).2⟩
end
end Mine
end
section
open PySem PySem.W PySem.Spec PySem.Calls PyProof.Rows
set_option Elab.async false
set_option maxRecDepth 100000
set_option maxHeartbeats 0
set_option rowWalk.seconds 3000
namespace Mine

theorem short_init {w : World} {txt : Str} {t : Tok} : ∀ (mean : ExcName → Option Value) (mg mb : Str → Option Value) (A : Around) (cn : Str) (cs : Scope) (a : Addr) (ccd : Value) (cl : List (Str × Addr)) (outer : List Env) (A₀ : Around) (base h₀ : Heap) (L : Addr) (m : Str → Option Value) (e t1 : Addr) (news : Led) (s : Shared) (Q E : Value → Shared → Prop),
    Below A₀ base outer h₀ → Fr h₀ L s.heap m → (Mine.hd.heap_39 w.params).In h₀ → News h₀ L s.heap ((e, excO (.ref t1)) :: news) → (∀ p ∈ news, p.1 ≠ e) →
    Top Mine.hd.view_39 (looseW Mine.hd.view_39 [Str.ofString "GREATEST"]) mean mg mb h₀ → cs.kind = .function → A.frames = some (envX cn cs L a ccd cl :: outer) → A.depth + 1 < recursionLimit → A.handled = none →
    (∀ d t2 h' tk', Fr h₀ L h' m → News h₀ L h' ((e, excD (.ref t2) d) :: (t2, tupO [.str txt t]) :: news) → Q .none { s with heap := h', toks := tk' }) →
    wpAny (model PySem.Challenge.rw_nz0343_01.row.prog w) A (call (.ref 48) [.ref e, .str txt t]) Q E s := by
  k_with_none
  k_with "D enter" => (refine' code_def ?k1q9 ?k2q9 ?k3q9 ?k4q9 ?k5q9 ?kAq9 ?kFq9 ?kKq9 ?k6q9 ?k7q9 ?k8q9 ?k9q9 ?kBq9 ?_ ?c2q9 ?c3q9 ?c4q9 ?c5q9; (case kAq9 => assumption); (case kFq9 => exact rfl); (case kKq9 => assumption); (case k1q9 => k_asm); (case k2q9 => k_asm); (case k3q9 => k_asm); (case k4q9 => k_asm); (case k5q9 => k_asm); (case k6q9 => k_is); (case k7q9 => k_is); (case k8q9 => omega); (case k9q9 => exact BindsTo.of_eq rfl); (case c5q9 => decide); (case kBq9 => exact locs rfl); (case c2q9 => exact rfl); (case c3q9 => exact rfl); (case c4q9 => exact rfl); k_whole; intro g' L' h' FG' F' N' B' X' T'; (try dsimp only); (try k_lift B'); (try k_fold))
  k_with "getMethod" => (k_here; (with_reducible show wpAny _ _ (getMethod (Value.type "Exception") _ _) _ _ _); k_dflt (refine' method_type (v := .builtin "Exception.__init__") ?Fq9 ?Xq9 ?aq9 ?bq9 ?cq9 ?dq9 ?_; (case Fq9 => k_asm); (case Xq9 => assumption); (case aq9 => first | rfl | kernel_rfl); (case bq9 => decide +kernel); (case cq9 => k_is); (case dq9 => decide +kernel)))
  k_fill
  intro mean mg mb A cn cs a ccd cl outer A₀ base h₀ L m e t1 news s Q E B F X N hap T hk hA hd hh hret
  refine wpAny_call ?_
  k_dflt walk_at "D enter"
  k_steps
  k_dflt (refine' excinit_N ?X ?F ?N ?H ?_; (case X => exact Frag.In.keeps (by assumption) (Fr.keep (by k_asm))); (case F => k_asm); (case N => k_asm); (case H => assumption))
  intro t9 h9 F9 N9 H9
  try dsimp only
  k_steps
  k_dflt (refine' excset_N ?X ?F ?N ?H ?_; (case X => assumption); (case F => k_asm); (case N => k_asm); (case H => assumption))
  intro d9 h9 tk9 F9 N9
  try dsimp only
  k_steps
  exact hret _ _ _ _ (by k_asm) (by k_asm)
/-- what a raise of a Short leaves -/
def Thrown (w : World) (E : Value → Shared → Prop) (v : Value) (s₁ : Shared) : Prop :=
  ∃ e a0 d, v = .ref e ∧ (Mine.hd.heap_39 w.params).In s₁.heap ∧ s₁.heap.get? e = some (excD a0 d) ∧ E (.ref e) s₁
section
variable {w : World} {A A₀ : Around} {E E' : Value → Shared → Prop} {s : Shared} {h₀ base : Heap} {L : Addr} {m mg mb : Str → Option Value} {news : List (Addr × Obj)} {mean : ExcName → Option Value} {cn : Str} {cs : Scope} {a : Addr} {ccd : Value} {cl : List (Str × Addr)} {outer : List Env}
theorem raise_own {env : Env} {x : Expr} {pos : Pos} {Q : Flow → Shared → Prop} (hh : A.handled = none) (h : wpAny (model PySem.Challenge.rw_nz0343_01.row.prog w) A (eval x env) (Thrown w E) E s) :
    wpAny (model PySem.Challenge.rw_nz0343_01.row.prog w) A (exec (.Raise (some x) none pos) env) Q E s := by
  rw [arm_exec_Raise]
  refine wpAny_bind (wpAny_standAt ?_)
  simp only [evalOpt, Option.map]
  have hcB : (Value.ref 51 :: [Value.type "Exception", Value.type "BaseException", Value.type "object"]).contains (.type "BaseException") = true := by decide +kernel
  unfold raiseStmt
  refine wpAny_bind (wpAny_bind (wpAny_mono h (fun v s₁ h₁ => wpAny_bind (wpAny_standAt (wpAny_pure ?_))) fun _ _ x => x))
  obtain ⟨e, a0, d, rfl, X, he, hE⟩ := h₁
  have hC := (short_K w rfl _ X).1
  obtain ⟨hp, g, d, tk, os⟩ := s₁
  repeat (first | with_reducible refine wpAny_loadPart_at he ?_ | with_reducible refine wpAny_loadPart_at hC ?_ | (with_reducible refine wpAny_isSubtype_exc hC ?_; rw [hcB]) | wp_step)
  exact wpAny_raiseNew_none hh hE
theorem short_new {txt : Str} {t : Tok} (B : Below A₀ base outer h₀) (F : Fr h₀ L s.heap m) (X : (Mine.hd.heap_39 w.params).In h₀) (N : News h₀ L s.heap news)
    (T : Top Mine.hd.view_39 (looseW Mine.hd.view_39 [Str.ofString "GREATEST"]) mean mg mb h₀) (hk : cs.kind = .function) (hA : A.frames = some (envX cn cs L a ccd cl :: outer)) (hd : A.depth + 2 < recursionLimit) (hh : A.handled = none)
    (h : ∀ e d t2 h' tk', Fr h₀ L h' m → News h₀ L h' [(e, excD (.ref t2) d), (t2, tupO [.str txt t])] → E (.ref e) { s with heap := h', toks := tk' }) :
    wpAny (model PySem.Challenge.rw_nz0343_01.row.prog w) A (call (.ref 51) [.str txt t]) (Thrown w E) E' s := by
  obtain ⟨hC, hn, o48, hf, hfc⟩ := short_K w rfl _ (X.keeps F.keep)
  obtain ⟨hp, g, dr, tk, os⟩ := s
  refine wpAny_call_exc_init PySem.F.excBase_Exception hC hn rfl hf hfc (fun h' e hm => ?_) (by rw [sizeLine_eq]; simp)
  obtain ⟨t1, ht, _, _⟩ := hm.there
  have F1 := F.keeps hm.keeps
  have ne1 : h₀.get? e = none := by
    cases q : h₀.get? e with
    | none => rfl
    | some o => have := F.keep _ _ q; rw [hm.new] at this; cases this
  have eL : e ≠ L := by
    rintro rfl
    obtain ⟨oL, _, _, hL, _⟩ := F.ns
    rw [hm.new] at hL; cases hL
  have N1 : News h₀ L h' [(e, excO (.ref t1))] := fun p hp' => by
    rcases List.mem_cons.mp hp' with rfl | hp'
    · exact ⟨ht, eL, ne1⟩
    · exact nomatch hp'
  refine short_init mean mg mb _ cn cs a ccd cl outer A₀ base h₀ L m e t1 [] ⟨h', g, dr, tk, os⟩ _ _ B F1 X N1 (fun _ q => nomatch q) T hk hA hd hh fun d t2 h2 tk2 F2 N2 => ?_
  exact ⟨rfl, e, _, _, rfl, X.keeps F2.keep, (N2 _ (.head _)).1, h _ _ _ _ _ F2 N2⟩
end
section
variable {M : Model} {A : Around} {E : Value → Shared → Prop} {s' : Shared} {base g h : Heap} {outer : List Env} {L a e t d : Addr} {m : Str → Option Value} {name : Str} {scope : Scope} {cd : Value} {Q : Unit → Shared → Prop}
theorem leave_newsS {vs : List Value} (K : Below A base outer g) (F : Fr g L s'.heap m) (N : News g L s'.heap [(e, excD (.ref t) d), (t, tupO vs)])
    (hQ : ∀ h', RaisedS base g outer e (.ref 51) t vs [] h' → g.UpToSlots h' → Q () { s' with heap := h' }) (hk : scope.kind = .function := by rfl) :
    wpAny M (A.deeper (envOf name scope L a cd)) (leaving (envOf name scope L a cd) (.ref e)) Q E s' := by
  have he := N _ (.head _)
  have ht := N _ (.tail _ (.head _))
  have K' := K.push (name := name) (a := a) (cd := cd) F hk
  have hin : ∀ env ∈ (envOf name scope L a cd :: outer), ∀ b, env.frame = some b → b ∈ (envOf name scope L a cd :: outer).filterMap (·.frame) := fun env he b hb => List.mem_filterMap.mpr ⟨env, he, hb⟩
  -- all but the frames, the exception and its arguments
  let fs := e :: t :: (envOf name scope L a cd :: outer).filterMap (·.frame)
  have nb : ∀ b o, base.get? b = some o → b ∉ fs := fun b o q hm => by
    rcases List.mem_cons.mp hm with rfl | hm
    · have := K.stays _ _ q; rw [he.2.2] at this; cases this
    rcases List.mem_cons.mp hm with rfl | hm
    · have := K.stays _ _ q; rw [ht.2.2] at this; cases this
    · rw [(K'.frames.mem hm).1] at q; cases q
  have st : base.StaysIn (hideAll s'.heap fs) := fun b o q => hideAll_get _ (K'.stays b o q) (nb b o q)
  have sg : ∀ b o, g.get? b = some o → b ∉ outer.filterMap (·.frame) → (hideAll s'.heap fs).get? b = some o := fun b o q nm => hideAll_get _ (F.keep b o q) fun hm => by
    rcases List.mem_cons.mp hm with rfl | hm
    · rw [he.2.2] at q; cases q
    rcases List.mem_cons.mp hm with rfl | hm
    · rw [ht.2.2] at q; cases q
    rcases kts_mem hm with z | z
    · rw [z, kts_self F] at q
      cases q
    · exact nm z
  have hen : (hideAll s'.heap fs).get? e = none := hideAll_none _ (.head _)
  have htn : (hideAll s'.heap fs).get? t = none := hideAll_none _ (.tail _ (.head _))
  have hfr : s'.heap.FunFrames (hideAll s'.heap fs) (envOf name scope L a cd :: outer) := funFrames_hide K'.frames fun env he b hb => .tail _ (.tail _ (hin env he b hb))
  refine wpAny_leaving_firstW (base := hideAll s'.heap fs) (a0 := .ref t) K'.stack hfr rfl he.1 (fun b o q => of_hideAll _ q) hen rfl rfl rfl fun h' hL => ?_
  obtain ⟨k1, ⟨_, _, k2⟩, k3, k4⟩ := hL
  exact hQ h' ⟨⟨hideAll s'.heap fs, st, sg, (fun q hq => by cases hq), ⟨k1, hen, k2, k3⟩, htn⟩, Heap.TupAt.of_slots ⟨_, _, ht.1, rfl, rfl⟩ k4⟩ ((Heap.UpToSlots.of_keeps F.keep).trans k4)
end
/-- a contract: it raises a Short -/
def CtX (w : World) (f : VAddr) (vs : List Value) (k : Nat) : Prop :=
  ∀ (mean : ExcName → Option Value) (mg mb : Str → Option Value) (dp un : Nat) (gd : Option (List Code)) (cn : Str) (cs : Scope) (a : Addr) (ccd : Value) (outer : List Env) (A₀ : Around) (base h₀ : Heap) (L : Addr) (m : Str → Option Value) (news : Led) (s : Shared) (Q E : Value → Shared → Prop),
    Below A₀ base outer h₀ → Fr h₀ L s.heap m → (Mine.hd.heap_39 w.params).In h₀ → News h₀ L s.heap news →
    Top Mine.hd.view_39 (looseW Mine.hd.view_39 [Str.ofString "GREATEST"]) mean mg mb h₀ → cs.kind = .function →
    dp + k < recursionLimit → un + 8 * k < cLine →
    (∀ (e t : Addr) (us : List Value) (g h' : Heap) (tk' : Nat), RaisedS base g (envOf cn cs L a ccd :: outer) e (.ref 51) t us [] h' → g.UpToSlots h' → Fr h₀ L g m → E (.ref e) { s with heap := h', toks := tk' }) →
    wpAny (model PySem.Challenge.rw_nz0343_01.row.prog w) (ktrTop dp un gd cn cs L a ccd [] outer) (call (.ref f) vs) Q E s
section
variable {w : World} {f : Addr} {vs : List Value} {k : Nat} {mean : ExcName → Option Value} {mg mb : Str → Option Value} {dp un : Nat} {gd : Option (List Code)} {cn : Str} {cs : Scope} {a : Addr} {ccd : Value} {outer : List Env} {A₀ : Around} {base h₀ : Heap} {L : Addr} {m : Str → Option Value} {news : Led} {s : Shared} {Q E : Value → Shared → Prop}
theorem CtX.use (C : CtX w f vs k) (B : Below A₀ base outer h₀) (F : Fr h₀ L s.heap m) (X : (Mine.hd.heap_39 w.params).In h₀) (N : News h₀ L s.heap news)
    (T : Top Mine.hd.view_39 (looseW Mine.hd.view_39 [Str.ofString "GREATEST"]) mean mg mb h₀) (hk : cs.kind = .function) (hd : dp + k < recursionLimit) (hu : un + 8 * k < cLine)
    (ret : ∀ (e t : Addr) (us : List Value) (g h' : Heap) (tk' : Nat), RaisedS base g (envOf cn cs L a ccd :: outer) e (.ref 51) t us [] h' → g.UpToSlots h' → Fr h₀ L g m → E (.ref e) { s with heap := h', toks := tk' }) :
    wpAny (model PySem.Challenge.rw_nz0343_01.row.prog w) (ktrTop dp un gd cn cs L a ccd [] outer) (call (.ref f) vs) Q E s := C _ _ _ _ _ _ _ _ _ _ _ _ _ _ _ _ _ _ _ _ B F X N T hk hd hu ret
end
end Mine
end
section
open PySem PySem.W PySem.Spec PySem.Calls PyProof.Rows
set_option Elab.async false
set_option maxRecDepth 100000
set_option maxHeartbeats 0
namespace Mine
/-- the octets of the figures behind the first, one by one -/
def dg (k : Int) : Nat → Int
  | 0 => if k < 128 then k else 128 + k % 128
  | 1 => if k < 16384 then k / 128 else 128 + k / 128 % 128
  | _ => k / 128 / 128
def tp (k : Int) : Nat := if k < 128 then 0 else if k < 16384 then 1 else 2
def lw (k : Int) : Nat → Int
  | 0 => 0
  | 1 => k % 128
  | _ => k % 16384
theorem tp_le (k : Int) : tp k ≤ 2 := by unfold tp; split <;> (try split) <;> omega
theorem tailF_tp (k : Int) : (tailF k).length = tp k + 1 := by unfold tailF tp; split <;> (try split) <;> simp
theorem tailF_at {k : Int} {i : Nat} (hi : i ≤ tp k) : (tailF k)[i]? = some (oct (dg k i)) := by
  have h2 := tp_le k
  have : i = 0 ∨ i = 1 ∨ i = 2 := by omega
  unfold tailF
  unfold tp at hi
  rcases this with rfl | rfl | rfl
  · simp only [dg]; split
    · rfl
    · split <;> rfl
  · simp only [dg]; split
    · rename_i q; rw [if_pos q] at hi; omega
    · split <;> rfl
  · simp only [dg]; split
    · rename_i q; rw [if_pos q] at hi; omega
    · rename_i q; rw [if_neg q] at hi
      split
      · rename_i q'; rw [if_pos q'] at hi; omega
      · rfl
theorem dg_facts {k : Int} {i : Nat} (hk : 0 ≤ k ∧ k < 20000) (hi : i ≤ tp k) : (0 ≤ dg k i ∧ dg k i < 256) ∧ (i < tp k → 128 ≤ dg k i) ∧ (i = tp k → dg k i < 128) ∧ (0 ≤ lw k i ∧ lw k i < 20000) ∧ ∃ wv, (dg k i % 128) * 2 ^ (7 * i) = wv ∧ (0 ≤ wv ∧ wv ≤ 20000) ∧ (i < tp k → lw k i + wv = lw k (i + 1)) ∧ (i = tp k → lw k i + wv = k) := by
  have h2 := tp_le k
  have ht : (k < 128 ∧ tp k = 0) ∨ (128 ≤ k ∧ k < 16384 ∧ tp k = 1) ∨ (16384 ≤ k ∧ tp k = 2) := by
    unfold tp
    by_cases q1 : k < 128
    · exact .inl ⟨q1, if_pos q1⟩
    · rw [if_neg q1]
      by_cases q2 : k < 16384
      · exact .inr (.inl ⟨by omega, q2, if_pos q2⟩)
      · exact .inr (.inr ⟨by omega, if_neg q2⟩)
  have : i = 0 ∨ i = 1 ∨ i = 2 := by omega
  clear h2
  rcases ht with ⟨h, e⟩ | ⟨h, h', e⟩ | ⟨h, e⟩ <;> rw [e] at hi ⊢ <;> rcases this with rfl | rfl | rfl <;> simp only [dg, lw]
  · rw [if_pos h]; clear hi e
    exact ⟨by omega, by omega, by omega, by omega, _, rfl, by omega, by omega, by omega⟩
  · omega
  · omega
  · rw [if_neg (by omega)]; clear hi e
    exact ⟨by omega, by omega, by omega, by omega, _, rfl, by omega, by omega, by omega⟩
  · rw [if_pos h']; clear hi e
    exact ⟨by omega, by omega, by omega, by omega, _, rfl, by omega, by omega, by omega⟩
  · omega
  · rw [if_neg (by omega)]; clear hi e
    exact ⟨by omega, by omega, by omega, by omega, _, rfl, by omega, by omega, by omega⟩
  · rw [if_neg (by omega)]; clear hi e
    exact ⟨by omega, by omega, by omega, by omega, _, rfl, by omega, by omega, by omega⟩
  · clear hi e
    exact ⟨by omega, by omega, by omega, by omega, _, rfl, by omega, by omega, by omega⟩
/-- the names of get_prefix in its loop -/
abbrev gpM (m : Str → Option Value) (f a sh : Value) : Str → Option Value := fun y => if y = Str.ofString "found" then some f else if y = Str.ofString "at" then some a else if y = Str.ofString "shift" then some sh else m y
theorem gp_nrm0 {m : Str → Option Value} {f a sh : Value} : (fun y => if y = Str.ofString "at" then some a else if y = Str.ofString "found" then some f else if y = Str.ofString "shift" then some sh else m y) = gpM m f a sh := by
  funext y
  by_cases h1 : y = Str.ofString "at"
  · subst h1; rfl
  · rw [if_neg h1]; simp only [gpM, if_neg h1]
theorem gp_nrm1 {m : Str → Option Value} {f a sh f' a' sh' : Value} : (fun y => if y = Str.ofString "at" then some a' else if y = Str.ofString "shift" then some sh' else if y = Str.ofString "found" then some f' else if y = Str.ofString "found" then some f else if y = Str.ofString "at" then some a else if y = Str.ofString "shift" then some sh else m y) = gpM m f' a' sh' := by
  funext y
  by_cases h1 : y = Str.ofString "shift"
  · subst h1; rfl
  by_cases h2 : y = Str.ofString "at"
  · subst h2; rfl
  by_cases h3 : y = Str.ofString "found"
  · subst h3; rfl
  simp only [gpM, if_neg h1, if_neg h2, if_neg h3]
theorem gp_ret {h₀ : Heap} {L : Addr} {m : Str → Option Value} {s : Shared} {Q : Value → Shared → Prop} {news led : Led} {n e x y : Int} {h' : Heap} {tk' : Nat} {D : Addr} {a b : Tok}
    (hret : ∀ (q : Addr) (u1 u2 : Tok) (h' : Heap) (tk' : Nat), Fr h₀ L h' m → News h₀ L h' ((q, tupO [.int n u1, .int e u2]) :: news) → Q (.ref q) { s with heap := h', toks := tk' })
    (F : Fr h₀ L h' m) (N : News h₀ L h' led) (hm : (D, tupO [.int x a, .int y b]) ∈ led) (hn : ∀ p ∈ news, p ∈ led) (ex : x = n) (ey : y = e) : Q (.ref D) { s with heap := h', toks := tk' } := by
  subst ex ey
  exact hret _ _ _ _ _ F fun p hp => by
    rcases List.mem_cons.mp hp with rfl | hp
    · exact N _ hm
    · exact N _ (hn _ hp)
end Mine
end
section
open PySem PySem.W PySem.Spec PySem.Calls PyProof.Rows
set_option Elab.async false
set_option maxRecDepth 100000
set_option maxHeartbeats 0
set_option rowWalk.seconds 3000
namespace Mine
theorem getp_core {w : World} {d : List UInt8} {p n b h M : Int} {t1 t2 t3 : Tok} (hB : Bits b M h) (hn : 0 ≤ n ∧ n < 20000) (hz : d.length ≤ 100000) (hp : 0 ≤ p) {A : Nat} (hA : 1 ≤ A ∧ A ≤ (figs n M h).length)
    (oc : ∀ j v, j < A → 0 ≤ v ∧ v < 256 → (figs n M h)[j]? = some (oct v) → Oc 0 d (p + (j : Int)) v) (hs : A < (figs n M h).length → (d.length : Int) = p + A) :
    ∀ (mean : ExcName → Option Value) (mg mb : Str → Option Value) (dp un : Nat) (gd : Option (List Code)) (cn : Str) (cs : Scope) (a : Addr) (ccd : Value) (cl : List (Str × Addr)) (outer : List Env) (A₀ : Around) (base h₀ : Heap) (L : Addr) (m : Str → Option Value) (news : Led) (s : Shared) (Q E : Value → Shared → Prop),
    Below A₀ base outer h₀ → Fr h₀ L s.heap m → (Mine.hd.heap_39 w.params).In h₀ → News h₀ L s.heap news →
    Top Mine.hd.view_39 (looseW Mine.hd.view_39 [Str.ofString "GREATEST"]) mean mg mb h₀ → cs.kind = .function →
    dp + 5 < recursionLimit → un + 8 * 5 < cLine → (A < (figs n M h).length → dp + 8 < recursionLimit ∧ un + 8 * 8 < cLine) → (A < (figs n M h).length → cl = []) →
    (A = (figs n M h).length → ∀ (q : Addr) (u1 u2 : Tok) (h' : Heap) (tk' : Nat), Fr h₀ L h' m → News h₀ L h' ((q, tupO [.int n u1, .int (p + (figs n M h).length) u2]) :: news) → Q (.ref q) { s with heap := h', toks := tk' }) →
    (A < (figs n M h).length → ∀ (e t : Addr) (us : List Value) (g h' : Heap) (tk' : Nat), RaisedS base g (envOf cn cs L a ccd :: outer) e (.ref 51) t us [] h' → g.UpToSlots h' → Fr h₀ L g m → E (.ref e) { s with heap := h', toks := tk' }) →
    wpAny (model PySem.Challenge.rw_nz0343_01.row.prog w) (ktrTop dp un gd cn cs L a ccd cl outer) (call (.ref 68) [.bytes d.toArray t1, .int p t2, .int b t3]) Q E s := by
  k_with_none
  k_with "call builtin:len" => (k_here; (with_reducible show wpAny _ _ (call (Value.builtin "len") [Value.bytes (List.toArray _) _]) _ _ _); (refine len_by (by omega) ?_); intro _ _)
  k_with "subscriptTail" => (k_here; (with_reducible show wpAny _ _ (subscriptTail _ _ (Value.bytes (List.toArray _) _) (Value.int _ _)) _ _ _); k_dflt (refine' by_at _ ?Oq9 ?eq9 ?fq9 ?_; (case Oq9 => assumption); (case eq9 => omega); (case fq9 => omega)); intro _ _)
  k_with "binaryOp BitAnd int int" => ((with_reducible show wpAny _ _ (binaryOp Operator.BitAnd (Value.int _ _) (Value.int _ _)) _ _ _); (first | refine int_and7 ?_ | refine int_and (by assumption) ?_); intro _ _)
  k_with "exec While Constant cons nil" => (k_here; k_dflt (refine whl_start 0 (Stop.of ?_)))
  k_with "WhlPost" => (refine Stop.of ?_)
  k_with "WhlIf" => first | (refine WhlIf.yes rfl ?_) | (refine WhlIf.yes (by simp only [decide_eq_true_eq]; omega) ?_) | (refine WhlIf.no (by simp only [decide_eq_false_iff_not]; omega) ?_)
  k_with "binaryOp LShift int int" => ((with_reducible show wpAny _ _ (binaryOp Operator.LShift (Value.int _ _) (Value.int _ _)) _ _ _); k_dflt (first | (refine' int_shl 0 ?aq9 ?bq9 ?cq9 rfl ?_; (case aq9 => omega); (case bq9 => decide); (case cq9 => omega)) | (refine' int_shl _ ?aq9 ?bq9 ?cq9 ?dq9 ?_; (case dq9 => assumption); (case aq9 => omega); (case bq9 => omega); (case cq9 => omega))); intro _ _)
  k_with "ite" => first | (refine iteY (by simp only [decide_eq_true_eq]; omega) ?_) | (refine iteN (by simp only [decide_eq_true_eq]; omega) ?_)
  k_with "exec Raise some none" => (k_here; k_dflt (refine raise_own rfl ?_))
  k_with "call ref" => ((with_reducible show wpAny _ _ (call (Value.ref 51) _) _ _ _); k_dflt (refine' short_new ?Bq9 ?Fq9 ?Xq9 ?Nq9 ?Tq9 ?hkq9 ?hAq9 ?hdq9 ?hhq9 ?_; (case hAq9 => exact rfl); (case hkq9 => exact rfl); (case Fq9 => k_asm); (case Bq9 => k_asm); (case Xq9 => k_asm); (case Nq9 => k_asm); (case Tq9 => k_asm); (case hdq9 => ktr_room); (case hhq9 => exact rfl)); intro e9 d9 t9 h9 tk9 F9 N9; (try dsimp only))
  k_with "leaving ref" => (k_here; (k_dflt (first | (refine' leave_newsS ?Kq9 ?Fq9 ?Nq9 ?_; (case Nq9 => k_asm); (case Fq9 => k_asm); (case Kq9 => k_asm)) | (refine' leave_onS ?Kq9 ?Fq9 ?Rq9 ?Uq9 ?_; (case Rq9 => assumption); (case Uq9 => assumption); (case Fq9 => assumption); (case Kq9 => assumption)))); intros; (try dsimp only))
  k_fill
  intro mean mg mb dp un gd cn cs a ccd cl outer A₀ base h₀ L m news s Q E B F X N T hk hd hu hd8 hcl hret hexc
  obtain ⟨hM, hb, hq, hh⟩ := hB
  obtain ⟨v, fo, hv, hv0, hfo, hc⟩ : ∃ v fo, (0 ≤ v ∧ v < 256) ∧ (figs n M h)[0]? = some (oct v) ∧ Builtin.bitAnd v (1 * 2 ^ b.toNat - 1) = fo ∧ ((n < M - 1 ∧ fo = n ∧ (figs n M h).length = 1) ∨ (M - 1 ≤ n ∧ fo = M - 1 ∧ figs n M h = oct (h + (M - 1)) :: tailF (n - (M - 1)))) := by
    have hbit : ∀ x, 0 ≤ x → x < M → Builtin.bitAnd (h + x) (1 * 2 ^ b.toNat - 1) = x := fun x h0 h1 => by
      rw [Int.one_mul, kbt_mask, hM, Int.add_emod, hq, Int.zero_add, Int.emod_emod_of_dvd _ (Int.dvd_refl _)]
      exact Int.emod_eq_of_lt h0 h1
    by_cases hc : n < M - 1
    · exact ⟨h + n, n, by omega, by rw [figs_0 hc]; rfl, hbit n hn.1 (by omega), .inl ⟨hc, rfl, by rw [figs_0 hc]; rfl⟩⟩
    · have e : figs n M h = oct (h + (M - 1)) :: tailF (n - (M - 1)) := if_neg hc
      exact ⟨h + (M - 1), M - 1, by omega, by rw [e]; rfl, hbit _ (by omega) (by omega), .inr ⟨by omega, rfl, e⟩⟩
  have A0 := oc 0 v (by omega) hv hv0
  have HL0 := A0.all
  refine wpAny_call ?_
  k_dflt (refine' code_def ?k1 ?k2 ?k3 ?k4 ?k5 ?kA ?kF ?kK ?k6 ?k7 ?k8 ?k9 ?kB ?_ ?c2 ?c3 ?c4 ?c5; (case kA => exact rfl); (case kF => exact rfl); (case kK => assumption); (case k1 => k_asm); (case k2 => k_asm); (case k3 => k_asm); (case k4 => k_asm); (case k5 => k_asm); (case k6 => k_is); (case k7 => k_is); (case k8 => ktr_room); (case k9 => exact BindsTo.of_eq rfl); (case c5 => decide); (case kB => exact locs rfl); (case c2 => exact rfl); (case c3 => exact rfl); (case c4 => exact rfl); k_whole; intro g' L' h' FG' F' N' B' X' T'; (try dsimp only); (try k_lift B'); (try k_fold))
  with_unfolding_all (change Fr _ _ _ (fun y => List.lookup y [(Str.ofString "bits", Value.int b t3), (Str.ofString "at", Value.int p t2), (Str.ofString "data", Value.bytes d.toArray t1)]) at F')
  k_steps
  · k_dflt (refine' gp_ret (hret ?r9) ?F9 ?N9 ?m9 ?h9 ?x9 ?y9; (case F9 => k_asm); (case N9 => k_asm); (case m9 => k_mem); (case h9 => kcj_all); (case r9 => omega); (case x9 => omega); (case y9 => omega))
  have hfig : M - 1 ≤ n ∧ fo = M - 1 ∧ figs n M h = oct (h + (M - 1)) :: tailF (n - (M - 1)) := by
    rcases hc with q | q
    · omega
    · exact q
  obtain ⟨hMn, rfl, hfg⟩ := hfig
  have hlen : (figs n M h).length = tp (n - (M - 1)) + 2 := by rw [hfg, List.length_cons, tailF_tp]
  refine Stop.mk ?_
  k_dflt (refine' whl_inv (I := fun i s' => ∃ vm f a9 sh u1 u2 u3, Fr g' L' s'.heap (gpM (fun y => if y = Str.ofString "most" then some vm else List.lookup y [(Str.ofString "bits", Value.int b t3), (Str.ofString "at", Value.int p t2), (Str.ofString "data", Value.bytes d.toArray t1)]) (.int f u1) (.int a9 u2) (.int sh u3)) ∧ News g' L' s'.heap news ∧ (f = M - 1 + lw (n - (M - 1)) i ∧ a9 = p + 1 + i ∧ sh = 7 * (i : Int)) ∧ s'.gens = s.gens ∧ s'.drawn = s.drawn ∧ s'.os = s.os) (min (tp (n - (M - 1))) (A - 1)) ?stp9 (min (tp (n - (M - 1))) (A - 1)) 0 _ (Nat.zero_add _) ?h09 0)
  case h09 => exact ⟨_, _, _, _, _, _, _, Fr.map (by k_asm) gp_nrm0, cb_drop (by k_asm) (by kcj_all), ⟨by simp [lw], by omega, by omega⟩, rfl, rfl, rfl⟩
  case stp9 =>
    intro i k s9 hi hI hk9
    obtain ⟨vm, f, a9, sh, u1, u2, u3, F9, N9, ⟨hf, ha, hsh⟩, e1, e2, e3⟩ := hI
    obtain ⟨h9, g9, d9, t9, o9⟩ := s9
    dsimp only at F9 N9 e1 e2 e3
    subst e1 e2 e3
    have hi2 : i ≤ tp (n - (M - 1)) := Nat.le_trans hi (Nat.min_le_left _ _)
    have hi3 : i ≤ A - 1 := Nat.le_trans hi (Nat.min_le_right _ _)
    have htp := tp_le (n - (M - 1))
    obtain ⟨hv9, hgt, hlt, hlw, wv, hwv, hwr, hnx, hend⟩ := dg_facts (k := n - (M - 1)) (by omega) hi2
    by_cases hA9 : i + 1 < A
    · have O9 := oc (i + 1) _ hA9 hv9 (by rw [hfg]; exact tailF_at hi2)
      have HL9 := O9.all
      k_steps
      · refine Stop.mk ?_
        dsimp only [WhlPost]
        k_steps
        k_dflt (refine' gp_ret (hret ?r9) ?F9 ?N9 ?m9 ?h9 ?x9 ?y9; (case F9 => k_asm); (case N9 => k_asm); (case m9 => k_mem); (case h9 => kcj_all); (case r9 => omega); (case x9 => omega); (case y9 => omega))
      · refine Stop.mk ?_
        dsimp only [WhlPost]
        exact hk9 _ _ (by omega) ⟨_, _, _, _, _, _, _, Fr.map (by k_asm) gp_nrm1, cb_drop (by k_asm) (by kcj_all), ⟨by omega, by omega, by omega⟩, rfl, rfl, rfl⟩
    · obtain rfl := hcl (by omega)
      obtain ⟨hd, hu⟩ := hd8 (by omega)
      have hs9 := hs (by omega)
      k_steps
      exact hexc (by omega) _ _ _ _ _ _ (by assumption) (by assumption) (by assumption)
end Mine
end
section
open PySem PySem.W PySem.Spec PySem.Calls PyProof.Rows
set_option Elab.async false
set_option maxRecDepth 100000
set_option maxHeartbeats 0
set_option rowWalk.seconds 3000
namespace Mine
theorem getp_x0 {w : World} {d : List UInt8} {p b : Int} {t1 t2 t3 : Tok} (hp : (d.length : Int) ≤ p) (hz : d.length ≤ 100000) : CtX w 68 [.bytes d.toArray t1, .int p t2, .int b t3] 8 := by
  k_with_none
  k_with "call builtin:len" => (k_here; (with_reducible show wpAny _ _ (call (Value.builtin "len") [Value.bytes (List.toArray _) _]) _ _ _); (refine len_by (by omega) ?_); intro _ _)
  k_with "ite" => first | (refine iteY (by simp only [decide_eq_true_eq]; omega) ?_) | (refine iteN (by simp only [decide_eq_true_eq]; omega) ?_)
  k_with "exec Raise some none" => (k_here; k_dflt (refine raise_own rfl ?_))
  k_with "call ref" => ((with_reducible show wpAny _ _ (call (Value.ref 51) _) _ _ _); k_dflt (refine' short_new ?Bq9 ?Fq9 ?Xq9 ?Nq9 ?Tq9 ?hkq9 ?hAq9 ?hdq9 ?hhq9 ?_; (case hAq9 => exact rfl); (case hkq9 => exact rfl); (case Fq9 => k_asm); (case Bq9 => k_asm); (case Xq9 => k_asm); (case Nq9 => k_asm); (case Tq9 => k_asm); (case hdq9 => ktr_room); (case hhq9 => exact rfl)); intro e9 d9 t9 h9 tk9 F9 N9; (try dsimp only))
  k_with "leaving ref" => (k_here; (k_dflt (first | (refine' leave_newsS ?Kq9 ?Fq9 ?Nq9 ?_; (case Nq9 => k_asm); (case Fq9 => k_asm); (case Kq9 => k_asm)) | (refine' leave_onS ?Kq9 ?Fq9 ?Rq9 ?Uq9 ?_; (case Rq9 => assumption); (case Uq9 => assumption); (case Fq9 => assumption); (case Kq9 => assumption)))); intros; (try dsimp only))
  unfold CtX
  k_fill
  intro mean mg mb dp un gd cn cs a ccd outer A₀ base h₀ L m news s Q E B F X N T hk hd hu hret
  refine wpAny_call ?_
  k_dflt cell_enter
  k_steps
  exact hret _ _ _ _ _ _ (by assumption) (by assumption) (by assumption)
theorem getp_b {w : World} {d : List UInt8} {p n b h M : Int} {t1 t2 t3 : Tok} (hB : Bits b M h) (hn : 0 ≤ n ∧ n < 20000) (hz : d.length ≤ 100000) (H : Has d p (figs n M h)) : CtT w 68 [.bytes d.toArray t1, .int p t2, .int b t3] 5 (fun _ => True) (fun v tl => ∃ q t1 t2, tl = [(q, tupO [.int n t1, .int (p + (figs n M h).length) t2])] ∧ v = .ref q) := by
  unfold CtT
  intro mean mg mb dp un gd cn cs a ccd cl outer A₀ base h₀ L m news s Q E B F X N hl T hk hd hu hret
  refine getp_core hB hn hz H.1 ⟨(figs_len n M h).1, Nat.le_refl _⟩ (fun j v _ hv hj => ?_) (fun q => absurd q (Nat.lt_irrefl _)) mean mg mb dp un gd cn cs a ccd cl outer A₀ base h₀ L m news s Q E B F X N T hk hd hu (fun q => absurd q (Nat.lt_irrefl _)) (fun q => absurd q (Nat.lt_irrefl _)) (fun _ q u1 u2 h' tk' F' N' => hret _ [_] h' tk' F' N' ⟨q, u1, u2, rfl, rfl⟩) (fun q => absurd q (Nat.lt_irrefl _))
  have O := H.at (k := 0) hj hv
  exact O
theorem getp_x {w : World} {d : List UInt8} {p n b h M : Int} {t1 t2 t3 : Tok} (hB : Bits b M h) (hn : 0 ≤ n ∧ n < 20000) (hz : d.length ≤ 100000) (hp : 0 ≤ p) {k : Nat} (hk : k < (figs n M h).length) (hd : d.drop p.toNat = (figs n M h).take k) : CtX w 68 [.bytes d.toArray t1, .int p t2, .int b t3] 8 := by
  have hlen := congrArg List.length hd
  rw [List.length_drop, List.length_take] at hlen
  rcases k with _ | k
  · exact getp_x0 (by omega) hz
  have HL : (d.length : Int) = p + ((k + 1 : Nat) : Int) := by omega
  unfold CtX
  intro mean mg mb dp un gd cn cs a ccd outer A₀ base h₀ L m news s Q E B F X N T hk' hd' hu hret
  refine getp_core hB hn hz hp (A := k + 1) ⟨by omega, by omega⟩ (fun j v hj hv hj' => ?_) (fun _ => HL) mean mg mb dp un gd cn cs a ccd [] outer A₀ base h₀ L m news s Q E B F X N T hk' (by omega) (by omega) (fun _ => ⟨hd', hu⟩) (fun _ => rfl) (fun q => absurd q (by omega)) (fun _ => hret)
  have H : Has d p ((figs n M h).take (k + 1)) := ⟨hp, by rw [hd, List.take_take, List.length_take]; congr 1; omega⟩
  refine H.at (k := 0) ?_ hv
  rw [List.getElem?_take, if_pos hj]
  exact hj'
end Mine
end
section
open PySem PySem.W PySem.Spec PySem.Calls PyProof.Rows
set_option Elab.async false
set_option maxRecDepth 100000
set_option maxHeartbeats 0
namespace Mine
theorem picked_list {d : List UInt8} {lo hi : Int} (h0 : 0 ≤ lo) (h1 : lo ≤ hi) (h2 : hi ≤ d.length) : KBy.picked d.toArray (some lo) (some hi) = ((d.drop lo.toNat).take (hi.toNat - lo.toNat)).toArray := by
  rw [KBc.picked_eq]
  simp only [Option.elim, List.size_toArray]
  have c : ∀ i : Int, 0 ≤ i → i ≤ d.length → clipAt d.length i = i.toNat := fun i a b => by
    unfold clipAt
    rw [if_neg (by omega), Int.min_eq_left b, Int.max_eq_right a]
  rw [c lo h0 (by omega), c hi (by omega) h2]
theorem picked_list0 {d : List UInt8} {hi : Int} (h1 : 0 ≤ hi) (h2 : hi ≤ d.length) : KBy.picked d.toArray none (some hi) = (d.take hi.toNat).toArray := by
  rw [KBc.picked_eq]
  simp only [Option.elim, List.size_toArray]
  have c : ∀ i : Int, 0 ≤ i → i ≤ d.length → clipAt d.length i = i.toNat := fun i a b => by
    unfold clipAt
    rw [if_neg (by omega), Int.min_eq_left b, Int.max_eq_right a]
  rw [c hi (by omega) h2]
  simp
section
variable {prog : Program} {w : World} {A : Around} {E : Value → Shared → Prop} {s : Shared} {value slice : PySem.Expr} {d r : List UInt8} {t : Tok} {h₀ : Heap} {L : Addr} {m : PySem.Str → Option Value} {news : List (Addr × Obj)} {lo hi : Int} {tl tu : Tok} {Q : Value → Shared → Prop}
theorem by_slice (hF : Fr h₀ L s.heap m) (hN : News h₀ L s.heap news) (h0 : 0 ≤ lo) (h1 : lo ≤ hi) (h2 : hi ≤ d.length) (hz : d.length ≤ 100000) (hr : (d.drop lo.toNat).take (hi.toNat - lo.toNat) = r)
    (h : ∀ h' t' k, Fr h₀ L h' m → News h₀ L h' news → Q (.bytes r.toArray t') { s with heap := h', toks := k })
    (hs : subscripted slice false (.bytes d.toArray t) (.ref s.heap.objs.size) = operate [.ref s.heap.objs.size, .bytes d.toArray t] (getItem (.bytes d.toArray t) (.ref s.heap.objs.size)) := by with_unfolding_all rfl)
    (ht : ∀ r, letTemporaryGo value (.bytes d.toArray t) r = pure () := by intro _; with_unfolding_all rfl) :
    wpAny (model prog w) A (subscriptTail value slice (.bytes d.toArray t) (.ref s.heap.objs.size)) Q E { s with heap := s.heap.push { cls := .type "slice", data := .fields #[.int lo tl, .int hi tu, .none] } } := by
  refine KBc.slice_K (ks := KBw.bInts d.toArray) hF hN rfl (.int lo tl) (.int hi tu) ?_ (fun h' t' k F' N' _ => ?_) hs ht
  · rw [KBw.ints_length, List.size_toArray]; omega
  · rw [picked_list h0 h1 h2, hr]; exact h _ _ _ F' N'
theorem by_slice0 (hF : Fr h₀ L s.heap m) (hN : News h₀ L s.heap news) (h1 : 0 ≤ hi) (h2 : hi ≤ d.length) (hz : d.length ≤ 100000)
    (h : ∀ h' t' k, Fr h₀ L h' m → News h₀ L h' news → Q (.bytes (d.take hi.toNat).toArray t') { s with heap := h', toks := k })
    (hs : subscripted slice false (.bytes d.toArray t) (.ref s.heap.objs.size) = operate [.ref s.heap.objs.size, .bytes d.toArray t] (getItem (.bytes d.toArray t) (.ref s.heap.objs.size)) := by with_unfolding_all rfl)
    (ht : ∀ r, letTemporaryGo value (.bytes d.toArray t) r = pure () := by intro _; with_unfolding_all rfl) :
    wpAny (model prog w) A (subscriptTail value slice (.bytes d.toArray t) (.ref s.heap.objs.size)) Q E { s with heap := s.heap.push { cls := .type "slice", data := .fields #[.none, .int hi tu, .none] } } := by
  refine KBc.slice_K (ks := KBw.bInts d.toArray) hF hN rfl .none (.int hi tu) ?_ (fun h' t' k F' N' _ => ?_) hs ht
  · rw [KBw.ints_length, List.size_toArray]; omega
  · rw [picked_list0 h1 h2]; exact h _ _ _ F' N'
theorem int_shr {a c : Int} {k : Int} {u : Tok} (hk : 0 ≤ k) (hc : a / 2 ^ k.toNat = c) (h : ∀ t' k', Q (.int c t') { s with toks := k' }) : wpAny (model prog w) A (binaryOp .RShift (.int a t) (.int k u)) Q E s :=
  rshift_int hk (by rw [Int.fdiv_eq_ediv_of_nonneg _ (Int.le_of_lt (Int.pow_pos (by decide))), hc]; exact h _ _)
end
theorem figs_first {n b M h : Int} (hB : Bits b M h) (hn : 0 ≤ n) : ∃ v l, figs n M h = oct v :: l ∧ 0 ≤ v ∧ v < 256 ∧ h ≤ v ∧ v < h + M ∧ v / 2 ^ b.toNat = h / M := by
  obtain ⟨hM, hb, hq, hh⟩ := hB
  have key : ∀ x, 0 ≤ x → x < M → (h + x) / 2 ^ b.toNat = h / M := fun x h0 h1 => by
    rw [hM, Int.add_ediv_of_dvd_left (Int.dvd_of_emod_eq_zero hq), Int.ediv_eq_zero_of_lt h0 h1, Int.add_zero]
  unfold figs
  split
  · exact ⟨h + n, [], rfl, by omega, by omega, by omega, by omega, key n hn (by omega)⟩
  · exact ⟨h + (M - 1), _, rfl, by omega, by omega, by omega, by omega, key _ (by omega) (by omega)⟩
theorem Has.left {d x y : List UInt8} {p : Int} (H : Has d p (x ++ y)) : Has d p x := ⟨H.1, by
  have := congrArg (List.take x.length) H.2
  rwa [List.take_take, List.length_append, Nat.min_eq_left (by omega), List.take_left'] at this
  rfl⟩
theorem Has.right {d x y : List UInt8} {p : Int} (H : Has d p (x ++ y)) : Has d (p + x.length) y := ⟨by have := H.1; omega, by
  have := congrArg (List.drop x.length) H.2
  rw [List.drop_left' rfl, List.drop_take, List.drop_drop, List.length_append] at this
  have h0 := H.1
  rwa [show (p + (x.length : Int)).toNat = p.toNat + x.length by omega, show y.length = x.length + y.length - x.length by omega]⟩
/-- d breaks off within l, from p on -/
def Brk (d : List UInt8) (p : Int) (l : List UInt8) : Prop := 0 ≤ p ∧ ∃ k, k < l.length ∧ d.drop p.toNat = l.take k
theorem Brk.le {d l : List UInt8} {p : Int} (B : Brk d p l) : (d.length : Int) < p + l.length := by
  obtain ⟨h0, k, hk, e⟩ := B
  have := congrArg List.length e
  rw [List.length_drop, List.length_take] at this
  omega
/-- a break in two parts: in the first, or the first is whole and the break is in the second -/
theorem Brk.split {d x y : List UInt8} {p : Int} (B : Brk d p (x ++ y)) : Brk d p x ∨ (Has d p x ∧ Brk d (p + x.length) y) := by
  obtain ⟨h0, k, hk, e⟩ := B
  rw [List.length_append] at hk
  rcases Nat.lt_or_ge k x.length with hx | hx
  · exact .inl ⟨h0, k, hx, by rw [e, List.take_append_of_le_length (by omega)]⟩
  · refine .inr ⟨⟨h0, ?_⟩, by omega, k - x.length, by omega, ?_⟩
    · rw [e, List.take_take, Nat.min_eq_left hx, List.take_left' rfl]
    · rw [show (p + (x.length : Int)).toNat = p.toNat + x.length by omega, ← List.drop_drop, e, List.take_append, List.drop_append]
      simp [List.take_of_length_le hx]
theorem pairB {D : Addr} {l : List UInt8} {y e : Int} {a b : Tok} (ey : y = e) : ∃ q t1 t2, [((D, tupO [.bytes l.toArray a, .int y b]) : Addr × Obj)] = [(q, tupO [.bytes l.toArray t1, .int e t2])] ∧ Value.ref D = Value.ref q := by
  subst ey
  exact ⟨_, _, _, rfl, rfl⟩
end Mine
end
section
open PySem PySem.W PySem.Spec PySem.Calls PyProof.Rows
set_option Elab.async false
set_option maxRecDepth 100000
set_option maxHeartbeats 0
set_option rowWalk.seconds 3000
namespace Mine
section
theorem textG_b {w : World} {d l : List UInt8} {p b h M : Int} {t1 t2 t3 : Tok} (hB : Bits b M h) (hev : h / M % 2 = 0) (hn : l.length < 20000) (hz : d.length ≤ 100000) (H : Has d p (figs l.length M h ++ l)) : CtT w 82 [.bytes d.toArray t1, .int p t2, .int b t3] 7 (fun _ => True) (fun v tl => ∃ q t1 t2, tl = [(q, tupO [.bytes l.toArray t1, .int (p + (figs l.length M h ++ l).length) t2])] ∧ v = .ref q) := by
  k_with_none
  k_with "subscriptTail" => (k_here; (with_reducible show wpAny _ _ (subscriptTail _ _ (Value.bytes (List.toArray _) _) (Value.int _ _)) _ _ _); k_dflt (first | (refine' by_at 0 ?Oq9 ?eq9 ?fq9 ?_; (case Oq9 => assumption); (case eq9 => omega); (case fq9 => omega))); intro _ _)
  k_with "call builtin:len" => (k_here; (with_reducible show wpAny _ _ (call (Value.builtin "len") [Value.bytes (List.toArray _) _]) _ _ _); (refine len_by (by omega) ?_); intro _ _)
  k_with "ite" => first | (refine iteY (by simp only [decide_eq_true_eq]; omega) ?_) | (refine iteN (by simp only [decide_eq_true_eq]; omega) ?_)
  k_with "binaryOp BitAnd int int" => ((with_reducible show wpAny _ _ (binaryOp Operator.BitAnd (Value.int _ _) (Value.int _ _)) _ _ _); (first | refine int_and7 ?_ | refine int_and (by assumption) ?_); intro _ _)
  k_with "binaryOp RShift int int" => ((with_reducible show wpAny _ _ (binaryOp Operator.RShift (Value.int _ _) (Value.int _ _)) _ _ _); k_dflt (refine' int_shr ?aq9 ?cq9 ?_; (case aq9 => omega); (case cq9 => assumption)); intro _ _)
  k_with "subscriptTail" => (k_here; (with_reducible show wpAny _ _ (subscriptTail _ (Expr.Slice _ _ none _) (Value.bytes _ _) (Value.ref _)) _ _ _); k_dflt (refine' by_slice (s := ⟨_, _, _, _, _⟩) ?Fq9 ?Nq9 ?aq9 ?bq9 ?cq9 ?zq9 ?rq9 ?_; (case Fq9 => assumption); (case Nq9 => assumption); (case aq9 => omega); (case bq9 => omega); (case cq9 => omega); (case zq9 => omega); (case rq9 => assumption)); intro h9 t9 k9 F9 N9)
  k_with "call type:bytes" => (k_here; (with_reducible show wpAny _ _ (call (Value.type "bytes") [Value.bytes _ _]) _ _ _); k_dflt (refine by_of_by ?_))
  k_with "call ref" => (k_here; first | ((with_reducible show wpAny _ _ (call (Value.ref 68) _) _ _ _); k_dflt (refine' CtT.use (getp_b ?Q1q9 ?Q2q9 ?Q3q9 ?Q4q9) ?Bq9 ?Fq9 ?Xq9 ?Nq9 ?hlq9 ?Tq9 ?hkq9 ?hdq9 ?huq9 ?_; (case hlq9 => exact trivial); (case Q4q9 => assumption); (case Q1q9 => assumption); (case Q2q9 => omega); (case Q3q9 => omega); (case Fq9 => k_asm); (case Bq9 => k_asm); (case Xq9 => k_asm); (case Nq9 => k_asm); (case Tq9 => k_asm); (case hkq9 => first | exact rfl | assumption); (case hdq9 => ktr_room); (case huq9 => ktr_units)); intro r9 tl9 h9 tk9 F9 N9 P9; obtain ⟨q9, a9, b9, e9, e8⟩ := P9; subst e9 e8; simp only [List.cons_append, List.nil_append] at N9; (try dsimp only); (try k_sweep)))
  have H1 := H.left
  have H2 := H.right
  have H0 := H.1
  have HB := hB
  obtain ⟨hM, hb, hq, hh⟩ := hB
  have h4 := figs_len l.length M h
  have HL := H.len (by intro e; have := congrArg List.length e; rw [List.length_append, List.length_nil] at this; omega)
  rw [List.length_append] at HL
  obtain ⟨v, tl, hv, v0, v1, v2, v3, v4⟩ := figs_first HB (n := l.length) (by omega)
  have A0 : Oc 0 d (p + (0 : Nat)) v := H1.at (k := 0) (j := 0) (by rw [hv]; rfl) ⟨v0, v1⟩
  have hm : Builtin.bitAnd (h / M) 1 = 0 := by have := kbt_mask (h / M) 1; simpa [hev] using this
  have HS : (d.drop (p + (figs l.length M h).length).toNat).take ((p + (figs l.length M h).length + l.length).toNat - (p + (figs l.length M h).length).toNat) = l := by
    have := H2.2
    rwa [show (p + ((figs l.length M h).length : Int) + l.length).toNat - (p + ((figs l.length M h).length : Int)).toNat = l.length by omega]
  clear hv
  unfold CtT
  k_fill
  intro mean mg mb dp un gd cn cs a ccd cl outer A₀ base h₀ L m news s Q E B F X N hl T hk hd hu hret
  refine wpAny_call ?_
  k_dflt cell_enter
  k_steps
  k_dflt (refine' ret1 hret ?F ?N ?m ?h ?O; (case F => k_asm); (case N => k_asm); (case m => k_mem); (case h => kcj_all); (case O => exact pairB (by rw [List.length_append]; omega)))
end
theorem getp_k {w : World} {d : List UInt8} {p n b h M : Int} {t1 t2 t3 : Tok} (hB : Bits b M h) (hn : 0 ≤ n ∧ n < 20000) (hz : d.length ≤ 100000) (K : Brk d p (figs n M h)) : CtX w 68 [.bytes d.toArray t1, .int p t2, .int b t3] 8 := by
  obtain ⟨h0, k, hk, e⟩ := K
  exact getp_x hB hn hz h0 hk e
section
theorem text_x1 {w : World} {d : List UInt8} {p n b h M : Int} {t1 t2 t3 : Tok} (hB : Bits b M h) (hev : h / M % 2 = 0) (hn : 0 ≤ n ∧ n < 20000) (hz : d.length ≤ 100000) (H1 : Brk d p (figs n M h)) : CtX w 82 [.bytes d.toArray t1, .int p t2, .int b t3] 9 := by
  k_with_none
  k_with "subscriptTail" => (k_here; (with_reducible show wpAny _ _ (subscriptTail _ _ (Value.bytes (List.toArray _) _) (Value.int _ _)) _ _ _); k_dflt (first | (refine' by_at 0 ?Oq9 ?eq9 ?fq9 ?_; (case Oq9 => assumption); (case eq9 => omega); (case fq9 => omega))); intro _ _)
  k_with "call builtin:len" => (k_here; (with_reducible show wpAny _ _ (call (Value.builtin "len") [Value.bytes (List.toArray _) _]) _ _ _); (refine len_by (by omega) ?_); intro _ _)
  k_with "ite" => first | (refine iteY (by simp only [decide_eq_true_eq]; omega) ?_) | (refine iteN (by simp only [decide_eq_true_eq]; omega) ?_)
  k_with "binaryOp BitAnd int int" => ((with_reducible show wpAny _ _ (binaryOp Operator.BitAnd (Value.int _ _) (Value.int _ _)) _ _ _); (first | refine int_and7 ?_ | refine int_and (by assumption) ?_); intro _ _)
  k_with "binaryOp RShift int int" => ((with_reducible show wpAny _ _ (binaryOp Operator.RShift (Value.int _ _) (Value.int _ _)) _ _ _); k_dflt (refine' int_shr ?aq9 ?cq9 ?_; (case aq9 => omega); (case cq9 => assumption)); intro _ _)
  k_with "exec Raise some none" => (k_here; k_dflt (refine raise_own rfl ?_))
  k_with "call ref" => ((with_reducible show wpAny _ _ (call (Value.ref 51) _) _ _ _); k_dflt (refine' short_new ?Bq9 ?Fq9 ?Xq9 ?Nq9 ?Tq9 ?hkq9 ?hAq9 ?hdq9 ?hhq9 ?_; (case hAq9 => exact rfl); (case hkq9 => exact rfl); (case Fq9 => k_asm); (case Bq9 => k_asm); (case Xq9 => k_asm); (case Nq9 => k_asm); (case Tq9 => k_asm); (case hdq9 => ktr_room); (case hhq9 => exact rfl)); intro e9 d9 t9 h9 tk9 F9 N9; (try dsimp only))
  k_with "leaving ref" => (k_here; (k_dflt (first | (refine' leave_newsS ?Kq9 ?Fq9 ?Nq9 ?_; (case Nq9 => k_asm); (case Fq9 => k_asm); (case Kq9 => k_asm)) | (refine' leave_onS ?Kq9 ?Fq9 ?Rq9 ?Uq9 ?_; (case Rq9 => assumption); (case Uq9 => assumption); (case Fq9 => assumption); (case Kq9 => assumption)))); intros; (try dsimp only))
  k_with "call ref" => (k_here; first | ((with_reducible show wpAny _ _ (call (Value.ref 68) _) _ _ _); k_dflt (refine' CtX.use (getp_k ?Q1q9 ?Q2q9 ?Q3q9 ?Q4q9) ?Bq9 ?Fq9 ?Xq9 ?Nq9 ?Tq9 ?hkq9 ?hdq9 ?huq9 ?_; (case Q4q9 => assumption); (case Q1q9 => assumption); (case Q2q9 => omega); (case Q3q9 => omega); (case Fq9 => k_asm); (case Bq9 => k_asm); (case Xq9 => k_asm); (case Nq9 => k_asm); (case Tq9 => k_asm); (case hkq9 => first | exact rfl | assumption); (case hdq9 => ktr_room); (case huq9 => ktr_units)); intros; (try dsimp only)))
  have H0 := H1.1
  have HB := hB
  obtain ⟨hM, hb, hq, hh⟩ := hB
  obtain ⟨v, tl, hv, v0, v1, v2, v3, v4⟩ := figs_first HB (n := n) (by omega)
  have hc : (d.length : Int) ≤ p ∨ (p < d.length ∧ Oc 0 d (p + (0 : Nat)) v) := by
    obtain ⟨_, k, hk, e⟩ := H1
    rcases k with _ | k
    · have := congrArg List.length e
      rw [List.length_drop, List.length_take] at this
      exact .inl (by omega)
    · have H : Has d p ((figs n M h).take (k + 1)) := ⟨H0, by rw [e, List.take_take, List.length_take]; congr 1; omega⟩
      have A0 : Oc 0 d (p + (0 : Nat)) v := H.at (k := 0) (j := 0) (by rw [hv]; rfl) ⟨v0, v1⟩
      exact .inr ⟨by have := A0.all; omega, A0⟩
  have hm : Builtin.bitAnd (h / M) 1 = 0 := by have := kbt_mask (h / M) 1; simpa [hev] using this
  clear hv
  rcases hc with hc | ⟨hc, A0⟩
  · unfold CtX; k_fill; intro mean mg mb dp un gd cn cs a ccd outer A₀ base h₀ L m news s Q E B F X N T hk hd hu hret; refine wpAny_call ?_; k_dflt cell_enter; k_steps; exact hret _ _ _ _ _ _ (by assumption) (by assumption) (by assumption)
  · unfold CtX; k_fill; intro mean mg mb dp un gd cn cs a ccd outer A₀ base h₀ L m news s Q E B F X N T hk hd hu hret; refine wpAny_call ?_; k_dflt cell_enter; k_steps; exact hret _ _ _ _ _ _ (by assumption) (by assumption) (by assumption)
end
section
theorem text_x2 {w : World} {d l : List UInt8} {p b h M : Int} {t1 t2 t3 : Tok} (hB : Bits b M h) (hev : h / M % 2 = 0) (hn : l.length < 20000) (hz : d.length ≤ 100000) (H1 : Has d p (figs l.length M h)) (H2 : Brk d (p + (figs l.length M h).length) l) : CtX w 82 [.bytes d.toArray t1, .int p t2, .int b t3] 9 := by
  k_with_none
  k_with "subscriptTail" => (k_here; (with_reducible show wpAny _ _ (subscriptTail _ _ (Value.bytes (List.toArray _) _) (Value.int _ _)) _ _ _); k_dflt (first | (refine' by_at 0 ?Oq9 ?eq9 ?fq9 ?_; (case Oq9 => assumption); (case eq9 => omega); (case fq9 => omega))); intro _ _)
  k_with "call builtin:len" => (k_here; (with_reducible show wpAny _ _ (call (Value.builtin "len") [Value.bytes (List.toArray _) _]) _ _ _); (refine len_by (by omega) ?_); intro _ _)
  k_with "ite" => first | (refine iteY (by simp only [decide_eq_true_eq]; omega) ?_) | (refine iteN (by simp only [decide_eq_true_eq]; omega) ?_)
  k_with "binaryOp BitAnd int int" => ((with_reducible show wpAny _ _ (binaryOp Operator.BitAnd (Value.int _ _) (Value.int _ _)) _ _ _); (first | refine int_and7 ?_ | refine int_and (by assumption) ?_); intro _ _)
  k_with "binaryOp RShift int int" => ((with_reducible show wpAny _ _ (binaryOp Operator.RShift (Value.int _ _) (Value.int _ _)) _ _ _); k_dflt (refine' int_shr ?aq9 ?cq9 ?_; (case aq9 => omega); (case cq9 => assumption)); intro _ _)
  k_with "exec Raise some none" => (k_here; k_dflt (refine raise_own rfl ?_))
  k_with "call ref" => ((with_reducible show wpAny _ _ (call (Value.ref 51) _) _ _ _); k_dflt (refine' short_new ?Bq9 ?Fq9 ?Xq9 ?Nq9 ?Tq9 ?hkq9 ?hAq9 ?hdq9 ?hhq9 ?_; (case hAq9 => exact rfl); (case hkq9 => exact rfl); (case Fq9 => k_asm); (case Bq9 => k_asm); (case Xq9 => k_asm); (case Nq9 => k_asm); (case Tq9 => k_asm); (case hdq9 => ktr_room); (case hhq9 => exact rfl)); intro e9 d9 t9 h9 tk9 F9 N9; (try dsimp only))
  k_with "leaving ref" => (k_here; (k_dflt (first | (refine' leave_newsS ?Kq9 ?Fq9 ?Nq9 ?_; (case Nq9 => k_asm); (case Fq9 => k_asm); (case Kq9 => k_asm)) | (refine' leave_onS ?Kq9 ?Fq9 ?Rq9 ?Uq9 ?_; (case Rq9 => assumption); (case Uq9 => assumption); (case Fq9 => assumption); (case Kq9 => assumption)))); intros; (try dsimp only))
  k_with "call ref" => (k_here; first | ((with_reducible show wpAny _ _ (call (Value.ref 68) _) _ _ _); k_dflt (refine' CtT.use (getp_b ?Q1q9 ?Q2q9 ?Q3q9 ?Q4q9) ?Bq9 ?Fq9 ?Xq9 ?Nq9 ?hlq9 ?Tq9 ?hkq9 ?hdq9 ?huq9 ?_; (case hlq9 => exact trivial); (case Q4q9 => assumption); (case Q1q9 => assumption); (case Q2q9 => omega); (case Q3q9 => omega); (case Fq9 => k_asm); (case Bq9 => k_asm); (case Xq9 => k_asm); (case Nq9 => k_asm); (case Tq9 => k_asm); (case hkq9 => first | exact rfl | assumption); (case hdq9 => ktr_room); (case huq9 => ktr_units)); intro r9 tl9 h9 tk9 F9 N9 P9; obtain ⟨q9, a9, b9, e9, e8⟩ := P9; subst e9 e8; simp only [List.cons_append, List.nil_append] at N9; (try dsimp only); (try k_sweep)))
  have H0 := H1.1
  have HB := hB
  obtain ⟨hM, hb, hq, hh⟩ := hB
  have h4 := figs_len l.length M h
  have HL := H1.len (by intro e; rw [e] at h4; simp at h4)
  have HK := H2.le
  obtain ⟨v, tl, hv, v0, v1, v2, v3, v4⟩ := figs_first HB (n := l.length) (by omega)
  have A0 : Oc 0 d (p + (0 : Nat)) v := H1.at (k := 0) (j := 0) (by rw [hv]; rfl) ⟨v0, v1⟩
  have hm : Builtin.bitAnd (h / M) 1 = 0 := by have := kbt_mask (h / M) 1; simpa [hev] using this
  clear hv
  unfold CtX; k_fill; intro mean mg mb dp un gd cn cs a ccd outer A₀ base h₀ L m news s Q E B F X N T hk hd hu hret; refine wpAny_call ?_; k_dflt cell_enter; k_steps; exact hret _ _ _ _ _ _ (by assumption) (by assumption) (by assumption)
end
theorem textG_x {w : World} {d l : List UInt8} {p b h M : Int} {t1 t2 t3 : Tok} (hB : Bits b M h) (hev : h / M % 2 = 0) (hn : l.length < 20000) (hz : d.length ≤ 100000) (K : Brk d p (figs l.length M h ++ l)) : CtX w 82 [.bytes d.toArray t1, .int p t2, .int b t3] 9 := by
  rcases K.split with h1 | ⟨h1, h2⟩
  · exact text_x1 hB hev (by omega) hz h1
  · exact text_x2 hB hev hn hz h1 h2
end Mine
end
section
open PySem PySem.W PySem.Spec PySem.Calls PyProof.Rows
set_option Elab.async false
set_option maxRecDepth 100000
set_option maxHeartbeats 0
namespace Mine
/-- what a line's item is, apart from its object -/
inductive D where
  | s (x : Str)
  | i (n : Int)
  | b (x : Bool)
  | y (l : List UInt8)
def D.is : D → Value → Prop
  | .s x, v => ∃ t, v = .str x t
  | .i n, v => ∃ t, v = .int n t
  | .b x, v => v = .bool x
  | .y l, v => ∃ t, v = .bytes l.toArray t
def All2 : List D → List Value → Prop
  | [], [] => True
  | d :: ds, v :: vs => d.is v ∧ All2 ds vs
  | _, _ => False
def RdOut (ds : List D) (e : Int) (v : Value) (tl : Led) : Prop := ∃ q q2 vs t, tl = [(q, tupO [.ref q2, .int e t]), (q2, tupO vs)] ∧ v = .ref q ∧ All2 ds vs
theorem rdO {ds : List D} {vs : List Value} {D D2 : Addr} {y e : Int} {t : Tok} (ey : y = e) (ha : All2 ds vs) : RdOut ds e (.ref D) [(D, tupO [.ref D2, .int y t]), (D2, tupO vs)] := by
  subst ey
  exact ⟨_, _, _, _, rfl, rfl, ha⟩
end Mine
end
section
open PySem PySem.W PySem.Spec PySem.Calls PyProof.Rows
set_option Elab.async false
set_option maxRecDepth 100000
set_option maxHeartbeats 0
set_option rowWalk.seconds 3000
namespace Mine
theorem get_static {w : World} {d : List UInt8} {p : Int} {n : Int} (hn : 0 ≤ n ∧ n < 20000) {t1 t2 : Tok} (hz : d.length ≤ 100000) (H : Has d p (figs n 64 192)) : CtT w 96 [.bytes d.toArray t1, .int p t2] 10 (fun _ => True) (RdOut [.s "static", .i n] (p + (figs n 64 192).length)) := by
  k_with_none
  k_with "subscriptTail" => (k_here; (with_reducible show wpAny _ _ (subscriptTail _ _ (Value.bytes (List.toArray _) _) (Value.int _ _)) _ _ _); k_dflt (first | (refine' by_at 0 ?Oq9 ?eq9 ?fq9 ?_; (case Oq9 => assumption); (case eq9 => omega); (case fq9 => omega))); intro _ _)
  k_with "call builtin:len" => (k_here; (with_reducible show wpAny _ _ (call (Value.builtin "len") [Value.bytes (List.toArray _) _]) _ _ _); (refine len_by (by omega) ?_); intro _ _)
  k_with "ite" => first | (refine iteY (by simp only [decide_eq_true_eq]; omega) ?_) | (refine iteN (by simp only [decide_eq_true_eq]; omega) ?_)
  k_with "binaryOp BitAnd int int" => ((with_reducible show wpAny _ _ (binaryOp Operator.BitAnd (Value.int _ _) (Value.int _ _)) _ _ _); (first | refine int_and7 ?_ | refine int_and (by assumption) ?_); intro _ _)
  k_with "call ref" => (k_here; first | ((with_reducible show wpAny _ _ (call (Value.ref 68) _) _ _ _); k_dflt (refine' CtT.use (getp_b (b := 3) (M := 8) ?Q1q9 ?Q2q9 ?Q3q9 ?Q4q9) ?Bq9 ?Fq9 ?Xq9 ?Nq9 ?hlq9 ?Tq9 ?hkq9 ?hdq9 ?huq9 ?_; (case hlq9 => exact trivial); (case Q4q9 => assumption); (case Q1q9 => first | assumption | exact of_decide_eq_true rfl); (case Q2q9 => omega); (case Q3q9 => omega); (case Fq9 => k_asm); (case Bq9 => k_asm); (case Xq9 => k_asm); (case Nq9 => k_asm); (case Tq9 => k_asm); (case hkq9 => first | exact rfl | assumption); (case hdq9 => ktr_room); (case huq9 => ktr_units)); intro r9 tl9 h9 tk9 F9 N9 P9; obtain ⟨q9, a9, b9, e9, e8⟩ := P9; subst e9 e8; simp only [List.cons_append, List.nil_append] at N9; (try dsimp only); (try k_sweep)) | ((with_reducible show wpAny _ _ (call (Value.ref 68) _) _ _ _); k_dflt (refine' CtT.use (getp_b (b := 4) (M := 16) ?Q1q9 ?Q2q9 ?Q3q9 ?Q4q9) ?Bq9 ?Fq9 ?Xq9 ?Nq9 ?hlq9 ?Tq9 ?hkq9 ?hdq9 ?huq9 ?_; (case hlq9 => exact trivial); (case Q4q9 => assumption); (case Q1q9 => first | assumption | exact of_decide_eq_true rfl); (case Q2q9 => omega); (case Q3q9 => omega); (case Fq9 => k_asm); (case Bq9 => k_asm); (case Xq9 => k_asm); (case Nq9 => k_asm); (case Tq9 => k_asm); (case hkq9 => first | exact rfl | assumption); (case hdq9 => ktr_room); (case huq9 => ktr_units)); intro r9 tl9 h9 tk9 F9 N9 P9; obtain ⟨q9, a9, b9, e9, e8⟩ := P9; subst e9 e8; simp only [List.cons_append, List.nil_append] at N9; (try dsimp only); (try k_sweep)) | ((with_reducible show wpAny _ _ (call (Value.ref 68) _) _ _ _); k_dflt (refine' CtT.use (getp_b (b := 5) (M := 32) ?Q1q9 ?Q2q9 ?Q3q9 ?Q4q9) ?Bq9 ?Fq9 ?Xq9 ?Nq9 ?hlq9 ?Tq9 ?hkq9 ?hdq9 ?huq9 ?_; (case hlq9 => exact trivial); (case Q4q9 => assumption); (case Q1q9 => first | assumption | exact of_decide_eq_true rfl); (case Q2q9 => omega); (case Q3q9 => omega); (case Fq9 => k_asm); (case Bq9 => k_asm); (case Xq9 => k_asm); (case Nq9 => k_asm); (case Tq9 => k_asm); (case hkq9 => first | exact rfl | assumption); (case hdq9 => ktr_room); (case huq9 => ktr_units)); intro r9 tl9 h9 tk9 F9 N9 P9; obtain ⟨q9, a9, b9, e9, e8⟩ := P9; subst e9 e8; simp only [List.cons_append, List.nil_append] at N9; (try dsimp only); (try k_sweep)) | ((with_reducible show wpAny _ _ (call (Value.ref 68) _) _ _ _); k_dflt (refine' CtT.use (getp_b (b := 6) (M := 64) ?Q1q9 ?Q2q9 ?Q3q9 ?Q4q9) ?Bq9 ?Fq9 ?Xq9 ?Nq9 ?hlq9 ?Tq9 ?hkq9 ?hdq9 ?huq9 ?_; (case hlq9 => exact trivial); (case Q4q9 => assumption); (case Q1q9 => first | assumption | exact of_decide_eq_true rfl); (case Q2q9 => omega); (case Q3q9 => omega); (case Fq9 => k_asm); (case Bq9 => k_asm); (case Xq9 => k_asm); (case Nq9 => k_asm); (case Tq9 => k_asm); (case hkq9 => first | exact rfl | assumption); (case hdq9 => ktr_room); (case huq9 => ktr_units)); intro r9 tl9 h9 tk9 F9 N9 P9; obtain ⟨q9, a9, b9, e9, e8⟩ := P9; subst e9 e8; simp only [List.cons_append, List.nil_append] at N9; (try dsimp only); (try k_sweep)) | ((with_reducible show wpAny _ _ (call (Value.ref 68) _) _ _ _); k_dflt (refine' CtT.use (getp_b (b := 7) (M := 128) ?Q1q9 ?Q2q9 ?Q3q9 ?Q4q9) ?Bq9 ?Fq9 ?Xq9 ?Nq9 ?hlq9 ?Tq9 ?hkq9 ?hdq9 ?huq9 ?_; (case hlq9 => exact trivial); (case Q4q9 => assumption); (case Q1q9 => first | assumption | exact of_decide_eq_true rfl); (case Q2q9 => omega); (case Q3q9 => omega); (case Fq9 => k_asm); (case Bq9 => k_asm); (case Xq9 => k_asm); (case Nq9 => k_asm); (case Tq9 => k_asm); (case hkq9 => first | exact rfl | assumption); (case hdq9 => ktr_room); (case huq9 => ktr_units)); intro r9 tl9 h9 tk9 F9 N9 P9; obtain ⟨q9, a9, b9, e9, e8⟩ := P9; subst e9 e8; simp only [List.cons_append, List.nil_append] at N9; (try dsimp only); (try k_sweep)) | ((with_reducible show wpAny _ _ (call (Value.ref 82) _) _ _ _); k_dflt (refine' CtT.use (textG_b (b := 3) (M := 8) ?Q1q9 ?Q5q9 ?Q2q9 ?Q3q9 ?Q4q9) ?Bq9 ?Fq9 ?Xq9 ?Nq9 ?hlq9 ?Tq9 ?hkq9 ?hdq9 ?huq9 ?_; (case hlq9 => exact trivial); (case Q4q9 => assumption); (case Q1q9 => first | assumption | exact of_decide_eq_true rfl); (case Q5q9 => first | assumption | decide); (case Q2q9 => omega); (case Q3q9 => omega); (case Fq9 => k_asm); (case Bq9 => k_asm); (case Xq9 => k_asm); (case Nq9 => k_asm); (case Tq9 => k_asm); (case hkq9 => first | exact rfl | assumption); (case hdq9 => ktr_room); (case huq9 => ktr_units)); intro r9 tl9 h9 tk9 F9 N9 P9; obtain ⟨q9, a9, b9, e9, e8⟩ := P9; subst e9 e8; simp only [List.cons_append, List.nil_append] at N9; (try dsimp only); (try k_sweep)) | ((with_reducible show wpAny _ _ (call (Value.ref 82) _) _ _ _); k_dflt (refine' CtT.use (textG_b (b := 5) (M := 32) ?Q1q9 ?Q5q9 ?Q2q9 ?Q3q9 ?Q4q9) ?Bq9 ?Fq9 ?Xq9 ?Nq9 ?hlq9 ?Tq9 ?hkq9 ?hdq9 ?huq9 ?_; (case hlq9 => exact trivial); (case Q4q9 => assumption); (case Q1q9 => first | assumption | exact of_decide_eq_true rfl); (case Q5q9 => first | assumption | decide); (case Q2q9 => omega); (case Q3q9 => omega); (case Fq9 => k_asm); (case Bq9 => k_asm); (case Xq9 => k_asm); (case Nq9 => k_asm); (case Tq9 => k_asm); (case hkq9 => first | exact rfl | assumption); (case hdq9 => ktr_room); (case huq9 => ktr_units)); intro r9 tl9 h9 tk9 F9 N9 P9; obtain ⟨q9, a9, b9, e9, e8⟩ := P9; subst e9 e8; simp only [List.cons_append, List.nil_append] at N9; (try dsimp only); (try k_sweep)) | ((with_reducible show wpAny _ _ (call (Value.ref 82) _) _ _ _); k_dflt (refine' CtT.use (textG_b (b := 7) (M := 128) ?Q1q9 ?Q5q9 ?Q2q9 ?Q3q9 ?Q4q9) ?Bq9 ?Fq9 ?Xq9 ?Nq9 ?hlq9 ?Tq9 ?hkq9 ?hdq9 ?huq9 ?_; (case hlq9 => exact trivial); (case Q4q9 => assumption); (case Q1q9 => first | assumption | exact of_decide_eq_true rfl); (case Q5q9 => first | assumption | decide); (case Q2q9 => omega); (case Q3q9 => omega); (case Fq9 => k_asm); (case Bq9 => k_asm); (case Xq9 => k_asm); (case Nq9 => k_asm); (case Tq9 => k_asm); (case hkq9 => first | exact rfl | assumption); (case hdq9 => ktr_room); (case huq9 => ktr_units)); intro r9 tl9 h9 tk9 F9 N9 P9; obtain ⟨q9, a9, b9, e9, e8⟩ := P9; subst e9 e8; simp only [List.cons_append, List.nil_append] at N9; (try dsimp only); (try k_sweep)))
  have H0 := H.1
  · obtain ⟨v, tl, hv, v0, v1, v2, v3, v4⟩ := figs_first (b := 6) (M := 64) (h := 192) (by decide) (n := n) (by omega)
    have A0 : Oc 0 d (p + (0 : Nat)) v := (H).at (k := 0) (j := 0) (by rw [hv]; rfl) ⟨v0, v1⟩
    have HL := A0.all
    have f0 : Builtin.bitAnd v 64 = 64 := by
      have key : ∀ x : Nat, x < 256 → 192 ≤ x → Builtin.bitAnd (x : Int) 64 = 64 := by decide +kernel
      obtain ⟨x, rfl⟩ := Int.eq_ofNat_of_zero_le v0
      exact key x (by omega) (by omega)
    clear hv v4
    unfold CtT
    k_fill
    intro mean mg mb dp un gd cn cs a ccd cl outer A₀ base h₀ L m news s Q E B F X N hl T hk hd hu hret
    refine wpAny_call ?_
    k_dflt cell_enter
    k_steps
    k_dflt (refine' ret2 hret ?F ?N ?m ?m2 ?h (rdO ?ey ?ha); (case F => k_asm); (case N => k_asm); (case m => k_mem); (case m2 => k_mem); (case h => kcj_all); (case ey => first | omega | (simp only [List.length_append]; omega)); (case ha => exact ⟨⟨_, rfl⟩, ⟨_, rfl⟩, trivial⟩))
theorem get_dynamic {w : World} {d : List UInt8} {p : Int} {n : Int} (hn : 0 ≤ n ∧ n < 20000) {t1 t2 : Tok} (hz : d.length ≤ 100000) (H : Has d p (figs n 64 128)) : CtT w 96 [.bytes d.toArray t1, .int p t2] 10 (fun _ => True) (RdOut [.s "dynamic", .i n] (p + (figs n 64 128).length)) := by
  have H0 := H.1
  · obtain ⟨v, tl, hv, v0, v1, v2, v3, v4⟩ := figs_first (b := 6) (M := 64) (h := 128) (by decide) (n := n) (by omega)
    have A0 : Oc 0 d (p + (0 : Nat)) v := (H).at (k := 0) (j := 0) (by rw [hv]; rfl) ⟨v0, v1⟩
    have HL := A0.all
    have f0 : Builtin.bitAnd v 64 = 0 := by
      have key : ∀ x : Nat, x < 192 → 128 ≤ x → Builtin.bitAnd (x : Int) 64 = 0 := by decide +kernel
      obtain ⟨x, rfl⟩ := Int.eq_ofNat_of_zero_le v0
      exact key x (by omega) (by omega)
    clear hv v4
    unfold CtT
    k_fill
    intro mean mg mb dp un gd cn cs a ccd cl outer A₀ base h₀ L m news s Q E B F X N hl T hk hd hu hret
    refine wpAny_call ?_
    k_dflt cell_enter
    k_steps
    k_dflt (refine' ret2 hret ?F ?N ?m ?m2 ?h (rdO ?ey ?ha); (case F => k_asm); (case N => k_asm); (case m => k_mem); (case m2 => k_mem); (case h => kcj_all); (case ey => first | omega | (simp only [List.length_append]; omega)); (case ha => exact ⟨⟨_, rfl⟩, ⟨_, rfl⟩, trivial⟩))
theorem get_post {w : World} {d : List UInt8} {p : Int} {n : Int} (hn : 0 ≤ n ∧ n < 20000) {t1 t2 : Tok} (hz : d.length ≤ 100000) (H : Has d p (figs n 16 16)) : CtT w 96 [.bytes d.toArray t1, .int p t2] 10 (fun _ => True) (RdOut [.s "post", .i n] (p + (figs n 16 16).length)) := by
  have H0 := H.1
  · obtain ⟨v, tl, hv, v0, v1, v2, v3, v4⟩ := figs_first (b := 4) (M := 16) (h := 16) (by decide) (n := n) (by omega)
    have A0 : Oc 0 d (p + (0 : Nat)) v := (H).at (k := 0) (j := 0) (by rw [hv]; rfl) ⟨v0, v1⟩
    have HL := A0.all
    clear hv v4
    unfold CtT
    k_fill
    intro mean mg mb dp un gd cn cs a ccd cl outer A₀ base h₀ L m news s Q E B F X N hl T hk hd hu hret
    refine wpAny_call ?_
    k_dflt cell_enter
    k_steps
    k_dflt (refine' ret2 hret ?F ?N ?m ?m2 ?h (rdO ?ey ?ha); (case F => k_asm); (case N => k_asm); (case m => k_mem); (case m2 => k_mem); (case h => kcj_all); (case ey => first | omega | (simp only [List.length_append]; omega)); (case ha => exact ⟨⟨_, rfl⟩, ⟨_, rfl⟩, trivial⟩))
theorem get_capacity {w : World} {d : List UInt8} {p : Int} {n : Int} (hn : 0 ≤ n ∧ n < 20000) {t1 t2 : Tok} (hz : d.length ≤ 100000) (H : Has d p (figs n 32 32)) : CtT w 110 [.bytes d.toArray t1, .int p t2] 10 (fun _ => True) (RdOut [.s "capacity", .i n] (p + (figs n 32 32).length)) := by
  have H0 := H.1
  · obtain ⟨v, tl, hv, v0, v1, v2, v3, v4⟩ := figs_first (b := 5) (M := 32) (h := 32) (by decide) (n := n) (by omega)
    have A0 : Oc 0 d (p + (0 : Nat)) v := (H).at (k := 0) (j := 0) (by rw [hv]; rfl) ⟨v0, v1⟩
    have HL := A0.all
    clear hv v4
    unfold CtT
    k_fill
    intro mean mg mb dp un gd cn cs a ccd cl outer A₀ base h₀ L m news s Q E B F X N hl T hk hd hu hret
    refine wpAny_call ?_
    k_dflt cell_enter
    k_steps
    k_dflt (refine' ret2 hret ?F ?N ?m ?m2 ?h (rdO ?ey ?ha); (case F => k_asm); (case N => k_asm); (case m => k_mem); (case m2 => k_mem); (case h => kcj_all); (case ey => first | omega | (simp only [List.length_append]; omega)); (case ha => exact ⟨⟨_, rfl⟩, ⟨_, rfl⟩, trivial⟩))
theorem get_duplicate {w : World} {d : List UInt8} {p : Int} {n : Int} (hn : 0 ≤ n ∧ n < 20000) {t1 t2 : Tok} (hz : d.length ≤ 100000) (H : Has d p (figs n 32 0)) : CtT w 110 [.bytes d.toArray t1, .int p t2] 10 (fun _ => True) (RdOut [.s "duplicate", .i n] (p + (figs n 32 0).length)) := by
  have H0 := H.1
  · obtain ⟨v, tl, hv, v0, v1, v2, v3, v4⟩ := figs_first (b := 5) (M := 32) (h := 0) (by decide) (n := n) (by omega)
    have A0 : Oc 0 d (p + (0 : Nat)) v := (H).at (k := 0) (j := 0) (by rw [hv]; rfl) ⟨v0, v1⟩
    have HL := A0.all
    clear hv v4
    unfold CtT
    k_fill
    intro mean mg mb dp un gd cn cs a ccd cl outer A₀ base h₀ L m news s Q E B F X N hl T hk hd hu hret
    refine wpAny_call ?_
    k_dflt cell_enter
    k_steps
    k_dflt (refine' ret2 hret ?F ?N ?m ?m2 ?h (rdO ?ey ?ha); (case F => k_asm); (case N => k_asm); (case m => k_mem); (case m2 => k_mem); (case h => kcj_all); (case ey => first | omega | (simp only [List.length_append]; omega)); (case ha => exact ⟨⟨_, rfl⟩, ⟨_, rfl⟩, trivial⟩))
theorem get_ack {w : World} {d : List UInt8} {p : Int} {n : Int} (hn : 0 ≤ n ∧ n < 20000) {t1 t2 : Tok} (hz : d.length ≤ 100000) (H : Has d p (figs n 128 128)) : CtT w 124 [.bytes d.toArray t1, .int p t2] 10 (fun _ => True) (RdOut [.s "ack", .i n] (p + (figs n 128 128).length)) := by
  have H0 := H.1
  · obtain ⟨v, tl, hv, v0, v1, v2, v3, v4⟩ := figs_first (b := 7) (M := 128) (h := 128) (by decide) (n := n) (by omega)
    have A0 : Oc 0 d (p + (0 : Nat)) v := (H).at (k := 0) (j := 0) (by rw [hv]; rfl) ⟨v0, v1⟩
    have HL := A0.all
    clear hv v4
    unfold CtT
    k_fill
    intro mean mg mb dp un gd cn cs a ccd cl outer A₀ base h₀ L m news s Q E B F X N hl T hk hd hu hret
    refine wpAny_call ?_
    k_dflt cell_enter
    k_steps
    k_dflt (refine' ret2 hret ?F ?N ?m ?m2 ?h (rdO ?ey ?ha); (case F => k_asm); (case N => k_asm); (case m => k_mem); (case m2 => k_mem); (case h => kcj_all); (case ey => first | omega | (simp only [List.length_append]; omega)); (case ha => exact ⟨⟨_, rfl⟩, ⟨_, rfl⟩, trivial⟩))
theorem get_cancel {w : World} {d : List UInt8} {p : Int} {n : Int} (hn : 0 ≤ n ∧ n < 20000) {t1 t2 : Tok} (hz : d.length ≤ 100000) (H : Has d p (figs n 64 64)) : CtT w 124 [.bytes d.toArray t1, .int p t2] 10 (fun _ => True) (RdOut [.s "cancel", .i n] (p + (figs n 64 64).length)) := by
  have H0 := H.1
  · obtain ⟨v, tl, hv, v0, v1, v2, v3, v4⟩ := figs_first (b := 6) (M := 64) (h := 64) (by decide) (n := n) (by omega)
    have A0 : Oc 0 d (p + (0 : Nat)) v := (H).at (k := 0) (j := 0) (by rw [hv]; rfl) ⟨v0, v1⟩
    have HL := A0.all
    clear hv v4
    unfold CtT
    k_fill
    intro mean mg mb dp un gd cn cs a ccd cl outer A₀ base h₀ L m news s Q E B F X N hl T hk hd hu hret
    refine wpAny_call ?_
    k_dflt cell_enter
    k_steps
    k_dflt (refine' ret2 hret ?F ?N ?m ?m2 ?h (rdO ?ey ?ha); (case F => k_asm); (case N => k_asm); (case m => k_mem); (case m2 => k_mem); (case h => kcj_all); (case ey => first | omega | (simp only [List.length_append]; omega)); (case ha => exact ⟨⟨_, rfl⟩, ⟨_, rfl⟩, trivial⟩))
theorem get_increment {w : World} {d : List UInt8} {p : Int} {n : Int} (hn : 0 ≤ n ∧ n < 20000) {t1 t2 : Tok} (hz : d.length ≤ 100000) (H : Has d p (figs n 64 0)) : CtT w 124 [.bytes d.toArray t1, .int p t2] 10 (fun _ => True) (RdOut [.s "increment", .i n] (p + (figs n 64 0).length)) := by
  have H0 := H.1
  · obtain ⟨v, tl, hv, v0, v1, v2, v3, v4⟩ := figs_first (b := 6) (M := 64) (h := 0) (by decide) (n := n) (by omega)
    have A0 : Oc 0 d (p + (0 : Nat)) v := (H).at (k := 0) (j := 0) (by rw [hv]; rfl) ⟨v0, v1⟩
    have HL := A0.all
    clear hv v4
    unfold CtT
    k_fill
    intro mean mg mb dp un gd cn cs a ccd cl outer A₀ base h₀ L m news s Q E B F X N hl T hk hd hu hret
    refine wpAny_call ?_
    k_dflt cell_enter
    k_steps
    k_dflt (refine' ret2 hret ?F ?N ?m ?m2 ?h (rdO ?ey ?ha); (case F => k_asm); (case N => k_asm); (case m => k_mem); (case m2 => k_mem); (case h => kcj_all); (case ey => first | omega | (simp only [List.length_append]; omega)); (case ha => exact ⟨⟨_, rfl⟩, ⟨_, rfl⟩, trivial⟩))
theorem get_insert_static {w : World} {d : List UInt8} {p : Int} {n : Int} {l : List UInt8} (hn : 0 ≤ n ∧ n < 20000) (hl0 : l.length < 20000) {t1 t2 : Tok} (hz : d.length ≤ 100000) (H : Has d p (figs n 64 192 ++ (figs l.length 128 0 ++ l))) : CtT w 110 [.bytes d.toArray t1, .int p t2] 10 (fun _ => True) (RdOut [.s "insert_static", .i n, .y l] (p + (figs n 64 192 ++ (figs l.length 128 0 ++ l)).length)) := by
  have H0 := H.1
  · have H1 := H.left
    have H2 := H.right
    obtain ⟨v, tl, hv, v0, v1, v2, v3, v4⟩ := figs_first (b := 6) (M := 64) (h := 192) (by decide) (n := n) (by omega)
    have A0 : Oc 0 d (p + (0 : Nat)) v := (H1).at (k := 0) (j := 0) (by rw [hv]; rfl) ⟨v0, v1⟩
    have HL := A0.all
    have f0 : Builtin.bitAnd v 64 = 64 := by
      have key : ∀ x : Nat, x < 256 → 192 ≤ x → Builtin.bitAnd (x : Int) 64 = 64 := by decide +kernel
      obtain ⟨x, rfl⟩ := Int.eq_ofNat_of_zero_le v0
      exact key x (by omega) (by omega)
    clear hv v4
    unfold CtT
    k_fill
    intro mean mg mb dp un gd cn cs a ccd cl outer A₀ base h₀ L m news s Q E B F X N hl T hk hd hu hret
    refine wpAny_call ?_
    k_dflt cell_enter
    k_steps
    k_dflt (refine' ret2 hret ?F ?N ?m ?m2 ?h (rdO ?ey ?ha); (case F => k_asm); (case N => k_asm); (case m => k_mem); (case m2 => k_mem); (case h => kcj_all); (case ey => first | omega | (simp only [List.length_append]; omega)); (case ha => exact ⟨⟨_, rfl⟩, ⟨_, rfl⟩, ⟨_, rfl⟩, trivial⟩))
theorem get_insert_dynamic {w : World} {d : List UInt8} {p : Int} {n : Int} {l : List UInt8} (hn : 0 ≤ n ∧ n < 20000) (hl0 : l.length < 20000) {t1 t2 : Tok} (hz : d.length ≤ 100000) (H : Has d p (figs n 64 128 ++ (figs l.length 128 0 ++ l))) : CtT w 110 [.bytes d.toArray t1, .int p t2] 10 (fun _ => True) (RdOut [.s "insert_dynamic", .i n, .y l] (p + (figs n 64 128 ++ (figs l.length 128 0 ++ l)).length)) := by
  have H0 := H.1
  · have H1 := H.left
    have H2 := H.right
    obtain ⟨v, tl, hv, v0, v1, v2, v3, v4⟩ := figs_first (b := 6) (M := 64) (h := 128) (by decide) (n := n) (by omega)
    have A0 : Oc 0 d (p + (0 : Nat)) v := (H1).at (k := 0) (j := 0) (by rw [hv]; rfl) ⟨v0, v1⟩
    have HL := A0.all
    have f0 : Builtin.bitAnd v 64 = 0 := by
      have key : ∀ x : Nat, x < 192 → 128 ≤ x → Builtin.bitAnd (x : Int) 64 = 0 := by decide +kernel
      obtain ⟨x, rfl⟩ := Int.eq_ofNat_of_zero_le v0
      exact key x (by omega) (by omega)
    clear hv v4
    unfold CtT
    k_fill
    intro mean mg mb dp un gd cn cs a ccd cl outer A₀ base h₀ L m news s Q E B F X N hl T hk hd hu hret
    refine wpAny_call ?_
    k_dflt cell_enter
    k_steps
    k_dflt (refine' ret2 hret ?F ?N ?m ?m2 ?h (rdO ?ey ?ha); (case F => k_asm); (case N => k_asm); (case m => k_mem); (case m2 => k_mem); (case h => kcj_all); (case ey => first | omega | (simp only [List.length_append]; omega)); (case ha => exact ⟨⟨_, rfl⟩, ⟨_, rfl⟩, ⟨_, rfl⟩, trivial⟩))
theorem get_static_name {w : World} {d : List UInt8} {p : Int} {n : Int} {nv : Bool} {l : List UInt8} (hn : 0 ≤ n ∧ n < 20000) (hl0 : l.length < 20000) {t1 t2 : Tok} (hz : d.length ≤ 100000) (H : Has d p (figs n 16 (if nv then 112 else 80) ++ (figs l.length 128 0 ++ l))) : CtT w 96 [.bytes d.toArray t1, .int p t2] 10 (fun _ => True) (RdOut [.s "static_name", .i n, .b nv, .y l] (p + (figs n 16 (if nv then 112 else 80) ++ (figs l.length 128 0 ++ l)).length)) := by
  have H0 := H.1
  have H1 := H.left
  have H2 := H.right
  have hB : Bits 4 16 (if nv then 112 else 80) := by cases nv <;> decide
  obtain ⟨v, tl, hv, v0, v1, v2, v3, v4⟩ := figs_first hB (n := n) (by omega)
  have A0 : Oc 0 d (p + (0 : Nat)) v := (H1).at (k := 0) (j := 0) (by rw [hv]; rfl) ⟨v0, v1⟩
  have HL := A0.all
  obtain ⟨fl, w2, w3, f9, hfl, f8⟩ : ∃ fl : Int, 80 ≤ v ∧ v < 128 ∧ Builtin.bitAnd v 32 = fl ∧ (fl != 0) = nv ∧ Builtin.bitAnd v 16 = 16 := by
    obtain ⟨x, rfl⟩ := Int.eq_ofNat_of_zero_le v0
    cases nv
    · simp only [Bool.false_eq_true, if_false] at v2 v3
      have key : ∀ x : Nat, x < 96 → 80 ≤ x → Builtin.bitAnd (x : Int) 32 = 0 ∧ Builtin.bitAnd (x : Int) 16 = 16 := by decide +kernel
      exact ⟨0, by omega, by omega, (key x (by omega) (by omega)).1, rfl, (key x (by omega) (by omega)).2⟩
    · simp only [if_true] at v2 v3
      have key : ∀ x : Nat, x < 128 → 112 ≤ x → Builtin.bitAnd (x : Int) 32 = 32 ∧ Builtin.bitAnd (x : Int) 16 = 16 := by decide +kernel
      exact ⟨32, by omega, by omega, (key x (by omega) (by omega)).1, rfl, (key x (by omega) (by omega)).2⟩
  clear hv v2 v3 v4
  unfold CtT
  k_fill
  intro mean mg mb dp un gd cn cs a ccd cl outer A₀ base h₀ L m news s Q E B F X N hl T hk hd hu hret
  refine wpAny_call ?_
  k_dflt cell_enter
  k_steps
  k_dflt (refine' ret2 hret ?F ?N ?m ?m2 ?h (rdO ?ey ?ha); (case F => k_asm); (case N => k_asm); (case m => k_mem); (case m2 => k_mem); (case h => kcj_all); (case ey => first | omega | (simp only [List.length_append]; omega)); (case ha => exact ⟨⟨_, rfl⟩, ⟨_, rfl⟩, congrArg Value.bool hfl, ⟨_, rfl⟩, trivial⟩))
theorem get_dynamic_name {w : World} {d : List UInt8} {p : Int} {n : Int} {nv : Bool} {l : List UInt8} (hn : 0 ≤ n ∧ n < 20000) (hl0 : l.length < 20000) {t1 t2 : Tok} (hz : d.length ≤ 100000) (H : Has d p (figs n 16 (if nv then 96 else 64) ++ (figs l.length 128 0 ++ l))) : CtT w 96 [.bytes d.toArray t1, .int p t2] 10 (fun _ => True) (RdOut [.s "dynamic_name", .i n, .b nv, .y l] (p + (figs n 16 (if nv then 96 else 64) ++ (figs l.length 128 0 ++ l)).length)) := by
  have H0 := H.1
  have H1 := H.left
  have H2 := H.right
  have hB : Bits 4 16 (if nv then 96 else 64) := by cases nv <;> decide
  obtain ⟨v, tl, hv, v0, v1, v2, v3, v4⟩ := figs_first hB (n := n) (by omega)
  have A0 : Oc 0 d (p + (0 : Nat)) v := (H1).at (k := 0) (j := 0) (by rw [hv]; rfl) ⟨v0, v1⟩
  have HL := A0.all
  obtain ⟨fl, w2, w3, f9, hfl, f8⟩ : ∃ fl : Int, 64 ≤ v ∧ v < 112 ∧ Builtin.bitAnd v 32 = fl ∧ (fl != 0) = nv ∧ Builtin.bitAnd v 16 = 0 := by
    obtain ⟨x, rfl⟩ := Int.eq_ofNat_of_zero_le v0
    cases nv
    · simp only [Bool.false_eq_true, if_false] at v2 v3
      have key : ∀ x : Nat, x < 80 → 64 ≤ x → Builtin.bitAnd (x : Int) 32 = 0 ∧ Builtin.bitAnd (x : Int) 16 = 0 := by decide +kernel
      exact ⟨0, by omega, by omega, (key x (by omega) (by omega)).1, rfl, (key x (by omega) (by omega)).2⟩
    · simp only [if_true] at v2 v3
      have key : ∀ x : Nat, x < 112 → 96 ≤ x → Builtin.bitAnd (x : Int) 32 = 32 ∧ Builtin.bitAnd (x : Int) 16 = 0 := by decide +kernel
      exact ⟨32, by omega, by omega, (key x (by omega) (by omega)).1, rfl, (key x (by omega) (by omega)).2⟩
  clear hv v2 v3 v4
  unfold CtT
  k_fill
  intro mean mg mb dp un gd cn cs a ccd cl outer A₀ base h₀ L m news s Q E B F X N hl T hk hd hu hret
  refine wpAny_call ?_
  k_dflt cell_enter
  k_steps
  k_dflt (refine' ret2 hret ?F ?N ?m ?m2 ?h (rdO ?ey ?ha); (case F => k_asm); (case N => k_asm); (case m => k_mem); (case m2 => k_mem); (case h => kcj_all); (case ey => first | omega | (simp only [List.length_append]; omega)); (case ha => exact ⟨⟨_, rfl⟩, ⟨_, rfl⟩, congrArg Value.bool hfl, ⟨_, rfl⟩, trivial⟩))
theorem get_post_name {w : World} {d : List UInt8} {p : Int} {n : Int} {nv : Bool} {l : List UInt8} (hn : 0 ≤ n ∧ n < 20000) (hl0 : l.length < 20000) {t1 t2 : Tok} (hz : d.length ≤ 100000) (H : Has d p (figs n 8 (if nv then 8 else 0) ++ (figs l.length 128 0 ++ l))) : CtT w 96 [.bytes d.toArray t1, .int p t2] 10 (fun _ => True) (RdOut [.s "post_name", .i n, .b nv, .y l] (p + (figs n 8 (if nv then 8 else 0) ++ (figs l.length 128 0 ++ l)).length)) := by
  have H0 := H.1
  have H1 := H.left
  have H2 := H.right
  have hB : Bits 3 8 (if nv then 8 else 0) := by cases nv <;> decide
  obtain ⟨v, tl, hv, v0, v1, v2, v3, v4⟩ := figs_first hB (n := n) (by omega)
  have A0 : Oc 0 d (p + (0 : Nat)) v := (H1).at (k := 0) (j := 0) (by rw [hv]; rfl) ⟨v0, v1⟩
  have HL := A0.all
  obtain ⟨fl, w2, w3, f9, hfl⟩ : ∃ fl : Int, 0 ≤ v ∧ v < 16 ∧ Builtin.bitAnd v 8 = fl ∧ (fl != 0) = nv := by
    obtain ⟨x, rfl⟩ := Int.eq_ofNat_of_zero_le v0
    cases nv
    · simp only [Bool.false_eq_true, if_false] at v2 v3
      have key : ∀ x : Nat, x < 8 → 0 ≤ x → Builtin.bitAnd (x : Int) 8 = 0 := by decide +kernel
      exact ⟨0, by omega, by omega, key x (by omega) (by omega), rfl⟩
    · simp only [if_true] at v2 v3
      have key : ∀ x : Nat, x < 16 → 8 ≤ x → Builtin.bitAnd (x : Int) 8 = 8 := by decide +kernel
      exact ⟨8, by omega, by omega, key x (by omega) (by omega), rfl⟩
  clear hv v2 v3 v4
  unfold CtT
  k_fill
  intro mean mg mb dp un gd cn cs a ccd cl outer A₀ base h₀ L m news s Q E B F X N hl T hk hd hu hret
  refine wpAny_call ?_
  k_dflt cell_enter
  k_steps
  k_dflt (refine' ret2 hret ?F ?N ?m ?m2 ?h (rdO ?ey ?ha); (case F => k_asm); (case N => k_asm); (case m => k_mem); (case m2 => k_mem); (case h => kcj_all); (case ey => first | omega | (simp only [List.length_append]; omega)); (case ha => exact ⟨⟨_, rfl⟩, ⟨_, rfl⟩, congrArg Value.bool hfl, ⟨_, rfl⟩, trivial⟩))
theorem get_insert_literal {w : World} {d : List UInt8} {p : Int} {l1 l : List UInt8} (hn : l1.length < 20000) (hl0 : l.length < 20000) {t1 t2 : Tok} (hz : d.length ≤ 100000) (H : Has d p ((figs l1.length 32 64 ++ l1) ++ (figs l.length 128 0 ++ l))) : CtT w 110 [.bytes d.toArray t1, .int p t2] 10 (fun _ => True) (RdOut [.s "insert_literal", .y l1, .y l] (p + ((figs l1.length 32 64 ++ l1) ++ (figs l.length 128 0 ++ l)).length)) := by
  have H0 := H.1
  · have H1 := H.left
    have H2 := H.right
    have H3 := H1.left
    obtain ⟨v, tl, hv, v0, v1, v2, v3, v4⟩ := figs_first (b := 5) (M := 32) (h := 64) (by decide) (n := l1.length) (by omega)
    have A0 : Oc 0 d (p + (0 : Nat)) v := (H3).at (k := 0) (j := 0) (by rw [hv]; rfl) ⟨v0, v1⟩
    have HL := A0.all
    clear hv v4
    unfold CtT
    k_fill
    intro mean mg mb dp un gd cn cs a ccd cl outer A₀ base h₀ L m news s Q E B F X N hl T hk hd hu hret
    refine wpAny_call ?_
    k_dflt cell_enter
    k_steps
    k_dflt (refine' ret2 hret ?F ?N ?m ?m2 ?h (rdO ?ey ?ha); (case F => k_asm); (case N => k_asm); (case m => k_mem); (case m2 => k_mem); (case h => kcj_all); (case ey => first | omega | (simp only [List.length_append]; omega)); (case ha => exact ⟨⟨_, rfl⟩, ⟨_, rfl⟩, ⟨_, rfl⟩, trivial⟩))
theorem get_literal {w : World} {d : List UInt8} {p : Int} {nv : Bool} {l1 l : List UInt8} (hn : l1.length < 20000) (hl0 : l.length < 20000) {t1 t2 : Tok} (hz : d.length ≤ 100000) (H : Has d p ((figs l1.length 8 (if nv then 48 else 32) ++ l1) ++ (figs l.length 128 0 ++ l))) : CtT w 96 [.bytes d.toArray t1, .int p t2] 10 (fun _ => True) (RdOut [.s "literal", .y l1, .b nv, .y l] (p + ((figs l1.length 8 (if nv then 48 else 32) ++ l1) ++ (figs l.length 128 0 ++ l)).length)) := by
  have H0 := H.1
  have H1 := H.left
  have H2 := H.right
  have H3 := H1.left
  have hB : Bits 3 8 (if nv then 48 else 32) := by cases nv <;> decide
  have hev : (if nv then 48 else 32 : Int) / 8 % 2 = 0 := by cases nv <;> decide
  obtain ⟨v, tl, hv, v0, v1, v2, v3, v4⟩ := figs_first hB (n := l1.length) (by omega)
  have A0 : Oc 0 d (p + (0 : Nat)) v := (H3).at (k := 0) (j := 0) (by rw [hv]; rfl) ⟨v0, v1⟩
  have HL := A0.all
  obtain ⟨fl, w2, w3, f9, hfl⟩ : ∃ fl : Int, 32 ≤ v ∧ v < 56 ∧ Builtin.bitAnd v 16 = fl ∧ (fl != 0) = nv := by
    obtain ⟨x, rfl⟩ := Int.eq_ofNat_of_zero_le v0
    cases nv
    · simp only [Bool.false_eq_true, if_false] at v2 v3
      have key : ∀ x : Nat, x < 40 → 32 ≤ x → Builtin.bitAnd (x : Int) 16 = 0 := by decide +kernel
      exact ⟨0, by omega, by omega, key x (by omega) (by omega), rfl⟩
    · simp only [if_true] at v2 v3
      have key : ∀ x : Nat, x < 56 → 48 ≤ x → Builtin.bitAnd (x : Int) 16 = 16 := by decide +kernel
      exact ⟨16, by omega, by omega, key x (by omega) (by omega), rfl⟩
  clear hv v2 v3 v4
  unfold CtT
  k_fill
  intro mean mg mb dp un gd cn cs a ccd cl outer A₀ base h₀ L m news s Q E B F X N hl T hk hd hu hret
  refine wpAny_call ?_
  k_dflt cell_enter
  k_steps
  k_dflt (refine' ret2 hret ?F ?N ?m ?m2 ?h (rdO ?ey ?ha); (case F => k_asm); (case N => k_asm); (case m => k_mem); (case m2 => k_mem); (case h => kcj_all); (case ey => first | omega | (simp only [List.length_append]; omega)); (case ha => exact ⟨⟨_, rfl⟩, ⟨_, rfl⟩, congrArg Value.bool hfl, ⟨_, rfl⟩, trivial⟩))
end Mine
end
section
open PySem PySem.W PySem.Spec PySem.Calls PyProof.Rows
set_option Elab.async false
set_option maxRecDepth 100000
set_option maxHeartbeats 0
set_option rowWalk.seconds 3000
namespace Mine
section
theorem x1_L1 {w : World} {d : List UInt8} {p v h : Int} {t1 t2 : Tok} (hz : d.length ≤ 100000) (A0 : Oc 0 d p v) (hv : 128 ≤ v ∧ v < 256) (hB : Bits 6 64 h) {n : Int} (hn : 0 ≤ n ∧ n < 20000) (K : Brk d p (figs n 64 h)) : CtX w 96 [.bytes d.toArray t1, .int p t2] 11 := by
  k_with_none
  k_with "subscriptTail" => (k_here; (with_reducible show wpAny _ _ (subscriptTail _ _ (Value.bytes (List.toArray _) _) (Value.int _ _)) _ _ _); k_dflt (first | (refine' by_at 0 ?Oq9 ?eq9 ?fq9 ?_; (case Oq9 => assumption); (case eq9 => omega); (case fq9 => omega))); intro _ _)
  k_with "call builtin:len" => (k_here; (with_reducible show wpAny _ _ (call (Value.builtin "len") [Value.bytes (List.toArray _) _]) _ _ _); (refine len_by (by omega) ?_); intro _ _)
  k_with "ite" => first | (refine iteY (by simp only [decide_eq_true_eq]; omega) ?_) | (refine iteN (by simp only [decide_eq_true_eq]; omega) ?_)
  k_with "binaryOp BitAnd int int" => ((with_reducible show wpAny _ _ (binaryOp Operator.BitAnd (Value.int _ _) (Value.int _ _)) _ _ _); (first | refine int_and7 ?_ | refine int_and (by assumption) ?_); intro _ _)
  k_with "exec Raise some none" => (k_here; k_dflt (refine raise_own rfl ?_))
  k_with "call ref" => ((with_reducible show wpAny _ _ (call (Value.ref 51) _) _ _ _); k_dflt (refine' short_new ?Bq9 ?Fq9 ?Xq9 ?Nq9 ?Tq9 ?hkq9 ?hAq9 ?hdq9 ?hhq9 ?_; (case hAq9 => exact rfl); (case hkq9 => exact rfl); (case Fq9 => k_asm); (case Bq9 => k_asm); (case Xq9 => k_asm); (case Nq9 => k_asm); (case Tq9 => k_asm); (case hdq9 => ktr_room); (case hhq9 => exact rfl)); intro e9 d9 t9 h9 tk9 F9 N9; (try dsimp only))
  k_with "leaving ref" => (k_here; (k_dflt (first | (refine' leave_newsS ?Kq9 ?Fq9 ?Nq9 ?_; (case Nq9 => k_asm); (case Fq9 => k_asm); (case Kq9 => k_asm)) | (refine' leave_onS ?Kq9 ?Fq9 ?Rq9 ?Uq9 ?_; (case Rq9 => assumption); (case Uq9 => assumption); (case Fq9 => assumption); (case Kq9 => assumption)))); intros; (try dsimp only))
  k_with "call ref" => (k_here; first | ((with_reducible show wpAny _ _ (call (Value.ref 68) _) _ _ _); k_dflt (refine' CtX.use (getp_k (b := 3) (M := 8) ?Q1q9 ?Q2q9 ?Q3q9 ?Q4q9) ?Bq9 ?Fq9 ?Xq9 ?Nq9 ?Tq9 ?hkq9 ?hdq9 ?huq9 ?_; (case Q4q9 => assumption); (case Q1q9 => assumption); (case Q2q9 => assumption); (case Q3q9 => omega); (case Fq9 => k_asm); (case Bq9 => k_asm); (case Xq9 => k_asm); (case Nq9 => k_asm); (case Tq9 => k_asm); (case hkq9 => first | exact rfl | assumption); (case hdq9 => ktr_room); (case huq9 => ktr_units)); intros; (try dsimp only)) | ((with_reducible show wpAny _ _ (call (Value.ref 68) _) _ _ _); k_dflt (refine' CtX.use (getp_k (b := 4) (M := 16) ?Q1q9 ?Q2q9 ?Q3q9 ?Q4q9) ?Bq9 ?Fq9 ?Xq9 ?Nq9 ?Tq9 ?hkq9 ?hdq9 ?huq9 ?_; (case Q4q9 => assumption); (case Q1q9 => assumption); (case Q2q9 => assumption); (case Q3q9 => omega); (case Fq9 => k_asm); (case Bq9 => k_asm); (case Xq9 => k_asm); (case Nq9 => k_asm); (case Tq9 => k_asm); (case hkq9 => first | exact rfl | assumption); (case hdq9 => ktr_room); (case huq9 => ktr_units)); intros; (try dsimp only)) | ((with_reducible show wpAny _ _ (call (Value.ref 68) _) _ _ _); k_dflt (refine' CtX.use (getp_k (b := 5) (M := 32) ?Q1q9 ?Q2q9 ?Q3q9 ?Q4q9) ?Bq9 ?Fq9 ?Xq9 ?Nq9 ?Tq9 ?hkq9 ?hdq9 ?huq9 ?_; (case Q4q9 => assumption); (case Q1q9 => assumption); (case Q2q9 => assumption); (case Q3q9 => omega); (case Fq9 => k_asm); (case Bq9 => k_asm); (case Xq9 => k_asm); (case Nq9 => k_asm); (case Tq9 => k_asm); (case hkq9 => first | exact rfl | assumption); (case hdq9 => ktr_room); (case huq9 => ktr_units)); intros; (try dsimp only)) | ((with_reducible show wpAny _ _ (call (Value.ref 68) _) _ _ _); k_dflt (refine' CtX.use (getp_k (b := 6) (M := 64) ?Q1q9 ?Q2q9 ?Q3q9 ?Q4q9) ?Bq9 ?Fq9 ?Xq9 ?Nq9 ?Tq9 ?hkq9 ?hdq9 ?huq9 ?_; (case Q4q9 => assumption); (case Q1q9 => assumption); (case Q2q9 => assumption); (case Q3q9 => omega); (case Fq9 => k_asm); (case Bq9 => k_asm); (case Xq9 => k_asm); (case Nq9 => k_asm); (case Tq9 => k_asm); (case hkq9 => first | exact rfl | assumption); (case hdq9 => ktr_room); (case huq9 => ktr_units)); intros; (try dsimp only)) | ((with_reducible show wpAny _ _ (call (Value.ref 68) _) _ _ _); k_dflt (refine' CtX.use (getp_k (b := 7) (M := 128) ?Q1q9 ?Q2q9 ?Q3q9 ?Q4q9) ?Bq9 ?Fq9 ?Xq9 ?Nq9 ?Tq9 ?hkq9 ?hdq9 ?huq9 ?_; (case Q4q9 => assumption); (case Q1q9 => assumption); (case Q2q9 => assumption); (case Q3q9 => omega); (case Fq9 => k_asm); (case Bq9 => k_asm); (case Xq9 => k_asm); (case Nq9 => k_asm); (case Tq9 => k_asm); (case hkq9 => first | exact rfl | assumption); (case hdq9 => ktr_room); (case huq9 => ktr_units)); intros; (try dsimp only)) | ((with_reducible show wpAny _ _ (call (Value.ref 82) _) _ _ _); k_dflt (refine' CtX.use (textG_x (b := 3) (M := 8) ?Q1q9 ?Q5q9 ?Q2q9 ?Q3q9 ?Q4q9) ?Bq9 ?Fq9 ?Xq9 ?Nq9 ?Tq9 ?hkq9 ?hdq9 ?huq9 ?_; (case Q4q9 => assumption); (case Q1q9 => assumption); (case Q5q9 => assumption); (case Q2q9 => assumption); (case Q3q9 => omega); (case Fq9 => k_asm); (case Bq9 => k_asm); (case Xq9 => k_asm); (case Nq9 => k_asm); (case Tq9 => k_asm); (case hkq9 => first | exact rfl | assumption); (case hdq9 => ktr_room); (case huq9 => ktr_units)); intros; (try dsimp only)) | ((with_reducible show wpAny _ _ (call (Value.ref 82) _) _ _ _); k_dflt (refine' CtX.use (textG_x (b := 5) (M := 32) ?Q1q9 ?Q5q9 ?Q2q9 ?Q3q9 ?Q4q9) ?Bq9 ?Fq9 ?Xq9 ?Nq9 ?Tq9 ?hkq9 ?hdq9 ?huq9 ?_; (case Q4q9 => assumption); (case Q1q9 => assumption); (case Q5q9 => assumption); (case Q2q9 => assumption); (case Q3q9 => omega); (case Fq9 => k_asm); (case Bq9 => k_asm); (case Xq9 => k_asm); (case Nq9 => k_asm); (case Tq9 => k_asm); (case hkq9 => first | exact rfl | assumption); (case hdq9 => ktr_room); (case huq9 => ktr_units)); intros; (try dsimp only)) | ((with_reducible show wpAny _ _ (call (Value.ref 82) _) _ _ _); k_dflt (refine' CtX.use (textG_x (b := 7) (M := 128) ?Q1q9 ?Q5q9 ?Q2q9 ?Q3q9 ?Q4q9) ?Bq9 ?Fq9 ?Xq9 ?Nq9 ?Tq9 ?hkq9 ?hdq9 ?huq9 ?_; (case Q4q9 => assumption); (case Q1q9 => assumption); (case Q5q9 => assumption); (case Q2q9 => assumption); (case Q3q9 => omega); (case Fq9 => k_asm); (case Bq9 => k_asm); (case Xq9 => k_asm); (case Nq9 => k_asm); (case Tq9 => k_asm); (case hkq9 => first | exact rfl | assumption); (case hdq9 => ktr_room); (case huq9 => ktr_units)); intros; (try dsimp only)))
  have HL := A0.all
  unfold CtX; k_fill; intro mean mg mb dp un gd cn cs a ccd outer A₀ base h₀ L m news s Q E B F X N T hk hd hu hret; refine wpAny_call ?_; k_dflt cell_enter; k_steps; exact hret _ _ _ _ _ _ (by assumption) (by assumption) (by assumption)
theorem x1_L2 {w : World} {d : List UInt8} {p v h : Int} {t1 t2 : Tok} (hz : d.length ≤ 100000) (A0 : Oc 0 d p v) (hv : 64 ≤ v ∧ v < 128) (hB : Bits 4 16 h) {n : Int} (hn : 0 ≤ n ∧ n < 20000) (K : Brk d p (figs n 16 h)) : CtX w 96 [.bytes d.toArray t1, .int p t2] 11 := by
  have HL := A0.all
  unfold CtX; k_fill; intro mean mg mb dp un gd cn cs a ccd outer A₀ base h₀ L m news s Q E B F X N T hk hd hu hret; refine wpAny_call ?_; k_dflt cell_enter; k_steps; exact hret _ _ _ _ _ _ (by assumption) (by assumption) (by assumption)
theorem x1_L3 {w : World} {d : List UInt8} {p v h : Int} {t1 t2 : Tok} (hz : d.length ≤ 100000) (A0 : Oc 0 d p v) (hv : 32 ≤ v ∧ v < 64) (hB : Bits 3 8 h) {l : List UInt8} (hev : h / 8 % 2 = 0) (hn : l.length < 20000) (K : Brk d p (figs l.length 8 h ++ l)) : CtX w 96 [.bytes d.toArray t1, .int p t2] 11 := by
  have HL := A0.all
  unfold CtX; k_fill; intro mean mg mb dp un gd cn cs a ccd outer A₀ base h₀ L m news s Q E B F X N T hk hd hu hret; refine wpAny_call ?_; k_dflt cell_enter; k_steps; exact hret _ _ _ _ _ _ (by assumption) (by assumption) (by assumption)
theorem x1_L4 {w : World} {d : List UInt8} {p v h : Int} {t1 t2 : Tok} (hz : d.length ≤ 100000) (A0 : Oc 0 d p v) (hv : 16 ≤ v ∧ v < 32) (hB : Bits 4 16 h) {n : Int} (hn : 0 ≤ n ∧ n < 20000) (K : Brk d p (figs n 16 h)) : CtX w 96 [.bytes d.toArray t1, .int p t2] 11 := by
  have HL := A0.all
  unfold CtX; k_fill; intro mean mg mb dp un gd cn cs a ccd outer A₀ base h₀ L m news s Q E B F X N T hk hd hu hret; refine wpAny_call ?_; k_dflt cell_enter; k_steps; exact hret _ _ _ _ _ _ (by assumption) (by assumption) (by assumption)
theorem x1_L5 {w : World} {d : List UInt8} {p v h : Int} {t1 t2 : Tok} (hz : d.length ≤ 100000) (A0 : Oc 0 d p v) (hv : 0 ≤ v ∧ v < 16) (hB : Bits 3 8 h) {n : Int} (hn : 0 ≤ n ∧ n < 20000) (K : Brk d p (figs n 8 h)) : CtX w 96 [.bytes d.toArray t1, .int p t2] 11 := by
  have HL := A0.all
  unfold CtX; k_fill; intro mean mg mb dp un gd cn cs a ccd outer A₀ base h₀ L m news s Q E B F X N T hk hd hu hret; refine wpAny_call ?_; k_dflt cell_enter; k_steps; exact hret _ _ _ _ _ _ (by assumption) (by assumption) (by assumption)
theorem x1_C1 {w : World} {d : List UInt8} {p v h : Int} {t1 t2 : Tok} (hz : d.length ≤ 100000) (A0 : Oc 0 d p v) (hv : 128 ≤ v ∧ v < 256) (hB : Bits 6 64 h) {n : Int} (hn : 0 ≤ n ∧ n < 20000) (K : Brk d p (figs n 64 h)) : CtX w 110 [.bytes d.toArray t1, .int p t2] 11 := by
  have HL := A0.all
  unfold CtX; k_fill; intro mean mg mb dp un gd cn cs a ccd outer A₀ base h₀ L m news s Q E B F X N T hk hd hu hret; refine wpAny_call ?_; k_dflt cell_enter; k_steps; exact hret _ _ _ _ _ _ (by assumption) (by assumption) (by assumption)
theorem x1_C2 {w : World} {d : List UInt8} {p v h : Int} {t1 t2 : Tok} (hz : d.length ≤ 100000) (A0 : Oc 0 d p v) (hv : 64 ≤ v ∧ v < 128) (hB : Bits 5 32 h) {l : List UInt8} (hev : h / 32 % 2 = 0) (hn : l.length < 20000) (K : Brk d p (figs l.length 32 h ++ l)) : CtX w 110 [.bytes d.toArray t1, .int p t2] 11 := by
  have HL := A0.all
  unfold CtX; k_fill; intro mean mg mb dp un gd cn cs a ccd outer A₀ base h₀ L m news s Q E B F X N T hk hd hu hret; refine wpAny_call ?_; k_dflt cell_enter; k_steps; exact hret _ _ _ _ _ _ (by assumption) (by assumption) (by assumption)
theorem x1_C3 {w : World} {d : List UInt8} {p v h : Int} {t1 t2 : Tok} (hz : d.length ≤ 100000) (A0 : Oc 0 d p v) (hv : 0 ≤ v ∧ v < 64) (hB : Bits 5 32 h) {n : Int} (hn : 0 ≤ n ∧ n < 20000) (K : Brk d p (figs n 32 h)) : CtX w 110 [.bytes d.toArray t1, .int p t2] 11 := by
  have HL := A0.all
  unfold CtX; k_fill; intro mean mg mb dp un gd cn cs a ccd outer A₀ base h₀ L m news s Q E B F X N T hk hd hu hret; refine wpAny_call ?_; k_dflt cell_enter; k_steps; exact hret _ _ _ _ _ _ (by assumption) (by assumption) (by assumption)
theorem x1_A1 {w : World} {d : List UInt8} {p v h : Int} {t1 t2 : Tok} (hz : d.length ≤ 100000) (A0 : Oc 0 d p v) (hv : 128 ≤ v ∧ v < 256) (hB : Bits 7 128 h) {n : Int} (hn : 0 ≤ n ∧ n < 20000) (K : Brk d p (figs n 128 h)) : CtX w 124 [.bytes d.toArray t1, .int p t2] 11 := by
  have HL := A0.all
  unfold CtX; k_fill; intro mean mg mb dp un gd cn cs a ccd outer A₀ base h₀ L m news s Q E B F X N T hk hd hu hret; refine wpAny_call ?_; k_dflt cell_enter; k_steps; exact hret _ _ _ _ _ _ (by assumption) (by assumption) (by assumption)
theorem x1_A2 {w : World} {d : List UInt8} {p v h : Int} {t1 t2 : Tok} (hz : d.length ≤ 100000) (A0 : Oc 0 d p v) (hv : 0 ≤ v ∧ v < 128) (hB : Bits 6 64 h) {n : Int} (hn : 0 ≤ n ∧ n < 20000) (K : Brk d p (figs n 64 h)) : CtX w 124 [.bytes d.toArray t1, .int p t2] 11 := by
  have HL := A0.all
  unfold CtX; k_fill; intro mean mg mb dp un gd cn cs a ccd outer A₀ base h₀ L m news s Q E B F X N T hk hd hu hret; refine wpAny_call ?_; k_dflt cell_enter; k_steps; exact hret _ _ _ _ _ _ (by assumption) (by assumption) (by assumption)
end
section
theorem x2_L2 {w : World} {d : List UInt8} {p v h : Int} {t1 t2 : Tok} (hz : d.length ≤ 100000) (A0 : Oc 0 d p v) (hv : 64 ≤ v ∧ v < 128) (hB : Bits 4 16 h) {n : Int} {l : List UInt8} (hev7 : (0 : Int) / 128 % 2 = 0) (hB7 : Bits 7 128 0) (hn : 0 ≤ n ∧ n < 20000) (hl0 : l.length < 20000) (H1 : Has d p (figs n 16 h)) (K : Brk d (p + (figs n 16 h).length) (figs l.length 128 0 ++ l)) : CtX w 96 [.bytes d.toArray t1, .int p t2] 11 := by
  k_with_none
  k_with "subscriptTail" => (k_here; (with_reducible show wpAny _ _ (subscriptTail _ _ (Value.bytes (List.toArray _) _) (Value.int _ _)) _ _ _); k_dflt (first | (refine' by_at 0 ?Oq9 ?eq9 ?fq9 ?_; (case Oq9 => assumption); (case eq9 => omega); (case fq9 => omega))); intro _ _)
  k_with "call builtin:len" => (k_here; (with_reducible show wpAny _ _ (call (Value.builtin "len") [Value.bytes (List.toArray _) _]) _ _ _); (refine len_by (by omega) ?_); intro _ _)
  k_with "ite" => first | (refine iteY (by simp only [decide_eq_true_eq]; omega) ?_) | (refine iteN (by simp only [decide_eq_true_eq]; omega) ?_)
  k_with "binaryOp BitAnd int int" => ((with_reducible show wpAny _ _ (binaryOp Operator.BitAnd (Value.int _ _) (Value.int _ _)) _ _ _); (first | refine int_and7 ?_ | refine int_and (by assumption) ?_); intro _ _)
  k_with "exec Raise some none" => (k_here; k_dflt (refine raise_own rfl ?_))
  k_with "call ref" => ((with_reducible show wpAny _ _ (call (Value.ref 51) _) _ _ _); k_dflt (refine' short_new ?Bq9 ?Fq9 ?Xq9 ?Nq9 ?Tq9 ?hkq9 ?hAq9 ?hdq9 ?hhq9 ?_; (case hAq9 => exact rfl); (case hkq9 => exact rfl); (case Fq9 => k_asm); (case Bq9 => k_asm); (case Xq9 => k_asm); (case Nq9 => k_asm); (case Tq9 => k_asm); (case hdq9 => ktr_room); (case hhq9 => exact rfl)); intro e9 d9 t9 h9 tk9 F9 N9; (try dsimp only))
  k_with "leaving ref" => (k_here; (k_dflt (first | (refine' leave_newsS ?Kq9 ?Fq9 ?Nq9 ?_; (case Nq9 => k_asm); (case Fq9 => k_asm); (case Kq9 => k_asm)) | (refine' leave_onS ?Kq9 ?Fq9 ?Rq9 ?Uq9 ?_; (case Rq9 => assumption); (case Uq9 => assumption); (case Fq9 => assumption); (case Kq9 => assumption)))); intros; (try dsimp only))
  k_with "call ref" => (k_here; first | ((with_reducible show wpAny _ _ (call (Value.ref 68) _) _ _ _); k_dflt (refine' CtT.use (getp_b (b := 3) (M := 8) ?Q1q9 ?Q2q9 ?Q3q9 ?Q4q9) ?Bq9 ?Fq9 ?Xq9 ?Nq9 ?hlq9 ?Tq9 ?hkq9 ?hdq9 ?huq9 ?_; (case hlq9 => exact trivial); (case Q4q9 => assumption); (case Q1q9 => assumption); (case Q2q9 => assumption); (case Q3q9 => omega); (case Fq9 => k_asm); (case Bq9 => k_asm); (case Xq9 => k_asm); (case Nq9 => k_asm); (case Tq9 => k_asm); (case hkq9 => first | exact rfl | assumption); (case hdq9 => ktr_room); (case huq9 => ktr_units)); intro r9 tl9 h9 tk9 F9 N9 P9; obtain ⟨q9, a9, b9, e9, e8⟩ := P9; subst e9 e8; simp only [List.cons_append, List.nil_append] at N9; (try dsimp only); (try k_sweep)) | ((with_reducible show wpAny _ _ (call (Value.ref 68) _) _ _ _); k_dflt (refine' CtT.use (getp_b (b := 4) (M := 16) ?Q1q9 ?Q2q9 ?Q3q9 ?Q4q9) ?Bq9 ?Fq9 ?Xq9 ?Nq9 ?hlq9 ?Tq9 ?hkq9 ?hdq9 ?huq9 ?_; (case hlq9 => exact trivial); (case Q4q9 => assumption); (case Q1q9 => assumption); (case Q2q9 => assumption); (case Q3q9 => omega); (case Fq9 => k_asm); (case Bq9 => k_asm); (case Xq9 => k_asm); (case Nq9 => k_asm); (case Tq9 => k_asm); (case hkq9 => first | exact rfl | assumption); (case hdq9 => ktr_room); (case huq9 => ktr_units)); intro r9 tl9 h9 tk9 F9 N9 P9; obtain ⟨q9, a9, b9, e9, e8⟩ := P9; subst e9 e8; simp only [List.cons_append, List.nil_append] at N9; (try dsimp only); (try k_sweep)) | ((with_reducible show wpAny _ _ (call (Value.ref 68) _) _ _ _); k_dflt (refine' CtT.use (getp_b (b := 5) (M := 32) ?Q1q9 ?Q2q9 ?Q3q9 ?Q4q9) ?Bq9 ?Fq9 ?Xq9 ?Nq9 ?hlq9 ?Tq9 ?hkq9 ?hdq9 ?huq9 ?_; (case hlq9 => exact trivial); (case Q4q9 => assumption); (case Q1q9 => assumption); (case Q2q9 => assumption); (case Q3q9 => omega); (case Fq9 => k_asm); (case Bq9 => k_asm); (case Xq9 => k_asm); (case Nq9 => k_asm); (case Tq9 => k_asm); (case hkq9 => first | exact rfl | assumption); (case hdq9 => ktr_room); (case huq9 => ktr_units)); intro r9 tl9 h9 tk9 F9 N9 P9; obtain ⟨q9, a9, b9, e9, e8⟩ := P9; subst e9 e8; simp only [List.cons_append, List.nil_append] at N9; (try dsimp only); (try k_sweep)) | ((with_reducible show wpAny _ _ (call (Value.ref 68) _) _ _ _); k_dflt (refine' CtT.use (getp_b (b := 6) (M := 64) ?Q1q9 ?Q2q9 ?Q3q9 ?Q4q9) ?Bq9 ?Fq9 ?Xq9 ?Nq9 ?hlq9 ?Tq9 ?hkq9 ?hdq9 ?huq9 ?_; (case hlq9 => exact trivial); (case Q4q9 => assumption); (case Q1q9 => assumption); (case Q2q9 => assumption); (case Q3q9 => omega); (case Fq9 => k_asm); (case Bq9 => k_asm); (case Xq9 => k_asm); (case Nq9 => k_asm); (case Tq9 => k_asm); (case hkq9 => first | exact rfl | assumption); (case hdq9 => ktr_room); (case huq9 => ktr_units)); intro r9 tl9 h9 tk9 F9 N9 P9; obtain ⟨q9, a9, b9, e9, e8⟩ := P9; subst e9 e8; simp only [List.cons_append, List.nil_append] at N9; (try dsimp only); (try k_sweep)) | ((with_reducible show wpAny _ _ (call (Value.ref 68) _) _ _ _); k_dflt (refine' CtT.use (getp_b (b := 7) (M := 128) ?Q1q9 ?Q2q9 ?Q3q9 ?Q4q9) ?Bq9 ?Fq9 ?Xq9 ?Nq9 ?hlq9 ?Tq9 ?hkq9 ?hdq9 ?huq9 ?_; (case hlq9 => exact trivial); (case Q4q9 => assumption); (case Q1q9 => assumption); (case Q2q9 => assumption); (case Q3q9 => omega); (case Fq9 => k_asm); (case Bq9 => k_asm); (case Xq9 => k_asm); (case Nq9 => k_asm); (case Tq9 => k_asm); (case hkq9 => first | exact rfl | assumption); (case hdq9 => ktr_room); (case huq9 => ktr_units)); intro r9 tl9 h9 tk9 F9 N9 P9; obtain ⟨q9, a9, b9, e9, e8⟩ := P9; subst e9 e8; simp only [List.cons_append, List.nil_append] at N9; (try dsimp only); (try k_sweep)) | ((with_reducible show wpAny _ _ (call (Value.ref 82) _) _ _ _); k_dflt (refine' CtT.use (textG_b (b := 3) (M := 8) ?Q1q9 ?Q5q9 ?Q2q9 ?Q3q9 ?Q4q9) ?Bq9 ?Fq9 ?Xq9 ?Nq9 ?hlq9 ?Tq9 ?hkq9 ?hdq9 ?huq9 ?_; (case hlq9 => exact trivial); (case Q4q9 => assumption); (case Q1q9 => assumption); (case Q5q9 => assumption); (case Q2q9 => assumption); (case Q3q9 => omega); (case Fq9 => k_asm); (case Bq9 => k_asm); (case Xq9 => k_asm); (case Nq9 => k_asm); (case Tq9 => k_asm); (case hkq9 => first | exact rfl | assumption); (case hdq9 => ktr_room); (case huq9 => ktr_units)); intro r9 tl9 h9 tk9 F9 N9 P9; obtain ⟨q9, a9, b9, e9, e8⟩ := P9; subst e9 e8; simp only [List.cons_append, List.nil_append] at N9; (try dsimp only); (try k_sweep)) | ((with_reducible show wpAny _ _ (call (Value.ref 82) _) _ _ _); k_dflt (refine' CtT.use (textG_b (b := 5) (M := 32) ?Q1q9 ?Q5q9 ?Q2q9 ?Q3q9 ?Q4q9) ?Bq9 ?Fq9 ?Xq9 ?Nq9 ?hlq9 ?Tq9 ?hkq9 ?hdq9 ?huq9 ?_; (case hlq9 => exact trivial); (case Q4q9 => assumption); (case Q1q9 => assumption); (case Q5q9 => assumption); (case Q2q9 => assumption); (case Q3q9 => omega); (case Fq9 => k_asm); (case Bq9 => k_asm); (case Xq9 => k_asm); (case Nq9 => k_asm); (case Tq9 => k_asm); (case hkq9 => first | exact rfl | assumption); (case hdq9 => ktr_room); (case huq9 => ktr_units)); intro r9 tl9 h9 tk9 F9 N9 P9; obtain ⟨q9, a9, b9, e9, e8⟩ := P9; subst e9 e8; simp only [List.cons_append, List.nil_append] at N9; (try dsimp only); (try k_sweep)) | ((with_reducible show wpAny _ _ (call (Value.ref 82) _) _ _ _); k_dflt (refine' CtT.use (textG_b (b := 7) (M := 128) ?Q1q9 ?Q5q9 ?Q2q9 ?Q3q9 ?Q4q9) ?Bq9 ?Fq9 ?Xq9 ?Nq9 ?hlq9 ?Tq9 ?hkq9 ?hdq9 ?huq9 ?_; (case hlq9 => exact trivial); (case Q4q9 => assumption); (case Q1q9 => assumption); (case Q5q9 => assumption); (case Q2q9 => assumption); (case Q3q9 => omega); (case Fq9 => k_asm); (case Bq9 => k_asm); (case Xq9 => k_asm); (case Nq9 => k_asm); (case Tq9 => k_asm); (case hkq9 => first | exact rfl | assumption); (case hdq9 => ktr_room); (case huq9 => ktr_units)); intro r9 tl9 h9 tk9 F9 N9 P9; obtain ⟨q9, a9, b9, e9, e8⟩ := P9; subst e9 e8; simp only [List.cons_append, List.nil_append] at N9; (try dsimp only); (try k_sweep)))
  k_with "call ref" => (k_here; ((with_reducible show wpAny _ _ (call (Value.ref 82) _) _ _ _); k_dflt (refine' CtX.use (textG_x (b := 7) (M := 128) ?Q1q9 ?Q5q9 ?Q2q9 ?Q3q9 ?Q4q9) ?Bq9 ?Fq9 ?Xq9 ?Nq9 ?Tq9 ?hkq9 ?hdq9 ?huq9 ?_; (case Q4q9 => assumption); (case Q1q9 => assumption); (case Q5q9 => assumption); (case Q2q9 => assumption); (case Q3q9 => omega); (case Fq9 => k_asm); (case Bq9 => k_asm); (case Xq9 => k_asm); (case Nq9 => k_asm); (case Tq9 => k_asm); (case hkq9 => first | exact rfl | assumption); (case hdq9 => ktr_room); (case huq9 => ktr_units)); intros; (try dsimp only)))
  have HL := A0.all
  unfold CtX; k_fill; intro mean mg mb dp un gd cn cs a ccd outer A₀ base h₀ L m news s Q E B F X N T hk hd hu hret; refine wpAny_call ?_; k_dflt cell_enter; k_steps; exact hret _ _ _ _ _ _ (by assumption) (by assumption) (by assumption)
theorem x2_L3 {w : World} {d : List UInt8} {p v h : Int} {t1 t2 : Tok} (hz : d.length ≤ 100000) (A0 : Oc 0 d p v) (hv : 32 ≤ v ∧ v < 64) (hB : Bits 3 8 h) {l1 l : List UInt8} (hev : h / 8 % 2 = 0) (hev7 : (0 : Int) / 128 % 2 = 0) (hB7 : Bits 7 128 0) (hn : l1.length < 20000) (hl0 : l.length < 20000) (H1 : Has d p (figs l1.length 8 h ++ l1)) (K : Brk d (p + (figs l1.length 8 h ++ l1).length) (figs l.length 128 0 ++ l)) : CtX w 96 [.bytes d.toArray t1, .int p t2] 11 := by
  have HL := A0.all
  unfold CtX; k_fill; intro mean mg mb dp un gd cn cs a ccd outer A₀ base h₀ L m news s Q E B F X N T hk hd hu hret; refine wpAny_call ?_; k_dflt cell_enter; k_steps; exact hret _ _ _ _ _ _ (by assumption) (by assumption) (by assumption)
theorem x2_L5 {w : World} {d : List UInt8} {p v h : Int} {t1 t2 : Tok} (hz : d.length ≤ 100000) (A0 : Oc 0 d p v) (hv : 0 ≤ v ∧ v < 16) (hB : Bits 3 8 h) {n : Int} {l : List UInt8} (hev7 : (0 : Int) / 128 % 2 = 0) (hB7 : Bits 7 128 0) (hn : 0 ≤ n ∧ n < 20000) (hl0 : l.length < 20000) (H1 : Has d p (figs n 8 h)) (K : Brk d (p + (figs n 8 h).length) (figs l.length 128 0 ++ l)) : CtX w 96 [.bytes d.toArray t1, .int p t2] 11 := by
  have HL := A0.all
  unfold CtX; k_fill; intro mean mg mb dp un gd cn cs a ccd outer A₀ base h₀ L m news s Q E B F X N T hk hd hu hret; refine wpAny_call ?_; k_dflt cell_enter; k_steps; exact hret _ _ _ _ _ _ (by assumption) (by assumption) (by assumption)
theorem x2_C1 {w : World} {d : List UInt8} {p v h : Int} {t1 t2 : Tok} (hz : d.length ≤ 100000) (A0 : Oc 0 d p v) (hv : 128 ≤ v ∧ v < 256) (hB : Bits 6 64 h) {n : Int} {l : List UInt8} (hev7 : (0 : Int) / 128 % 2 = 0) (hB7 : Bits 7 128 0) (hn : 0 ≤ n ∧ n < 20000) (hl0 : l.length < 20000) (H1 : Has d p (figs n 64 h)) (K : Brk d (p + (figs n 64 h).length) (figs l.length 128 0 ++ l)) : CtX w 110 [.bytes d.toArray t1, .int p t2] 11 := by
  have HL := A0.all
  unfold CtX; k_fill; intro mean mg mb dp un gd cn cs a ccd outer A₀ base h₀ L m news s Q E B F X N T hk hd hu hret; refine wpAny_call ?_; k_dflt cell_enter; k_steps; exact hret _ _ _ _ _ _ (by assumption) (by assumption) (by assumption)
theorem x2_C2 {w : World} {d : List UInt8} {p v h : Int} {t1 t2 : Tok} (hz : d.length ≤ 100000) (A0 : Oc 0 d p v) (hv : 64 ≤ v ∧ v < 128) (hB : Bits 5 32 h) {l1 l : List UInt8} (hev : h / 32 % 2 = 0) (hev7 : (0 : Int) / 128 % 2 = 0) (hB7 : Bits 7 128 0) (hn : l1.length < 20000) (hl0 : l.length < 20000) (H1 : Has d p (figs l1.length 32 h ++ l1)) (K : Brk d (p + (figs l1.length 32 h ++ l1).length) (figs l.length 128 0 ++ l)) : CtX w 110 [.bytes d.toArray t1, .int p t2] 11 := by
  have HL := A0.all
  unfold CtX; k_fill; intro mean mg mb dp un gd cn cs a ccd outer A₀ base h₀ L m news s Q E B F X N T hk hd hu hret; refine wpAny_call ?_; k_dflt cell_enter; k_steps; exact hret _ _ _ _ _ _ (by assumption) (by assumption) (by assumption)
end
end Mine
end
section
open PySem PySem.W PySem.Spec PySem.Calls PyProof.Rows
set_option Elab.async false
set_option maxRecDepth 100000
set_option maxHeartbeats 0
namespace Mine
/-- the box: its two objects -/
def BoxSt (b l : Addr) (ox ol : Obj) : Prop := ∃ st t c xs c2, ox = PySem.W.listOf #[.ref l, .int st t] c ∧ ol = PySem.W.listOf (List.toArray xs) c2 ∧ 0 ≤ st ∧ st < 2147483647 ∧ (∀ v ∈ xs, ∃ n t, v = .int n t) ∧ xs.length ≤ 24 ∧ b ≠ l
/-- a contract of a def that draws from the box -/
def CtB (w : World) (f : VAddr) (vs : List Value) (k : Nat) (b l : VAddr) (own : Led) (Out : Value → Led → Prop) : Prop :=
  ∀ (mean : ExcName → Option Value) (mg mb : Str → Option Value) (dp un : Nat) (gd : Option (List Code)) (cn : Str) (cs : Scope) (a : Addr) (ccd : Value) (cl : List (Str × Addr)) (outer : List Env) (A₀ : Around) (base h₀ : Heap) (L : Addr) (m : Str → Option Value) (ox ol : Obj) (s : Shared) (Q E : Value → Shared → Prop),
    Below A₀ base outer h₀ → Fr h₀ L s.heap m → (Mine.hd.heap_39 w.params).In h₀ → News h₀ L s.heap (own ++ [(b, ox), (l, ol)]) → BoxSt b l ox ol → (∀ p ∈ own, p.1 ≠ b ∧ p.1 ≠ l) →
    Top Mine.hd.view_39 (looseW Mine.hd.view_39 [Str.ofString "GREATEST"]) mean mg mb h₀ → cs.kind = .function →
    dp + k < recursionLimit → un + 8 * k < cLine →
    (∀ (r : Value) (tl : Led) (h' : Heap) (tk' : Nat) (ox' ol' : Obj), Fr h₀ L h' m → News h₀ L h' (tl ++ (own ++ [(b, ox'), (l, ol')])) → BoxSt b l ox' ol' → (∀ p ∈ tl, p.1 ≠ b ∧ p.1 ≠ l) → Out r tl → Q r { s with heap := h', toks := tk' }) →
    wpAny (model PySem.Challenge.rw_nz0343_01.row.prog w) (ktrTop dp un gd cn cs L a ccd cl outer) (call (.ref f) vs) Q E s
section
variable {w : World} {f : Addr} {vs : List Value} {k : Nat} {b l : Addr} {own : Led} {Out : Value → Led → Prop} {mean : ExcName → Option Value} {mg mb : Str → Option Value} {dp un : Nat} {gd : Option (List Code)} {cn : Str} {cs : Scope} {a : Addr} {ccd : Value} {cl : List (Str × Addr)} {outer : List Env} {A₀ : Around} {base h₀ : Heap} {L : Addr} {m : Str → Option Value} {ox ol : Obj} {s : Shared} {Q E : Value → Shared → Prop}
theorem CtB.use (C : CtB w f vs k b l own Out) (B : Below A₀ base outer h₀) (F : Fr h₀ L s.heap m) (X : (Mine.hd.heap_39 w.params).In h₀) (N : News h₀ L s.heap (own ++ [(b, ox), (l, ol)])) (hb : BoxSt b l ox ol) (ho : ∀ p ∈ own, p.1 ≠ b ∧ p.1 ≠ l)
    (T : Top Mine.hd.view_39 (looseW Mine.hd.view_39 [Str.ofString "GREATEST"]) mean mg mb h₀) (hk : cs.kind = .function) (hd : dp + k < recursionLimit) (hu : un + 8 * k < cLine)
    (ret : ∀ (r : Value) (tl : Led) (h' : Heap) (tk' : Nat) (ox' ol' : Obj), Fr h₀ L h' m → News h₀ L h' (tl ++ (own ++ [(b, ox'), (l, ol')])) → BoxSt b l ox' ol' → (∀ p ∈ tl, p.1 ≠ b ∧ p.1 ≠ l) → Out r tl → Q r { s with heap := h', toks := tk' }) :
    wpAny (model PySem.Challenge.rw_nz0343_01.row.prog w) (ktrTop dp un gd cn cs L a ccd cl outer) (call (.ref f) vs) Q E s := C _ _ _ _ _ _ _ _ _ _ _ _ _ _ _ _ _ _ _ _ _ _ B F X N hb ho T hk hd hu ret
end
section
variable {prog : Program} {w : World} {A : Around} {E : Value → Shared → Prop} {s : Shared} {h₀ : Heap} {L D : Addr} {m : Str → Option Value} {news news' : Led} {y : Value} {q : List Value} {n : Nat}
theorem word_mul {prog : Program} {w : World} {A : Around} {E : Value → Shared → Prop} {s : Shared} {x : Int} {t u : Tok} {Q : Value → Shared → Prop} (hx : 0 ≤ x ∧ x < 128) (h : ∀ (v : List UInt8) t' k, v.length ≤ 127 → Q (.bytes v.toArray t') { s with toks := k }) : wpAny (model prog w) A (binaryOp .Mult (.bytes #[119] t) (.int x u)) Q E s :=
  bytes_mul_any (b := [119]) (by simp) (by omega) (by omega) (by simp) fun t' k => h _ _ _ (by simp; omega)
theorem own1 {e b l : Addr} {o : Obj} (h : b < e ∧ l < e) : ∀ p ∈ [(e, o)], p.1 ≠ b ∧ p.1 ≠ l := fun p hp => by
  obtain rfl := List.mem_singleton.mp hp
  exact ⟨Nat.ne_of_gt h.1, Nat.ne_of_gt h.2⟩
theorem own2 {e b l : Addr} {o : Obj} (h : e ≠ b ∧ e ≠ l) : ∀ p ∈ [(e, o)], p.1 ≠ b ∧ p.1 ≠ l := fun p hp => by
  obtain rfl := List.mem_singleton.mp hp
  exact h
theorem rng_getD {lo hi d : Int} {l : List Int} {n : Int} (h0 : 0 ≤ n) (h1 : n < l.length) (h : ∀ x ∈ l, lo ≤ x ∧ x < hi) : lo ≤ l.getD n.toNat d ∧ l.getD n.toNat d < hi := by
  have hk : n.toNat < l.length := by omega
  rw [List.getD_eq_getElem?_getD, List.getElem?_eq_getElem hk]
  exact h _ (List.getElem_mem hk)
theorem len_cons {Q : Value → Shared → Prop} (N : News h₀ L s.heap news) (hm : (D, PySem.W.listOf (y :: q).toArray n) ∈ news) (hz : (y :: q).length ≤ 24) (h : ∀ t k, Q (.int ((q.length : Int) + 1) t) { s with toks := k }) : wpAny (model prog w) A (call (.builtin "len") [.ref D]) Q E s :=
  len_list (N.isList hm) (by simp only [List.size_toArray]; omega) (by simp only [List.size_toArray, List.length_cons]; have := h (s.toks + 1) (s.toks + 1 + 1); simpa using this)
theorem pop0 {u : Tok} {Q : Value → Shared → Prop} (F : Fr h₀ L s.heap m) (N : News h₀ L s.heap news) (U : Upd D (PySem.W.listOf (y :: q).toArray n) (PySem.W.listOf q.toArray (n + 1)) news news') (hz : (y :: q).length ≤ 24)
    (h : ∀ h', Fr h₀ L h' m → News h₀ L h' news' → Q y { s with heap := h' }) : wpAny (model prog w) A (call (.builtin "list.pop") [.ref D, .int 0 u]) Q E s :=
  kl_popAt (k := 0) (p := []) (q := q) F N rfl (by simp [seqIndex?]) rfl U (by rw [sizeLine_eq]; show (y :: q).length ≤ _; omega) h
end
end Mine
end
section
open PySem PySem.W PySem.Spec PySem.Calls PyProof.Rows
set_option Elab.async false
set_option maxRecDepth 100000
set_option maxHeartbeats 0
set_option rowWalk.seconds 3000
namespace Mine
theorem take0 {w : World} {b l : Addr} {wide : Int} {t2 : Tok} (hw : 0 < wide ∧ wide < 1000000) : CtB w 131 [.ref b, .int wide t2] 5 b l [] (fun v tl => tl = [] ∧ ∃ n t, v = .int n t ∧ 0 ≤ n ∧ n < wide) := by
  k_with_none
  k_with "binaryOp Mod int int" => ((with_reducible show wpAny _ _ (binaryOp Operator.Mod (Value.int _ _) (Value.int (@OfNat.ofNat Int _ _) _)) _ _ _); refine int_mod (by decide) ?_; intro _ _)
  k_with "binaryOp FloorDiv int int" => ((with_reducible show wpAny _ _ (binaryOp Operator.FloorDiv (Value.int _ _) (Value.int (@OfNat.ofNat Int _ _) _)) _ _ _); refine int_div (by decide) (by decide) ?_; intro _ _)
  k_with "call builtin:len" => (k_here; (with_reducible show wpAny _ _ (call (Value.builtin "len") [Value.ref _]) _ _ _); k_dflt (refine' len_cons ?Nq9 ?mq9 ?zq9 ?_; (case Nq9 => k_asm); (case mq9 => k_mem); (case zq9 => assumption)); intro _ _)
  k_with "call builtin:list.pop" => (k_here; k_dflt (refine' pop0 ?Fq9 ?Nq9 ?Uq9 ?zq9 ?_; (case Fq9 => k_asm); (case Nq9 => k_asm); (case Uq9 => k_upd); (case zq9 => assumption)); intro h9 F9 N9; (try dsimp only))
  k_with "binaryOp Mod int int" => ((with_reducible show wpAny _ _ (binaryOp Operator.Mod (Value.int _ _) (Value.int _ _)) _ _ _); refine int_mod (by omega) ?_; intro _ _)
  unfold CtB
  k_fill
  intro mean mg mb dp un gd cn cs a ccd cl outer A₀ base h₀ L m ox ol s Q E B F X N hb ho T hk hd hu hret
  obtain ⟨st, t, c, xs, c2, rfl, rfl, h0, h1, hx, hxz, hbl⟩ := hb
  have hlb := Ne.symm hbl
  rcases xs with _ | ⟨x, xs⟩
  · refine wpAny_call ?_
    k_dflt cell_enter
    k_steps
    refine hret _ [] _ _ _ _ (by k_asm) (by k_asm) ⟨_, _, _, _, _, rfl, rfl, ?_, ?_, hx, hxz, hbl⟩ (fun _ q => nomatch q) ⟨rfl, _, _, rfl, Int.emod_nonneg _ (by omega), Int.emod_lt_of_pos _ hw.1⟩
    · omega
    · omega
  · obtain ⟨n, t', rfl⟩ := hx x (.head _)
    refine wpAny_call ?_
    k_dflt cell_enter
    k_steps
    exact hret _ [] _ _ _ _ (by k_asm) (by k_asm) ⟨_, _, _, xs, _, rfl, rfl, h0, h1, fun v hv => hx v (.tail _ hv), by rw [List.length_cons] at hxz; omega, hbl⟩ (fun _ q => nomatch q) ⟨rfl, _, _, rfl, Int.emod_nonneg _ (by omega), Int.emod_lt_of_pos _ hw.1⟩
theorem take1 {w : World} {b l : Addr} {e : Addr} {o : Obj} {wide : Int} {t2 : Tok} (hw : 0 < wide ∧ wide < 1000000) : CtB w 131 [.ref b, .int wide t2] 5 b l [(e, o)] (fun v tl => tl = [] ∧ ∃ n t, v = .int n t ∧ 0 ≤ n ∧ n < wide) := by
  unfold CtB
  k_fill
  intro mean mg mb dp un gd cn cs a ccd cl outer A₀ base h₀ L m ox ol s Q E B F X N hb ho T hk hd hu hret
  obtain ⟨st, t, c, xs, c2, rfl, rfl, h0, h1, hx, hxz, hbl⟩ := hb
  have hlb := Ne.symm hbl
  have heb := (ho _ (.head _)).1
  have hel := (ho _ (.head _)).2
  dsimp only at heb hel
  rcases xs with _ | ⟨x, xs⟩
  · refine wpAny_call ?_
    k_dflt cell_enter
    k_steps
    refine hret _ [] _ _ _ _ (by k_asm) (by k_asm) ⟨_, _, _, _, _, rfl, rfl, ?_, ?_, hx, hxz, hbl⟩ (fun _ q => nomatch q) ⟨rfl, _, _, rfl, Int.emod_nonneg _ (by omega), Int.emod_lt_of_pos _ hw.1⟩
    · omega
    · omega
  · obtain ⟨n, t', rfl⟩ := hx x (.head _)
    refine wpAny_call ?_
    k_dflt cell_enter
    k_steps
    exact hret _ [] _ _ _ _ (by k_asm) (by k_asm) ⟨_, _, _, xs, _, rfl, rfl, h0, h1, fun v hv => hx v (.tail _ hv), by rw [List.length_cons] at hxz; omega, hbl⟩ (fun _ q => nomatch q) ⟨rfl, _, _, rfl, Int.emod_nonneg _ (by omega), Int.emod_lt_of_pos _ hw.1⟩
end Mine
end
section
open PySem PySem.W PySem.Spec PySem.Calls PyProof.Rows
set_option Elab.async false
set_option maxRecDepth 100000
set_option maxHeartbeats 0
set_option rowWalk.seconds 3000
namespace Mine
theorem number_ct {w : World} {b l : Addr} {bits M : Int} {t2 : Tok} (hM : 2 ^ bits.toNat = M) (hb : 3 ≤ bits ∧ bits ≤ 7 ∧ 8 ≤ M ∧ M ≤ 128) : CtB w 166 [.ref b, .int bits t2] 7 b l [] (fun v tl => tl = [] ∧ ∃ n t, v = .int n t ∧ 0 ≤ n ∧ n < 20000) := by
  k_with_none
  k_with "call ref" => (k_here; first | ((with_reducible show wpAny _ _ (call (Value.ref 131) _) _ _ _); k_dflt (refine' CtB.use (take0 ?Wq9) ?Bq9 ?Fq9 ?Xq9 ?Nq9 ?hbq9 ?hoq9 ?Tq9 ?hkq9 ?hdq9 ?huq9 ?_; (case Wq9 => omega); (case Fq9 => k_asm); (case Bq9 => k_asm); (case Xq9 => k_asm); (case Nq9 => k_asm); (case hbq9 => assumption); (case hoq9 => exact fun _ q => nomatch q); (case Tq9 => k_asm); (case hkq9 => first | exact rfl | assumption); (case hdq9 => ktr_room); (case huq9 => ktr_units)); intro r9 tl9 h9 tk9 ox9 ol9 F9 N9 B9 D9 P9; obtain ⟨e9, n9, t9, e8, c9, d9⟩ := P9; subst e9 e8; simp only [List.cons_append, List.nil_append] at N9; (try dsimp only); (try k_sweep)) | ((with_reducible show wpAny _ _ (call (Value.ref 131) _) _ _ _); k_dflt (refine' CtB.use (take1 ?Wq9) ?Bq9 ?Fq9 ?Xq9 ?Nq9 ?hbq9 ?hoq9 ?Tq9 ?hkq9 ?hdq9 ?huq9 ?_; (case Wq9 => omega); (case Fq9 => k_asm); (case Bq9 => k_asm); (case Xq9 => k_asm); (case Nq9 => k_asm); (case hbq9 => assumption); (case hoq9 => first | exact own1 (by omega) | exact own2 (by assumption)); (case Tq9 => k_asm); (case hkq9 => first | exact rfl | assumption); (case hdq9 => ktr_room); (case huq9 => ktr_units)); intro r9 tl9 h9 tk9 ox9 ol9 F9 N9 B9 D9 P9; obtain ⟨e9, n9, t9, e8, c9, d9⟩ := P9; subst e9 e8; simp only [List.cons_append, List.nil_append] at N9; (try dsimp only); (try k_sweep)))
  k_with "all rng" => first | exact List.forall_mem_nil _ | (refine' List.forall_mem_cons.mpr ⟨?aq9, ?cq9⟩; (case aq9 => omega); (case cq9 => walk_at "all rng"))
  k_with "binaryOp Mult bytes int" => (k_here; k_dflt (refine' word_mul (rng_getD ?P1q9 ?P2q9 ?P3q9) ?_; (case P1q9 => assumption); (case P2q9 => show _ < (8 : Int); omega); (case P3q9 => walk_at "all rng")); intro v9 t9 k9 hv9)
  unfold CtB
  k_fill
  intro mean mg mb dp un gd cn cs a ccd cl outer A₀ base h₀ L m ox ol s Q E B F X N hbx ho T hk hd hu hret
  simp only [List.nil_append, List.cons_append] at N hret
  refine wpAny_call ?_
  k_dflt cell_enter
  k_steps
  k_dflt (refine' hret _ [] _ _ _ _ ?F (cb_drop ?N ?M) ?B (fun _ q => nomatch q) ⟨rfl, ?O⟩; (case F => k_asm); (case N => k_asm); (case B => assumption); (case M => kcj_all); (case O => (refine' ⟨_, _, rfl, rng_getD ?P1 ?P2 ?P3⟩; (case P1 => assumption); (case P2 => show _ < (8 : Int); omega); (case P3 => walk_at "all rng"))))
theorem word_ct {w : World} {b l : Addr} : CtB w 173 [.ref b] 7 b l [] (fun v tl => tl = [] ∧ ∃ (u : List UInt8) (t : Tok), v = .bytes u.toArray t ∧ u.length ≤ 127) := by
  unfold CtB
  k_fill
  intro mean mg mb dp un gd cn cs a ccd cl outer A₀ base h₀ L m ox ol s Q E B F X N hb ho T hk hd hu hret
  simp only [List.nil_append, List.cons_append] at N hret
  refine wpAny_call ?_
  k_dflt cell_enter
  k_steps
  k_dflt (refine' hret _ [] _ _ _ _ ?F (cb_drop ?N ?M) ?B (fun _ q => nomatch q) ⟨rfl, ?O⟩; (case F => k_asm); (case N => k_asm); (case B => assumption); (case M => kcj_all); (case O => exact ⟨_, _, rfl, by assumption⟩))
end Mine
end
section
open PySem PySem.W PySem.Spec PySem.Calls PyProof.Rows
set_option Elab.async false
set_option maxRecDepth 100000
set_option maxHeartbeats 0
set_option rowWalk.seconds 3000
namespace Mine
theorem ints_all {vs : List Value} {ns : List Int} (h : IntsAre vs ns) : ∀ v ∈ vs, ∃ n t, v = .int n t := by
  intro v hv
  obtain ⟨i, hi⟩ := List.mem_iff_getElem?.mp hv
  have hl : i < ns.length := by
    rw [← h.length]
    exact (List.getElem?_eq_some_iff.mp hi).1
  obtain ⟨t, hx⟩ := h.get i ns[i] (by simp [hl])
  rw [hi] at hx
  exact ⟨_, t, Option.some.inj hx⟩
/-- the box's contract -/
def CtBox (w : World) (S : VAddr) (k : Nat) : Prop :=
  ∀ (mean : ExcName → Option Value) (mg mb : Str → Option Value) (dp un : Nat) (gd : Option (List Code)) (cn : Str) (cs : Scope) (a : Addr) (ccd : Value) (cl : List (Str × Addr)) (outer : List Env) (A₀ : Around) (base h₀ : Heap) (L : Addr) (m : Str → Option Value) (vs : List Value) (ns : List Int) (s : Shared) (Q E : Value → Shared → Prop),
    Below A₀ base outer h₀ → Fr h₀ L s.heap m → (Mine.hd.heap_39 w.params).In h₀ → News h₀ L s.heap [] → base.IsList S vs.toArray → IntsAre vs ns → ns.length ≤ 63 →
    Top Mine.hd.view_39 (looseW Mine.hd.view_39 [Str.ofString "GREATEST"]) mean mg mb h₀ → cs.kind = .function →
    dp + k < recursionLimit → un + 8 * k < cLine →
    (∀ (b l : Addr) (h' : Heap) (tk' : Nat) (ox ol : Obj), Fr h₀ L h' m → News h₀ L h' [(b, ox), (l, ol)] → BoxSt b l ox ol → Q (.ref b) { s with heap := h', toks := tk' }) →
    wpAny (model PySem.Challenge.rw_nz0343_01.row.prog w) (ktrTop dp un gd cn cs L a ccd cl outer) (call (.ref 138) [.ref S]) Q E s
theorem stir_rng : ∀ (l : List Int) (a : Int), 0 ≤ a ∧ a < 2147483647 → 0 ≤ l.foldl (fun a' n' => (a' * 31 + if n' < 0 then -n' else n') % 2147483647) a ∧ l.foldl (fun a' n' => (a' * 31 + if n' < 0 then -n' else n') % 2147483647) a < 2147483647
  | [], _, h => h
  | n :: l, a, h => by
    rw [List.foldl_cons]
    exact stir_rng l _ (by omega)
theorem box_ret {h₀ : Heap} {L : Addr} {m : Str → Option Value} {s : Shared} {Q : Value → Shared → Prop} (hret : ∀ (b l : Addr) (h' : Heap) (tk' : Nat) (ox ol : Obj), Fr h₀ L h' m → News h₀ L h' [(b, ox), (l, ol)] → BoxSt b l ox ol → Q (.ref b) { s with heap := h', toks := tk' })
    {led : Led} {h' : Heap} {tk' : Nat} {b l : Addr} {st : Int} {t : Tok} {c c2 : Nat} {xs : List Value} {ns : List Int} (F : Fr h₀ L h' m) (N : News h₀ L h' led) (hm : (b, PySem.W.listOf #[.ref l, .int st t] c) ∈ led) (hm2 : (l, PySem.W.listOf xs.toArray c2) ∈ led)
    (hs : 0 ≤ st ∧ st < 2147483647) (hI : IntsAre xs ns) (hz : ns.length ≤ 24) (hbl : b ≠ l) : Q (.ref b) { s with heap := h', toks := tk' } :=
  hret b l h' tk' _ _ F (fun p hp => by
    rcases List.mem_cons.mp hp with rfl | hp
    · exact N _ hm
    rcases List.mem_cons.mp hp with rfl | hp
    · exact N _ hm2
    · exact nomatch hp) ⟨st, t, c, xs, c2, rfl, rfl, hs.1, hs.2, ints_all hI, by rw [hI.length]; exact hz, hbl⟩
theorem box_ct {w : World} {S : Addr} : CtBox w S 6 := by
  k_with_none
  k_with "binaryOp Mod int int" => ((with_reducible show wpAny _ _ (binaryOp Operator.Mod (Value.int _ _) (Value.int (@OfNat.ofNat Int _ _) _)) _ _ _); refine int_mod (by decide) ?_; intro _ _)
  k_with "binaryOp FloorDiv int int" => ((with_reducible show wpAny _ _ (binaryOp Operator.FloorDiv (Value.int _ _) (Value.int (@OfNat.ofNat Int _ _) _)) _ _ _); refine int_div (by decide) (by decide) ?_; intro _ _)
  k_with "exec For Name Subscript cons nil" => (k_here; (rename Fr _ _ _ _ => lF'); (with_unfolding_all refine' For_invVF lF' ?k1q9 ?k2q9 ?_; (case k1q9 => exact rfl); (case k2q9 => exact rfl); k_whole))
  unfold CtBox
  k_fill
  intro mean mg mb dp un gd cn cs a ccd cl outer A₀ base h₀ L m vs ns s Q E B F X N hS hI hz T hk hd hu hret
  refine wpAny_call ?_
  k_dflt cell_enter
  k_steps
  k_dflt (refine' box_ret hret ?F ?N ?m ?m2 ?s ?I ?z ?n; (case F => k_asm); (case N => k_asm); (case m => k_mem); (case m2 => k_mem); (case I => assumption); (case s => exact stir_rng _ _ (by decide)); (case z => (simp only [List.length_take]; omega)); (case n => k_ne))
end Mine
end
section
open PySem PySem.W PySem.Spec PySem.Calls PyProof.Rows
set_option Elab.async false
set_option maxRecDepth 100000
set_option maxHeartbeats 0
set_option rowWalk.seconds 3000
namespace Mine

abbrev neverKvs (t1 t2 t3 : Tok) : List (Str × Value) := [(Str.ofString "static_name", .int 32 t1), (Str.ofString "dynamic_name", .int 32 t2), (Str.ofString "post_name", .int 8 t3)]
theorem nevers_ct {w : World} : CtT w 152 [] 3 (fun _ => True) (fun v tl => ∃ d o t1 t2 t3, v = .ref d ∧ tl = [(d, o)] ∧ (d == sysModules) = false ∧ o.IsDictOf (PySem.strKind PySem.Challenge.rw_nz0343_01.row.prog w) (neverKvs t1 t2 t3)) := by
  k_with_none
  unfold CtT
  k_fill
  intro mean mg mb dp un gd cn cs a ccd cl outer A₀ base h₀ L m news s Q E B F X N hl T hk hd hu hret
  refine wpAny_call ?_
  k_dflt cell_enter
  k_steps
  k_dflt (refine' hret _ [(_, _)] _ _ ?F ?N ⟨_, _, _, _, _, rfl, rfl, ?S, ?D⟩; (case F => k_asm); (case N => k_asm); (case D => assumption); (case S => assumption))
def headTab : List (Str × Int × Int) := [(Str.ofString "static", 192, 6), (Str.ofString "dynamic", 128, 6), (Str.ofString "post", 16, 4), (Str.ofString "static_name", 80, 4), (Str.ofString "dynamic_name", 64, 4), (Str.ofString "post_name", 0, 3), (Str.ofString "capacity", 32, 5), (Str.ofString "duplicate", 0, 5), (Str.ofString "insert_static", 192, 6), (Str.ofString "insert_dynamic", 128, 6), (Str.ofString "ack", 128, 7), (Str.ofString "cancel", 64, 6), (Str.ofString "increment", 0, 6)]
theorem heads_pick {kd : Str} {h b : Int} {a0 a1 a2 a3 a4 a5 a6 a7 a8 a9 a10 a11 a12 : Addr} {k0 x0 y0 k1 x1 y1 k2 x2 y2 k3 x3 y3 k4 x4 y4 k5 x5 y5 k6 x6 y6 k7 x7 y7 k8 x8 y8 k9 x9 y9 k10 x10 y10 k11 x11 y11 k12 x12 y12 : Tok} {rest : Led} (hm : (kd, h, b) ∈ headTab) : ∃ q t1 t2, (q, tupO [.int h t1, .int b t2]) ∈ [(a12, tupO [.int 0 x12, .int 6 y12]), (a11, tupO [.int 64 x11, .int 6 y11]), (a10, tupO [.int 128 x10, .int 7 y10]), (a9, tupO [.int 128 x9, .int 6 y9]), (a8, tupO [.int 192 x8, .int 6 y8]), (a7, tupO [.int 0 x7, .int 5 y7]), (a6, tupO [.int 32 x6, .int 5 y6]), (a5, tupO [.int 0 x5, .int 3 y5]), (a4, tupO [.int 64 x4, .int 4 y4]), (a3, tupO [.int 80 x3, .int 4 y3]), (a2, tupO [.int 16 x2, .int 4 y2]), (a1, tupO [.int 128 x1, .int 6 y1]), (a0, tupO [.int 192 x0, .int 6 y0])] ++ rest ∧ valueAt (strPairs [(Value.str (Str.ofString "static") k0, Value.ref a0), (Value.str (Str.ofString "dynamic") k1, Value.ref a1), (Value.str (Str.ofString "post") k2, Value.ref a2), (Value.str (Str.ofString "static_name") k3, Value.ref a3), (Value.str (Str.ofString "dynamic_name") k4, Value.ref a4), (Value.str (Str.ofString "post_name") k5, Value.ref a5), (Value.str (Str.ofString "capacity") k6, Value.ref a6), (Value.str (Str.ofString "duplicate") k7, Value.ref a7), (Value.str (Str.ofString "insert_static") k8, Value.ref a8), (Value.str (Str.ofString "insert_dynamic") k9, Value.ref a9), (Value.str (Str.ofString "ack") k10, Value.ref a10), (Value.str (Str.ofString "cancel") k11, Value.ref a11), (Value.str (Str.ofString "increment") k12, Value.ref a12)]) kd = some (.ref q) := by
  simp only [headTab, List.mem_cons, List.not_mem_nil, or_false, Prod.mk.injEq] at hm
  rcases hm with ⟨rfl, rfl, rfl⟩ | ⟨rfl, rfl, rfl⟩ | ⟨rfl, rfl, rfl⟩ | ⟨rfl, rfl, rfl⟩ | ⟨rfl, rfl, rfl⟩ | ⟨rfl, rfl, rfl⟩ | ⟨rfl, rfl, rfl⟩ | ⟨rfl, rfl, rfl⟩ | ⟨rfl, rfl, rfl⟩ | ⟨rfl, rfl, rfl⟩ | ⟨rfl, rfl, rfl⟩ | ⟨rfl, rfl, rfl⟩ | ⟨rfl, rfl, rfl⟩
  · exact ⟨_, _, _, .tail _ (.tail _ (.tail _ (.tail _ (.tail _ (.tail _ (.tail _ (.tail _ (.tail _ (.tail _ (.tail _ (.tail _ (.head _)))))))))))), rfl⟩
  · exact ⟨_, _, _, .tail _ (.tail _ (.tail _ (.tail _ (.tail _ (.tail _ (.tail _ (.tail _ (.tail _ (.tail _ (.tail _ (.head _))))))))))), rfl⟩
  · exact ⟨_, _, _, .tail _ (.tail _ (.tail _ (.tail _ (.tail _ (.tail _ (.tail _ (.tail _ (.tail _ (.tail _ (.head _)))))))))), rfl⟩
  · exact ⟨_, _, _, .tail _ (.tail _ (.tail _ (.tail _ (.tail _ (.tail _ (.tail _ (.tail _ (.tail _ (.head _))))))))), rfl⟩
  · exact ⟨_, _, _, .tail _ (.tail _ (.tail _ (.tail _ (.tail _ (.tail _ (.tail _ (.tail _ (.head _)))))))), rfl⟩
  · exact ⟨_, _, _, .tail _ (.tail _ (.tail _ (.tail _ (.tail _ (.tail _ (.tail _ (.head _))))))), rfl⟩
  · exact ⟨_, _, _, .tail _ (.tail _ (.tail _ (.tail _ (.tail _ (.tail _ (.head _)))))), rfl⟩
  · exact ⟨_, _, _, .tail _ (.tail _ (.tail _ (.tail _ (.tail _ (.head _))))), rfl⟩
  · exact ⟨_, _, _, .tail _ (.tail _ (.tail _ (.tail _ (.head _)))), rfl⟩
  · exact ⟨_, _, _, .tail _ (.tail _ (.tail _ (.head _))), rfl⟩
  · exact ⟨_, _, _, .tail _ (.tail _ (.head _)), rfl⟩
  · exact ⟨_, _, _, .tail _ (.head _), rfl⟩
  · exact ⟨_, _, _, .head _, rfl⟩
theorem heads_ct {w : World} {kd : Str} {h b : Int} (hm : (kd, h, b) ∈ headTab) : CtT w 145 [] 3 (fun _ => True) (fun v tl => ∃ d o q t1 t2 kvs, v = .ref d ∧ tl = [(d, o), (q, tupO [.int h t1, .int b t2])] ∧ o.IsDictOf (PySem.strKind PySem.Challenge.rw_nz0343_01.row.prog w) kvs ∧ valueAt kvs kd = some (.ref q)) := by
  k_with_none
  k_with "newTuple" => (k_here; k_dflt (refine' kup_newTuple ?Fq9 ?Nq9 ?_ ?zq9; (case Fq9 => k_asm); (case Nq9 => k_asm); (case zq9 => kmk_size)); intro D' h' F' N' l1; (try k_lt l1); (try dsimp only))
  k_with "eval Dict" => (k_here; k_dflt (refine' kdn_str ?qq9 ?Fq9 ?Nq9 ?bq9 ?aq9 ?lq9 ?eq9 ?nq9 ?_; (case qq9 => rfl); (case Fq9 => k_asm); (case Nq9 => k_asm); (case bq9 => exact Top.nolimit (by k_asm)); (case aq9 => rfl); (case lq9 => rfl); (case eq9 => exact List.cons_ne_nil _ _); (case nq9 => exact Nat.le_of_ble_eq_true rfl)); intro d' h' o' F' N' l1 lo' hd'; (try k_lt l1); (try dsimp only))
  k_with "KdnMade" => (k_here; k_dflt (refine' kdn_made_str ?Fq9 ?Nq9 ?Uq9 ?dq9 ?kq9 ?nq9 ?_; (case Fq9 => k_asm); (case Nq9 => k_asm); (case Uq9 => k_updF); (case dq9 => k_asm); (case kq9 => rfl); (case nq9 => exact of_decide_eq_true (by kernel_rfl!))); intro h' o' F' N' hd'; (try dsimp only at N' ⊢))
  unfold CtT
  k_fill
  intro mean mg mb dp un gd cn cs a ccd cl outer A₀ base h₀ L m news s Q E B F X N hl T hk hd hu hret
  refine wpAny_call ?_
  k_dflt cell_enter
  k_steps
  obtain ⟨q9, u1, u2, hq9, hv9⟩ := heads_pick hm
  k_dflt (refine' ret2 hret ?F9 ?N9 ?m9 ?m8 ?h9 ⟨_, _, _, _, _, _, rfl, rfl, ?D9, ?V9⟩; (case D9 => assumption); (case V9 => exact hv9); (case F9 => k_asm); (case N9 => k_asm); (case m9 => k_mem); (case m8 => exact hq9); (case h9 => kcj_all))
end Mine
end
section
open PySem PySem.W PySem.Spec PySem.Calls PyProof.Rows
set_option Elab.async false
set_option maxRecDepth 100000
set_option maxHeartbeats 0
namespace Mine
def PairOut (G : List D → List UInt8 → Prop) (v : Value) (tl : Led) : Prop := ∃ p q vs ds due t, tl = [(p, tupO [.ref q, .bytes due.toArray t]), (q, tupO vs)] ∧ v = .ref p ∧ All2 ds vs ∧ G ds due
section
variable {prog : Program} {w : World} {A : Around} {E : Value → Shared → Prop} {s : Shared}
theorem eq_strF {x y : Str} {t u : Tok} {Q : Value → Shared → Prop} (e : (x == y) = false) (h : Q (.bool false) s) : wpAny (model prog w) A (compareOp .Eq (.str x t) (.str y u)) Q E s := PyProof.Rows.eq_str (by rw [e]; exact h)
theorem kda_get {d : Addr} {o : Obj} {kd : Str} {t : Tok} {kvs : List (Str × Value)} {v : Value} {h₀ : Heap} {L : Addr} {news : Led} {Q : Value → Shared → Prop} (N : News h₀ L s.heap news) (hp : (d, o) ∈ news) (hd : o.IsDictOf (PySem.strKind prog w) kvs) (hl : valueAt kvs kd = some v) (h : Q v { s with toks := s.toks + 1 }) :
    wpAny (model prog w) A (getItem (.ref d) (.str kd t)) Q E s := wpAny_getItem_of (strKind_is _ _ _ _) (kda_dict N hp hd).mapOf hl h
theorem in_two {d : Addr} {y1 y2 x : Str} {t1 t2 u : Tok} {b : Bool} {h₀ : Heap} {L : Addr} {news : Led} {Q : Value → Shared → Prop} (N : News h₀ L s.heap news) (hm : (d, tupO [.str y1 t1, .str y2 t2]) ∈ news) (e : ([y1, y2].any (· == x)) = b) (h : Q (.bool b) s) : wpAny (model prog w) A (compareOp .In (.str x u) (.ref d)) Q E s :=
  in_tuple_strs (News.isTup N hm) (ys := [y1, y2]) (by repeat constructor) (by rw [e]; exact h)
end
theorem pair_ret {b l : Addr} {h₀ : Heap} {L : Addr} {m : Str → Option Value} {s : Shared} {Q : Value → Shared → Prop} {G : List D → List UInt8 → Prop}
    (hret : ∀ (r : Value) (tl : Led) (h' : Heap) (tk' : Nat) (ox' ol' : Obj), Fr h₀ L h' m → News h₀ L h' (tl ++ [(b, ox'), (l, ol')]) → BoxSt b l ox' ol' → (∀ p ∈ tl, p.1 ≠ b ∧ p.1 ≠ l) → PairOut G r tl → Q r { s with heap := h', toks := tk' })
    {led : Led} {h' : Heap} {tk' : Nat} {p q : Addr} {ox' ol' : Obj} {due : List UInt8} {t : Tok} {ds : List D} {vs : List Value} (F : Fr h₀ L h' m) (hB : BoxSt b l ox' ol') (N : News h₀ L h' led)
    (hp : (p, tupO [.ref q, .bytes due.toArray t]) ∈ led) (hq : (q, tupO vs) ∈ led) (hb : (b, ox') ∈ led) (hl : (l, ol') ∈ led) (n1 : (@LT.lt Nat instLTNat b p ∧ @LT.lt Nat instLTNat l p) ∧ @LT.lt Nat instLTNat b q ∧ @LT.lt Nat instLTNat l q) (ha : All2 ds vs) (hg : G ds due) : Q (.ref p) { s with heap := h', toks := tk' } := by
  refine hret _ [(p, _), (q, _)] _ _ ox' ol' F (fun x hx => ?_) hB (fun x hx => ?_) ⟨p, q, vs, ds, due, t, rfl, rfl, ha, hg⟩
  · simp only [List.cons_append, List.nil_append, List.mem_cons, List.not_mem_nil, or_false] at hx
    rcases hx with rfl | rfl | rfl | rfl
    · exact N _ hp
    · exact N _ hq
    · exact N _ hb
    · exact N _ hl
  · simp only [List.mem_cons, List.not_mem_nil, or_false] at hx
    rcases hx with rfl | rfl
    · exact ⟨Nat.ne_of_gt n1.1.1, Nat.ne_of_gt n1.1.2⟩
    · exact ⟨Nat.ne_of_gt n1.2.1, Nat.ne_of_gt n1.2.2⟩
theorem nev_no {kd : Str} (h : kd ∉ [Str.ofString "static_name", Str.ofString "dynamic_name", Str.ofString "post_name"]) (t1 t2 t3 : Tok) : (valueAt (neverKvs t1 t2 t3) kd).isSome = false := by
  simp only [List.mem_cons, List.not_mem_nil, or_false, not_or] at h
  simp [valueAt, neverKvs, Ne.symm h.1, Ne.symm h.2.1, Ne.symm h.2.2]
def neverTab : List (Str × Int) := [(Str.ofString "static_name", 32), (Str.ofString "dynamic_name", 32), (Str.ofString "post_name", 8)]
theorem nev_yes {kd : Str} {v : Int} (h : (kd, v) ∈ neverTab) (t1 t2 t3 : Tok) : ∃ t, valueAt (neverKvs t1 t2 t3) kd = some (.int v t) ∧ (valueAt (neverKvs t1 t2 t3) kd).isSome = true := by
  simp only [neverTab, List.mem_cons, List.not_mem_nil, or_false, Prod.mk.injEq] at h
  rcases h with ⟨rfl, rfl⟩ | ⟨rfl, rfl⟩ | ⟨rfl, rfl⟩ <;> exact ⟨_, rfl, rfl⟩
theorem a_plain {k : Str} {n : Int} {t0 t1 : Tok} : All2 [.s k, .i n] [.str k t0, .int n t1] := ⟨⟨_, rfl⟩, ⟨_, rfl⟩, trivial⟩
theorem a_ins {k : Str} {n : Int} {x : List UInt8} {t0 t1 t2 : Tok} : All2 [.s k, .i n, .y x] [.str k t0, .int n t1, .bytes x.toArray t2] := ⟨⟨_, rfl⟩, ⟨_, rfl⟩, ⟨_, rfl⟩, trivial⟩
theorem a_names {k : Str} {n : Int} {v : Bool} {x : List UInt8} {t0 t1 t2 : Tok} : All2 [.s k, .i n, .b v, .y x] [.str k t0, .int n t1, .bool v, .bytes x.toArray t2] := ⟨⟨_, rfl⟩, ⟨_, rfl⟩, rfl, ⟨_, rfl⟩, trivial⟩
theorem a_lit {k : Str} {v : Bool} {y x : List UInt8} {t0 t1 t2 : Tok} : All2 [.s k, .y y, .b v, .y x] [.str k t0, .bytes y.toArray t1, .bool v, .bytes x.toArray t2] := ⟨⟨_, rfl⟩, ⟨_, rfl⟩, rfl, ⟨_, rfl⟩, trivial⟩
theorem a_inslit {k : Str} {y x : List UInt8} {t0 t1 t2 : Tok} : All2 [.s k, .y y, .y x] [.str k t0, .bytes y.toArray t1, .bytes x.toArray t2] := ⟨⟨_, rfl⟩, ⟨_, rfl⟩, ⟨_, rfl⟩, trivial⟩
theorem bits7 : Bits 7 128 0 := by decide
theorem bits5 : Bits 5 32 64 := by decide
theorem bits30 : Bits 3 8 32 := by decide
theorem bits31 : Bits 3 8 48 := by decide
end Mine
end
section
open PySem PySem.W PySem.Spec PySem.Calls PyProof.Rows
set_option Elab.async false
set_option maxRecDepth 100000
set_option maxHeartbeats 0
set_option rowWalk.seconds 3000
namespace Mine
theorem pair_plain {w : World} {b l : Addr} {kd : Str} {tk : Tok} {h c M : Int} (hm : (kd, h, c) ∈ headTab) (hB : Bits c M h) (e1 : (kd == Str.ofString "literal") = false) (e2 : (kd == Str.ofString "insert_literal") = false)
    (e3 : kd ∉ [Str.ofString "static_name", Str.ofString "dynamic_name", Str.ofString "post_name"]) (e4 : ([Str.ofString "insert_static", Str.ofString "insert_dynamic"].any (· == kd)) = false) :
    CtB w 180 [.ref b, .str kd tk] 12 b l [] (PairOut fun ds due => ∃ n, (0 ≤ n ∧ n < 20000) ∧ ds = [.s kd, .i n] ∧ due = figs n M h) := by
  k_with_none
  k_with "compareOp Eq str str" => (k_dflt (refine eq_strF (by assumption) ?_))
  k_with "compareOp In str ref" => (k_here; k_dflt (first | (refine' kda_in ?Nq9 ?mq9 ?dq9 ?lq9 (strKind_is _ _ _ _) _ ?eq9 ?_; (case dq9 => assumption); (case Nq9 => k_asm); (case mq9 => k_mem); (case lq9 => assumption); (case eq9 => assumption)) | (refine' in_two ?Nq9 ?mq9 ?eq9 ?_; (case Nq9 => k_asm); (case mq9 => k_mem); (case eq9 => assumption))))
  k_with "getItem ref str" => (k_here; k_dflt (refine' kda_get ?Nq9 ?mq9 ?dq9 ?eq9 ?_; (case dq9 => assumption); (case Nq9 => k_asm); (case mq9 => k_mem); (case eq9 => assumption)))
  k_with "call ref" => (k_here; first | ((with_reducible show wpAny _ _ (call (Value.ref 166) _) _ _ _); k_dflt (refine' CtB.use (number_ct ?Q1q9 ?Q2q9) ?Bq9 ?Fq9 ?Xq9 ?Nq9 ?hbq9 ?hoq9 ?Tq9 ?hkq9 ?hdq9 ?huq9 ?_; (case Q1q9 => assumption); (case Q2q9 => assumption); (case Fq9 => k_asm); (case Bq9 => k_asm); (case Xq9 => k_asm); (case hbq9 => assumption); (case Nq9 => first | k_asm | (refine cb_drop (by k_asm) ?_; kcj_all)); (case hoq9 => exact fun _ q => nomatch q); (case Tq9 => k_asm); (case hkq9 => first | exact rfl | assumption); (case hdq9 => ktr_room); (case huq9 => ktr_units)); intro r9 tl9 h9 tk9 ox9 ol9 F9 N9 B9 D9 P9; obtain ⟨e9, n9, t9, e8, c9, d9⟩ := P9; subst e9 e8; simp only [List.cons_append, List.nil_append] at N9; (try dsimp only); (try k_sweep)) | ((with_reducible show wpAny _ _ (call (Value.ref 173) _) _ _ _); k_dflt (refine' CtB.use (word_ct) ?Bq9 ?Fq9 ?Xq9 ?Nq9 ?hbq9 ?hoq9 ?Tq9 ?hkq9 ?hdq9 ?huq9 ?_; (case Fq9 => k_asm); (case Bq9 => k_asm); (case Xq9 => k_asm); (case hbq9 => assumption); (case Nq9 => first | k_asm | (refine cb_drop (by k_asm) ?_; kcj_all)); (case hoq9 => exact fun _ q => nomatch q); (case Tq9 => k_asm); (case hkq9 => first | exact rfl | assumption); (case hdq9 => ktr_room); (case huq9 => ktr_units)); intro r9 tl9 h9 tk9 ox9 ol9 F9 N9 B9 D9 P9; obtain ⟨e9, n9, t9, e8, c9⟩ := P9; subst e9 e8; simp only [List.cons_append, List.nil_append] at N9; (try dsimp only); (try k_sweep)) | ((with_reducible show wpAny _ _ (call (Value.ref 131) _) _ _ _); k_dflt (refine' CtB.use (take0 ?Wq9) ?Bq9 ?Fq9 ?Xq9 ?Nq9 ?hbq9 ?hoq9 ?Tq9 ?hkq9 ?hdq9 ?huq9 ?_; (case Wq9 => omega); (case Fq9 => k_asm); (case Bq9 => k_asm); (case Xq9 => k_asm); (case hbq9 => assumption); (case Nq9 => first | k_asm | (refine cb_drop (by k_asm) ?_; kcj_all)); (case hoq9 => exact fun _ q => nomatch q); (case Tq9 => k_asm); (case hkq9 => first | exact rfl | assumption); (case hdq9 => ktr_room); (case huq9 => ktr_units)); intro r9 tl9 h9 tk9 ox9 ol9 F9 N9 B9 D9 P9; obtain ⟨e9, n9, t9, e8, c9, d9⟩ := P9; subst e9 e8; simp only [List.cons_append, List.nil_append] at N9; (try dsimp only); (try k_sweep)))
  k_with "call ref" => (k_here; first | ((with_reducible show wpAny _ _ (call (Value.ref 145) _) _ _ _); k_dflt (refine' CtT.use (heads_ct ?Q1q9) ?Bq9 ?Fq9 ?Xq9 ?Nq9 ?hlq9 ?Tq9 ?hkq9 ?hdq9 ?huq9 ?_; (case hlq9 => exact trivial); (case Q1q9 => assumption); (case Fq9 => k_asm); (case Bq9 => k_asm); (case Xq9 => k_asm); (case Nq9 => k_asm); (case Tq9 => k_asm); (case hkq9 => first | exact rfl | assumption); (case hdq9 => ktr_room); (case huq9 => ktr_units)); intro r9 tl9 h9 tk9 F9 N9 P9; obtain ⟨d9, o9, q9, t9, u9, k9, e9, e8, D9, V9⟩ := P9; subst e9 e8; simp only [List.cons_append, List.nil_append] at N9; (try dsimp only); (try k_sweep)) | ((with_reducible show wpAny _ _ (call (Value.ref 152) _) _ _ _); k_dflt (refine' CtT.use (nevers_ct) ?Bq9 ?Fq9 ?Xq9 ?Nq9 ?hlq9 ?Tq9 ?hkq9 ?hdq9 ?huq9 ?_; (case hlq9 => exact trivial); (case Fq9 => k_asm); (case Bq9 => k_asm); (case Xq9 => k_asm); (case Nq9 => k_asm); (case Tq9 => k_asm); (case hkq9 => first | exact rfl | assumption); (case hdq9 => ktr_room); (case huq9 => ktr_units)); intro r9 tl9 h9 tk9 F9 N9 P9; obtain ⟨d9, o9, t9, u9, v9, e9, e8, l9, D9⟩ := P9; subst e9 e8; simp only [List.cons_append, List.nil_append] at N9; (have V9 := nev_no (by assumption) t9 u9 v9); (try dsimp only); (try k_sweep)))
  k_with "call ref" => (k_here; (with_reducible show wpAny _ _ (call (Value.ref 159) _) _ _ _); k_dflt (refine' Ct.use (figures_b (b := _) (M := _) ?Q1q9 ?Q2q9) ?Bq9 ?Fq9 ?Xq9 ?Nq9 ?Tq9 ?hkq9 ?hdq9 ?huq9 ?_; (case Q1q9 => first | assumption | exact bits7 | exact bits5 | exact bits30 | exact bits31); (case Q2q9 => omega); (case Fq9 => k_asm); (case Bq9 => k_asm); (case Xq9 => k_asm); (case Nq9 => k_asm); (case Tq9 => k_asm); (case hkq9 => first | exact rfl | assumption); (case hdq9 => ktr_room); (case huq9 => ktr_units)); intro r9 tl9 h9 tk9 F9 N9 O9 P9; obtain ⟨e9, t9, e8⟩ := P9; clear O9; subst e9 e8; simp only [List.nil_append] at N9; (try dsimp only); (try k_sweep))
  have hB1 := hB.1
  have hB2 := hB.2.1
  unfold CtB
  k_fill
  intro mean mg mb dp un gd cn cs a ccd cl outer A₀ base h₀ L m ox ol s Q E B F X N hbx ho T hk hd hu hret
  simp only [List.nil_append, List.cons_append] at N hret
  refine wpAny_call ?_
  k_dflt cell_enter
  k_steps
  k_dflt (refine' pair_ret hret ?F ?B ?N ?m ?m2 ?m3 ?m4 ?n ?a ?g; (case F => k_asm); (case B => assumption); (case N => k_asm); (case m => k_mem); (case m2 => k_mem); (case m3 => k_mem); (case m4 => k_mem); (case a => exact a_plain); (case g => exact ⟨_, ⟨by assumption, by assumption⟩, rfl, rfl⟩); (case n => omega))
end Mine
end
section
open PySem PySem.W PySem.Spec PySem.Calls PyProof.Rows
set_option Elab.async false
set_option maxRecDepth 100000
set_option maxHeartbeats 0
set_option rowWalk.seconds 3000
namespace Mine
theorem pair_ins {w : World} {b l : Addr} {kd : Str} {tk : Tok} {h c M : Int} (hm : (kd, h, c) ∈ headTab) (hB : Bits c M h) (e1 : (kd == Str.ofString "literal") = false) (e2 : (kd == Str.ofString "insert_literal") = false)
    (e3 : kd ∉ [Str.ofString "static_name", Str.ofString "dynamic_name", Str.ofString "post_name"]) (e4 : ([Str.ofString "insert_static", Str.ofString "insert_dynamic"].any (· == kd)) = true) :
    CtB w 180 [.ref b, .str kd tk] 12 b l [] (PairOut fun ds due => ∃ n x, (0 ≤ n ∧ n < 20000) ∧ x.length ≤ 127 ∧ ds = [.s kd, .i n, .y x] ∧ due = figs n M h ++ (figs x.length 128 0 ++ x)) := by
  k_with_none
  k_with "compareOp Eq str str" => (k_dflt (refine eq_strF (by assumption) ?_))
  k_with "compareOp In str ref" => (k_here; k_dflt (first | (refine' kda_in ?Nq9 ?mq9 ?dq9 ?lq9 (strKind_is _ _ _ _) _ ?eq9 ?_; (case dq9 => assumption); (case Nq9 => k_asm); (case mq9 => k_mem); (case lq9 => assumption); (case eq9 => assumption)) | (refine' in_two ?Nq9 ?mq9 ?eq9 ?_; (case Nq9 => k_asm); (case mq9 => k_mem); (case eq9 => assumption))))
  k_with "getItem ref str" => (k_here; k_dflt (refine' kda_get ?Nq9 ?mq9 ?dq9 ?eq9 ?_; (case dq9 => assumption); (case Nq9 => k_asm); (case mq9 => k_mem); (case eq9 => assumption)))
  k_with "call builtin:len" => (k_here; (with_reducible show wpAny _ _ (call (Value.builtin "len") [Value.bytes (List.toArray _) _]) _ _ _); (refine len_by (by omega) ?_); intro _ _)
  k_with "call ref" => (k_here; first | ((with_reducible show wpAny _ _ (call (Value.ref 166) _) _ _ _); k_dflt (refine' CtB.use (number_ct ?Q1q9 ?Q2q9) ?Bq9 ?Fq9 ?Xq9 ?Nq9 ?hbq9 ?hoq9 ?Tq9 ?hkq9 ?hdq9 ?huq9 ?_; (case Q1q9 => assumption); (case Q2q9 => assumption); (case Fq9 => k_asm); (case Bq9 => k_asm); (case Xq9 => k_asm); (case hbq9 => assumption); (case Nq9 => first | k_asm | (refine cb_drop (by k_asm) ?_; kcj_all)); (case hoq9 => exact fun _ q => nomatch q); (case Tq9 => k_asm); (case hkq9 => first | exact rfl | assumption); (case hdq9 => ktr_room); (case huq9 => ktr_units)); intro r9 tl9 h9 tk9 ox9 ol9 F9 N9 B9 D9 P9; obtain ⟨e9, n9, t9, e8, c9, d9⟩ := P9; subst e9 e8; simp only [List.cons_append, List.nil_append] at N9; (try dsimp only); (try k_sweep)) | ((with_reducible show wpAny _ _ (call (Value.ref 173) _) _ _ _); k_dflt (refine' CtB.use (word_ct) ?Bq9 ?Fq9 ?Xq9 ?Nq9 ?hbq9 ?hoq9 ?Tq9 ?hkq9 ?hdq9 ?huq9 ?_; (case Fq9 => k_asm); (case Bq9 => k_asm); (case Xq9 => k_asm); (case hbq9 => assumption); (case Nq9 => first | k_asm | (refine cb_drop (by k_asm) ?_; kcj_all)); (case hoq9 => exact fun _ q => nomatch q); (case Tq9 => k_asm); (case hkq9 => first | exact rfl | assumption); (case hdq9 => ktr_room); (case huq9 => ktr_units)); intro r9 tl9 h9 tk9 ox9 ol9 F9 N9 B9 D9 P9; obtain ⟨e9, n9, t9, e8, c9⟩ := P9; subst e9 e8; simp only [List.cons_append, List.nil_append] at N9; (try dsimp only); (try k_sweep)) | ((with_reducible show wpAny _ _ (call (Value.ref 131) _) _ _ _); k_dflt (refine' CtB.use (take0 ?Wq9) ?Bq9 ?Fq9 ?Xq9 ?Nq9 ?hbq9 ?hoq9 ?Tq9 ?hkq9 ?hdq9 ?huq9 ?_; (case Wq9 => omega); (case Fq9 => k_asm); (case Bq9 => k_asm); (case Xq9 => k_asm); (case hbq9 => assumption); (case Nq9 => first | k_asm | (refine cb_drop (by k_asm) ?_; kcj_all)); (case hoq9 => exact fun _ q => nomatch q); (case Tq9 => k_asm); (case hkq9 => first | exact rfl | assumption); (case hdq9 => ktr_room); (case huq9 => ktr_units)); intro r9 tl9 h9 tk9 ox9 ol9 F9 N9 B9 D9 P9; obtain ⟨e9, n9, t9, e8, c9, d9⟩ := P9; subst e9 e8; simp only [List.cons_append, List.nil_append] at N9; (try dsimp only); (try k_sweep)))
  k_with "call ref" => (k_here; first | ((with_reducible show wpAny _ _ (call (Value.ref 145) _) _ _ _); k_dflt (refine' CtT.use (heads_ct ?Q1q9) ?Bq9 ?Fq9 ?Xq9 ?Nq9 ?hlq9 ?Tq9 ?hkq9 ?hdq9 ?huq9 ?_; (case hlq9 => exact trivial); (case Q1q9 => assumption); (case Fq9 => k_asm); (case Bq9 => k_asm); (case Xq9 => k_asm); (case Nq9 => k_asm); (case Tq9 => k_asm); (case hkq9 => first | exact rfl | assumption); (case hdq9 => ktr_room); (case huq9 => ktr_units)); intro r9 tl9 h9 tk9 F9 N9 P9; obtain ⟨d9, o9, q9, t9, u9, k9, e9, e8, D9, V9⟩ := P9; subst e9 e8; simp only [List.cons_append, List.nil_append] at N9; (try dsimp only); (try k_sweep)) | ((with_reducible show wpAny _ _ (call (Value.ref 152) _) _ _ _); k_dflt (refine' CtT.use (nevers_ct) ?Bq9 ?Fq9 ?Xq9 ?Nq9 ?hlq9 ?Tq9 ?hkq9 ?hdq9 ?huq9 ?_; (case hlq9 => exact trivial); (case Fq9 => k_asm); (case Bq9 => k_asm); (case Xq9 => k_asm); (case Nq9 => k_asm); (case Tq9 => k_asm); (case hkq9 => first | exact rfl | assumption); (case hdq9 => ktr_room); (case huq9 => ktr_units)); intro r9 tl9 h9 tk9 F9 N9 P9; obtain ⟨d9, o9, t9, u9, v9, e9, e8, l9, D9⟩ := P9; subst e9 e8; simp only [List.cons_append, List.nil_append] at N9; (have V9 := nev_no (by assumption) t9 u9 v9); (try dsimp only); (try k_sweep)))
  k_with "call ref" => (k_here; (with_reducible show wpAny _ _ (call (Value.ref 159) _) _ _ _); k_dflt (refine' Ct.use (figures_b (b := _) (M := _) ?Q1q9 ?Q2q9) ?Bq9 ?Fq9 ?Xq9 ?Nq9 ?Tq9 ?hkq9 ?hdq9 ?huq9 ?_; (case Q1q9 => first | assumption | exact bits7 | exact bits5 | exact bits30 | exact bits31); (case Q2q9 => omega); (case Fq9 => k_asm); (case Bq9 => k_asm); (case Xq9 => k_asm); (case Nq9 => k_asm); (case Tq9 => k_asm); (case hkq9 => first | exact rfl | assumption); (case hdq9 => ktr_room); (case huq9 => ktr_units)); intro r9 tl9 h9 tk9 F9 N9 O9 P9; obtain ⟨e9, t9, e8⟩ := P9; clear O9; subst e9 e8; simp only [List.nil_append] at N9; (try dsimp only); (try k_sweep))
  k_with "len" => first | exact figs_le | ((with_reducible show List.length (_ ++ _) ≤ _); exact app_le (by walk_at "len") (by walk_at "len")) | exact Nat.le_of_lt (show _ < 20000 by omega)
  k_with "binaryOp Add bytes bytes" => (k_here; (with_reducible show wpAny _ _ (binaryOp Operator.Add (Value.bytes _ _) (Value.bytes _ _)) _ _ _); k_dflt (refine' by_addS ?xq9 ?yq9 ?zq9 ?_; (case xq9 => walk_at "len"); (case yq9 => walk_at "len"); (case zq9 => decide)); intro _ _)
  have hB1 := hB.1
  have hB2 := hB.2.1
  unfold CtB
  k_fill
  intro mean mg mb dp un gd cn cs a ccd cl outer A₀ base h₀ L m ox ol s Q E B F X N hbx ho T hk hd hu hret
  simp only [List.nil_append, List.cons_append] at N hret
  refine wpAny_call ?_
  k_dflt cell_enter
  k_steps
  k_dflt (refine' pair_ret hret ?F ?B ?N ?m ?m2 ?m3 ?m4 ?n ?a ?g; (case F => k_asm); (case B => assumption); (case N => k_asm); (case m => k_mem); (case m2 => k_mem); (case m3 => k_mem); (case m4 => k_mem); (case a => exact a_ins); (case g => exact ⟨_, _, ⟨by assumption, by assumption⟩, by assumption, rfl, by rw [List.append_assoc]⟩); (case n => omega))
end Mine
end
section
open PySem PySem.W PySem.Spec PySem.Calls PyProof.Rows
set_option Elab.async false
set_option maxRecDepth 100000
set_option maxHeartbeats 0
set_option rowWalk.seconds 3000
namespace Mine
theorem pair_names {v : Int} {w : World} {b l : Addr} {kd : Str} {tk : Tok} {h c M : Int} (hm : (kd, h, c) ∈ headTab) (hB : Bits c M (h + 0)) (hBv : Bits c M (h + v)) (e1 : (kd == Str.ofString "literal") = false) (e2 : (kd == Str.ofString "insert_literal") = false)
    (e3 : (kd, v) ∈ neverTab) :
    CtB w 180 [.ref b, .str kd tk] 12 b l [] (PairOut fun ds due => ∃ n nv x, (0 ≤ n ∧ n < 20000) ∧ x.length ≤ 127 ∧ ds = [.s kd, .i n, .b nv, .y x] ∧ due = figs n M (if nv then h + v else h + 0) ++ (figs x.length 128 0 ++ x)) := by
  k_with_none
  k_with "compareOp Eq str str" => (k_dflt (refine eq_strF (by assumption) ?_))
  k_with "compareOp In str ref" => (k_here; k_dflt (first | (refine' kda_in ?Nq9 ?mq9 ?dq9 ?lq9 (strKind_is _ _ _ _) _ ?eq9 ?_; (case dq9 => assumption); (case Nq9 => k_asm); (case mq9 => k_mem); (case lq9 => assumption); (case eq9 => assumption)) | (refine' in_two ?Nq9 ?mq9 ?eq9 ?_; (case Nq9 => k_asm); (case mq9 => k_mem); (case eq9 => assumption))))
  k_with "getItem ref str" => (k_here; k_dflt (refine' kda_get ?Nq9 ?mq9 ?dq9 ?eq9 ?_; (case dq9 => assumption); (case Nq9 => k_asm); (case mq9 => k_mem); (case eq9 => assumption)))
  k_with "call builtin:len" => (k_here; (with_reducible show wpAny _ _ (call (Value.builtin "len") [Value.bytes (List.toArray _) _]) _ _ _); (refine len_by (by omega) ?_); intro _ _)
  k_with "call ref" => (k_here; first | ((with_reducible show wpAny _ _ (call (Value.ref 166) _) _ _ _); k_dflt (refine' CtB.use (number_ct ?Q1q9 ?Q2q9) ?Bq9 ?Fq9 ?Xq9 ?Nq9 ?hbq9 ?hoq9 ?Tq9 ?hkq9 ?hdq9 ?huq9 ?_; (case Q1q9 => assumption); (case Q2q9 => assumption); (case Fq9 => k_asm); (case Bq9 => k_asm); (case Xq9 => k_asm); (case hbq9 => assumption); (case Nq9 => first | k_asm | (refine cb_drop (by k_asm) ?_; kcj_all)); (case hoq9 => exact fun _ q => nomatch q); (case Tq9 => k_asm); (case hkq9 => first | exact rfl | assumption); (case hdq9 => ktr_room); (case huq9 => ktr_units)); intro r9 tl9 h9 tk9 ox9 ol9 F9 N9 B9 D9 P9; obtain ⟨e9, n9, t9, e8, c9, d9⟩ := P9; subst e9 e8; simp only [List.cons_append, List.nil_append] at N9; (try dsimp only); (try k_sweep)) | ((with_reducible show wpAny _ _ (call (Value.ref 173) _) _ _ _); k_dflt (refine' CtB.use (word_ct) ?Bq9 ?Fq9 ?Xq9 ?Nq9 ?hbq9 ?hoq9 ?Tq9 ?hkq9 ?hdq9 ?huq9 ?_; (case Fq9 => k_asm); (case Bq9 => k_asm); (case Xq9 => k_asm); (case hbq9 => assumption); (case Nq9 => first | k_asm | (refine cb_drop (by k_asm) ?_; kcj_all)); (case hoq9 => exact fun _ q => nomatch q); (case Tq9 => k_asm); (case hkq9 => first | exact rfl | assumption); (case hdq9 => ktr_room); (case huq9 => ktr_units)); intro r9 tl9 h9 tk9 ox9 ol9 F9 N9 B9 D9 P9; obtain ⟨e9, n9, t9, e8, c9⟩ := P9; subst e9 e8; simp only [List.cons_append, List.nil_append] at N9; (try dsimp only); (try k_sweep)) | ((with_reducible show wpAny _ _ (call (Value.ref 131) _) _ _ _); k_dflt (refine' CtB.use (take0 ?Wq9) ?Bq9 ?Fq9 ?Xq9 ?Nq9 ?hbq9 ?hoq9 ?Tq9 ?hkq9 ?hdq9 ?huq9 ?_; (case Wq9 => omega); (case Fq9 => k_asm); (case Bq9 => k_asm); (case Xq9 => k_asm); (case hbq9 => assumption); (case Nq9 => first | k_asm | (refine cb_drop (by k_asm) ?_; kcj_all)); (case hoq9 => exact fun _ q => nomatch q); (case Tq9 => k_asm); (case hkq9 => first | exact rfl | assumption); (case hdq9 => ktr_room); (case huq9 => ktr_units)); intro r9 tl9 h9 tk9 ox9 ol9 F9 N9 B9 D9 P9; obtain ⟨e9, n9, t9, e8, c9, d9⟩ := P9; subst e9 e8; simp only [List.cons_append, List.nil_append] at N9; (try dsimp only); (try k_sweep)))
  k_with "call ref" => (k_here; first | ((with_reducible show wpAny _ _ (call (Value.ref 145) _) _ _ _); k_dflt (refine' CtT.use (heads_ct ?Q1q9) ?Bq9 ?Fq9 ?Xq9 ?Nq9 ?hlq9 ?Tq9 ?hkq9 ?hdq9 ?huq9 ?_; (case hlq9 => exact trivial); (case Q1q9 => assumption); (case Fq9 => k_asm); (case Bq9 => k_asm); (case Xq9 => k_asm); (case Nq9 => k_asm); (case Tq9 => k_asm); (case hkq9 => first | exact rfl | assumption); (case hdq9 => ktr_room); (case huq9 => ktr_units)); intro r9 tl9 h9 tk9 F9 N9 P9; obtain ⟨d9, o9, q9, t9, u9, k9, e9, e8, D9, V9⟩ := P9; subst e9 e8; simp only [List.cons_append, List.nil_append] at N9; (try dsimp only); (try k_sweep)) | ((with_reducible show wpAny _ _ (call (Value.ref 152) _) _ _ _); k_dflt (refine' CtT.use (nevers_ct) ?Bq9 ?Fq9 ?Xq9 ?Nq9 ?hlq9 ?Tq9 ?hkq9 ?hdq9 ?huq9 ?_; (case hlq9 => exact trivial); (case Fq9 => k_asm); (case Bq9 => k_asm); (case Xq9 => k_asm); (case Nq9 => k_asm); (case Tq9 => k_asm); (case hkq9 => first | exact rfl | assumption); (case hdq9 => ktr_room); (case huq9 => ktr_units)); intro r9 tl9 h9 tk9 F9 N9 P9; obtain ⟨d9, o9, t9, u9, v9, e9, e8, l9, D9⟩ := P9; subst e9 e8; simp only [List.cons_append, List.nil_append] at N9; (obtain ⟨x9, V9, W9⟩ := nev_yes (by assumption) t9 u9 v9); (try dsimp only); (try k_sweep)))
  k_with "call ref" => (k_here; (with_reducible show wpAny _ _ (call (Value.ref 159) _) _ _ _); k_dflt (refine' Ct.use (figures_b (b := _) (M := _) ?Q1q9 ?Q2q9) ?Bq9 ?Fq9 ?Xq9 ?Nq9 ?Tq9 ?hkq9 ?hdq9 ?huq9 ?_; (case Q1q9 => first | assumption | exact bits7 | exact bits5 | exact bits30 | exact bits31); (case Q2q9 => omega); (case Fq9 => k_asm); (case Bq9 => k_asm); (case Xq9 => k_asm); (case Nq9 => k_asm); (case Tq9 => k_asm); (case hkq9 => first | exact rfl | assumption); (case hdq9 => ktr_room); (case huq9 => ktr_units)); intro r9 tl9 h9 tk9 F9 N9 O9 P9; obtain ⟨e9, t9, e8⟩ := P9; clear O9; subst e9 e8; simp only [List.nil_append] at N9; (try dsimp only); (try k_sweep))
  k_with "len" => first | exact figs_le | ((with_reducible show List.length (_ ++ _) ≤ _); exact app_le (by walk_at "len") (by walk_at "len")) | exact Nat.le_of_lt (show _ < 20000 by omega)
  k_with "binaryOp Add bytes bytes" => (k_here; (with_reducible show wpAny _ _ (binaryOp Operator.Add (Value.bytes _ _) (Value.bytes _ _)) _ _ _); k_dflt (refine' by_addS ?xq9 ?yq9 ?zq9 ?_; (case xq9 => walk_at "len"); (case yq9 => walk_at "len"); (case zq9 => decide)); intro _ _)
  have hB1 := hB.1
  have hB2 := hB.2.1
  unfold CtB
  k_fill
  intro mean mg mb dp un gd cn cs a ccd cl outer A₀ base h₀ L m ox ol s Q E B F X N hbx ho T hk hd hu hret
  simp only [List.nil_append, List.cons_append] at N hret
  refine wpAny_call ?_
  k_dflt cell_enter
  k_steps
  all_goals k_dflt (refine' pair_ret hret ?F ?B ?N ?m ?m2 ?m3 ?m4 ?n ?a ?g; (case F => k_asm); (case B => assumption); (case N => k_asm); (case m => k_mem); (case m2 => k_mem); (case m3 => k_mem); (case m4 => k_mem); (case a => exact a_names); (case g => exact ⟨_, _, _, ⟨by assumption, by assumption⟩, by assumption, rfl, by (rw [List.append_assoc]; first | (rw [if_pos (beq_iff_eq.mpr (by assumption))]; first | done | rfl) | (rw [if_neg (fun q => absurd (beq_iff_eq.mp q) (by assumption))]; first | done | rfl))⟩); (case n => omega))
end Mine
end
section
open PySem PySem.W PySem.Spec PySem.Calls PyProof.Rows
set_option Elab.async false
set_option maxRecDepth 100000
set_option maxHeartbeats 0
set_option rowWalk.seconds 3000
namespace Mine
theorem pair_lit {w : World} {b l : Addr} {tk : Tok} :
    CtB w 180 [.ref b, .str (Str.ofString "literal") tk] 12 b l [] (PairOut fun ds due => ∃ y nv x, y.length ≤ 127 ∧ x.length ≤ 127 ∧ ds = [.s (Str.ofString "literal"), .y y, .b nv, .y x] ∧ due = (figs y.length 8 (if nv then 48 else 32) ++ y) ++ (figs x.length 128 0 ++ x)) := by
  k_with_none
  k_with "compareOp Eq str str" => (k_dflt (refine eq_strF (by assumption) ?_))
  k_with "compareOp In str ref" => (k_here; k_dflt (first | (refine' kda_in ?Nq9 ?mq9 ?dq9 ?lq9 (strKind_is _ _ _ _) _ ?eq9 ?_; (case dq9 => assumption); (case Nq9 => k_asm); (case mq9 => k_mem); (case lq9 => assumption); (case eq9 => assumption)) | (refine' in_two ?Nq9 ?mq9 ?eq9 ?_; (case Nq9 => k_asm); (case mq9 => k_mem); (case eq9 => assumption))))
  k_with "getItem ref str" => (k_here; k_dflt (refine' kda_get ?Nq9 ?mq9 ?dq9 ?eq9 ?_; (case dq9 => assumption); (case Nq9 => k_asm); (case mq9 => k_mem); (case eq9 => assumption)))
  k_with "call builtin:len" => (k_here; (with_reducible show wpAny _ _ (call (Value.builtin "len") [Value.bytes (List.toArray _) _]) _ _ _); (refine len_by (by omega) ?_); intro _ _)
  k_with "call ref" => (k_here; first | ((with_reducible show wpAny _ _ (call (Value.ref 166) _) _ _ _); k_dflt (refine' CtB.use (number_ct ?Q1q9 ?Q2q9) ?Bq9 ?Fq9 ?Xq9 ?Nq9 ?hbq9 ?hoq9 ?Tq9 ?hkq9 ?hdq9 ?huq9 ?_; (case Q1q9 => assumption); (case Q2q9 => assumption); (case Fq9 => k_asm); (case Bq9 => k_asm); (case Xq9 => k_asm); (case hbq9 => assumption); (case Nq9 => first | k_asm | (refine cb_drop (by k_asm) ?_; kcj_all)); (case hoq9 => exact fun _ q => nomatch q); (case Tq9 => k_asm); (case hkq9 => first | exact rfl | assumption); (case hdq9 => ktr_room); (case huq9 => ktr_units)); intro r9 tl9 h9 tk9 ox9 ol9 F9 N9 B9 D9 P9; obtain ⟨e9, n9, t9, e8, c9, d9⟩ := P9; subst e9 e8; simp only [List.cons_append, List.nil_append] at N9; (try dsimp only); (try k_sweep)) | ((with_reducible show wpAny _ _ (call (Value.ref 173) _) _ _ _); k_dflt (refine' CtB.use (word_ct) ?Bq9 ?Fq9 ?Xq9 ?Nq9 ?hbq9 ?hoq9 ?Tq9 ?hkq9 ?hdq9 ?huq9 ?_; (case Fq9 => k_asm); (case Bq9 => k_asm); (case Xq9 => k_asm); (case hbq9 => assumption); (case Nq9 => first | k_asm | (refine cb_drop (by k_asm) ?_; kcj_all)); (case hoq9 => exact fun _ q => nomatch q); (case Tq9 => k_asm); (case hkq9 => first | exact rfl | assumption); (case hdq9 => ktr_room); (case huq9 => ktr_units)); intro r9 tl9 h9 tk9 ox9 ol9 F9 N9 B9 D9 P9; obtain ⟨e9, n9, t9, e8, c9⟩ := P9; subst e9 e8; simp only [List.cons_append, List.nil_append] at N9; (try dsimp only); (try k_sweep)) | ((with_reducible show wpAny _ _ (call (Value.ref 131) _) _ _ _); k_dflt (refine' CtB.use (take0 ?Wq9) ?Bq9 ?Fq9 ?Xq9 ?Nq9 ?hbq9 ?hoq9 ?Tq9 ?hkq9 ?hdq9 ?huq9 ?_; (case Wq9 => omega); (case Fq9 => k_asm); (case Bq9 => k_asm); (case Xq9 => k_asm); (case hbq9 => assumption); (case Nq9 => first | k_asm | (refine cb_drop (by k_asm) ?_; kcj_all)); (case hoq9 => exact fun _ q => nomatch q); (case Tq9 => k_asm); (case hkq9 => first | exact rfl | assumption); (case hdq9 => ktr_room); (case huq9 => ktr_units)); intro r9 tl9 h9 tk9 ox9 ol9 F9 N9 B9 D9 P9; obtain ⟨e9, n9, t9, e8, c9, d9⟩ := P9; subst e9 e8; simp only [List.cons_append, List.nil_append] at N9; (try dsimp only); (try k_sweep)))
  k_with "call ref" => (k_here; first | ((with_reducible show wpAny _ _ (call (Value.ref 145) _) _ _ _); k_dflt (refine' CtT.use (heads_ct ?Q1q9) ?Bq9 ?Fq9 ?Xq9 ?Nq9 ?hlq9 ?Tq9 ?hkq9 ?hdq9 ?huq9 ?_; (case hlq9 => exact trivial); (case Q1q9 => assumption); (case Fq9 => k_asm); (case Bq9 => k_asm); (case Xq9 => k_asm); (case Nq9 => k_asm); (case Tq9 => k_asm); (case hkq9 => first | exact rfl | assumption); (case hdq9 => ktr_room); (case huq9 => ktr_units)); intro r9 tl9 h9 tk9 F9 N9 P9; obtain ⟨d9, o9, q9, t9, u9, k9, e9, e8, D9, V9⟩ := P9; subst e9 e8; simp only [List.cons_append, List.nil_append] at N9; (try dsimp only); (try k_sweep)) | ((with_reducible show wpAny _ _ (call (Value.ref 152) _) _ _ _); k_dflt (refine' CtT.use (nevers_ct) ?Bq9 ?Fq9 ?Xq9 ?Nq9 ?hlq9 ?Tq9 ?hkq9 ?hdq9 ?huq9 ?_; (case hlq9 => exact trivial); (case Fq9 => k_asm); (case Bq9 => k_asm); (case Xq9 => k_asm); (case Nq9 => k_asm); (case Tq9 => k_asm); (case hkq9 => first | exact rfl | assumption); (case hdq9 => ktr_room); (case huq9 => ktr_units)); intro r9 tl9 h9 tk9 F9 N9 P9; obtain ⟨d9, o9, t9, u9, v9, e9, e8, l9, D9⟩ := P9; subst e9 e8; simp only [List.cons_append, List.nil_append] at N9; (obtain ⟨x9, V9, W9⟩ := nev_yes (by assumption) t9 u9 v9); (try dsimp only); (try k_sweep)))
  k_with "call ref" => (k_here; (with_reducible show wpAny _ _ (call (Value.ref 159) _) _ _ _); k_dflt (refine' Ct.use (figures_b (b := _) (M := _) ?Q1q9 ?Q2q9) ?Bq9 ?Fq9 ?Xq9 ?Nq9 ?Tq9 ?hkq9 ?hdq9 ?huq9 ?_; (case Q1q9 => first | assumption | exact bits7 | exact bits5 | exact bits30 | exact bits31); (case Q2q9 => omega); (case Fq9 => k_asm); (case Bq9 => k_asm); (case Xq9 => k_asm); (case Nq9 => k_asm); (case Tq9 => k_asm); (case hkq9 => first | exact rfl | assumption); (case hdq9 => ktr_room); (case huq9 => ktr_units)); intro r9 tl9 h9 tk9 F9 N9 O9 P9; obtain ⟨e9, t9, e8⟩ := P9; clear O9; subst e9 e8; simp only [List.nil_append] at N9; (try dsimp only); (try k_sweep))
  k_with "len" => first | exact figs_le | ((with_reducible show List.length (_ ++ _) ≤ _); exact app_le (by walk_at "len") (by walk_at "len")) | exact Nat.le_of_lt (show _ < 20000 by omega)
  k_with "binaryOp Add bytes bytes" => (k_here; (with_reducible show wpAny _ _ (binaryOp Operator.Add (Value.bytes _ _) (Value.bytes _ _)) _ _ _); k_dflt (refine' by_addS ?xq9 ?yq9 ?zq9 ?_; (case xq9 => walk_at "len"); (case yq9 => walk_at "len"); (case zq9 => decide)); intro _ _)
  unfold CtB
  k_fill
  intro mean mg mb dp un gd cn cs a ccd cl outer A₀ base h₀ L m ox ol s Q E B F X N hbx ho T hk hd hu hret
  simp only [List.nil_append, List.cons_append] at N hret
  refine wpAny_call ?_
  k_dflt cell_enter
  k_steps
  all_goals k_dflt (refine' pair_ret hret ?F ?B ?N ?m ?m2 ?m3 ?m4 ?n ?a ?g; (case F => k_asm); (case B => assumption); (case N => k_asm); (case m => k_mem); (case m2 => k_mem); (case m3 => k_mem); (case m4 => k_mem); (case a => exact a_lit); (case g => exact ⟨_, _, _, by assumption, by assumption, rfl, by (rw [List.append_assoc]; first | (rw [if_pos (beq_iff_eq.mpr (by assumption))]; first | done | rfl) | (rw [if_neg (fun q => absurd (beq_iff_eq.mp q) (by assumption))]; first | done | rfl))⟩); (case n => omega))
end Mine
end
section
open PySem PySem.W PySem.Spec PySem.Calls PyProof.Rows
set_option Elab.async false
set_option maxRecDepth 100000
set_option maxHeartbeats 0
set_option rowWalk.seconds 3000
namespace Mine
theorem pair_inslit {w : World} {b l : Addr} {tk : Tok} :
    CtB w 180 [.ref b, .str (Str.ofString "insert_literal") tk] 12 b l [] (PairOut fun ds due => ∃ y x, y.length ≤ 127 ∧ x.length ≤ 127 ∧ ds = [.s (Str.ofString "insert_literal"), .y y, .y x] ∧ due = (figs y.length 32 64 ++ y) ++ (figs x.length 128 0 ++ x)) := by
  k_with_none
  k_with "compareOp Eq str str" => (k_dflt (refine eq_strF (by assumption) ?_))
  k_with "compareOp In str ref" => (k_here; k_dflt (first | (refine' kda_in ?Nq9 ?mq9 ?dq9 ?lq9 (strKind_is _ _ _ _) _ ?eq9 ?_; (case dq9 => assumption); (case Nq9 => k_asm); (case mq9 => k_mem); (case lq9 => assumption); (case eq9 => assumption)) | (refine' in_two ?Nq9 ?mq9 ?eq9 ?_; (case Nq9 => k_asm); (case mq9 => k_mem); (case eq9 => assumption))))
  k_with "getItem ref str" => (k_here; k_dflt (refine' kda_get ?Nq9 ?mq9 ?dq9 ?eq9 ?_; (case dq9 => assumption); (case Nq9 => k_asm); (case mq9 => k_mem); (case eq9 => assumption)))
  k_with "call builtin:len" => (k_here; (with_reducible show wpAny _ _ (call (Value.builtin "len") [Value.bytes (List.toArray _) _]) _ _ _); (refine len_by (by omega) ?_); intro _ _)
  k_with "call ref" => (k_here; first | ((with_reducible show wpAny _ _ (call (Value.ref 166) _) _ _ _); k_dflt (refine' CtB.use (number_ct ?Q1q9 ?Q2q9) ?Bq9 ?Fq9 ?Xq9 ?Nq9 ?hbq9 ?hoq9 ?Tq9 ?hkq9 ?hdq9 ?huq9 ?_; (case Q1q9 => assumption); (case Q2q9 => assumption); (case Fq9 => k_asm); (case Bq9 => k_asm); (case Xq9 => k_asm); (case hbq9 => assumption); (case Nq9 => first | k_asm | (refine cb_drop (by k_asm) ?_; kcj_all)); (case hoq9 => exact fun _ q => nomatch q); (case Tq9 => k_asm); (case hkq9 => first | exact rfl | assumption); (case hdq9 => ktr_room); (case huq9 => ktr_units)); intro r9 tl9 h9 tk9 ox9 ol9 F9 N9 B9 D9 P9; obtain ⟨e9, n9, t9, e8, c9, d9⟩ := P9; subst e9 e8; simp only [List.cons_append, List.nil_append] at N9; (try dsimp only); (try k_sweep)) | ((with_reducible show wpAny _ _ (call (Value.ref 173) _) _ _ _); k_dflt (refine' CtB.use (word_ct) ?Bq9 ?Fq9 ?Xq9 ?Nq9 ?hbq9 ?hoq9 ?Tq9 ?hkq9 ?hdq9 ?huq9 ?_; (case Fq9 => k_asm); (case Bq9 => k_asm); (case Xq9 => k_asm); (case hbq9 => assumption); (case Nq9 => first | k_asm | (refine cb_drop (by k_asm) ?_; kcj_all)); (case hoq9 => exact fun _ q => nomatch q); (case Tq9 => k_asm); (case hkq9 => first | exact rfl | assumption); (case hdq9 => ktr_room); (case huq9 => ktr_units)); intro r9 tl9 h9 tk9 ox9 ol9 F9 N9 B9 D9 P9; obtain ⟨e9, n9, t9, e8, c9⟩ := P9; subst e9 e8; simp only [List.cons_append, List.nil_append] at N9; (try dsimp only); (try k_sweep)) | ((with_reducible show wpAny _ _ (call (Value.ref 131) _) _ _ _); k_dflt (refine' CtB.use (take0 ?Wq9) ?Bq9 ?Fq9 ?Xq9 ?Nq9 ?hbq9 ?hoq9 ?Tq9 ?hkq9 ?hdq9 ?huq9 ?_; (case Wq9 => omega); (case Fq9 => k_asm); (case Bq9 => k_asm); (case Xq9 => k_asm); (case hbq9 => assumption); (case Nq9 => first | k_asm | (refine cb_drop (by k_asm) ?_; kcj_all)); (case hoq9 => exact fun _ q => nomatch q); (case Tq9 => k_asm); (case hkq9 => first | exact rfl | assumption); (case hdq9 => ktr_room); (case huq9 => ktr_units)); intro r9 tl9 h9 tk9 ox9 ol9 F9 N9 B9 D9 P9; obtain ⟨e9, n9, t9, e8, c9, d9⟩ := P9; subst e9 e8; simp only [List.cons_append, List.nil_append] at N9; (try dsimp only); (try k_sweep)))
  k_with "call ref" => (k_here; first | ((with_reducible show wpAny _ _ (call (Value.ref 145) _) _ _ _); k_dflt (refine' CtT.use (heads_ct ?Q1q9) ?Bq9 ?Fq9 ?Xq9 ?Nq9 ?hlq9 ?Tq9 ?hkq9 ?hdq9 ?huq9 ?_; (case hlq9 => exact trivial); (case Q1q9 => assumption); (case Fq9 => k_asm); (case Bq9 => k_asm); (case Xq9 => k_asm); (case Nq9 => k_asm); (case Tq9 => k_asm); (case hkq9 => first | exact rfl | assumption); (case hdq9 => ktr_room); (case huq9 => ktr_units)); intro r9 tl9 h9 tk9 F9 N9 P9; obtain ⟨d9, o9, q9, t9, u9, k9, e9, e8, D9, V9⟩ := P9; subst e9 e8; simp only [List.cons_append, List.nil_append] at N9; (try dsimp only); (try k_sweep)) | ((with_reducible show wpAny _ _ (call (Value.ref 152) _) _ _ _); k_dflt (refine' CtT.use (nevers_ct) ?Bq9 ?Fq9 ?Xq9 ?Nq9 ?hlq9 ?Tq9 ?hkq9 ?hdq9 ?huq9 ?_; (case hlq9 => exact trivial); (case Fq9 => k_asm); (case Bq9 => k_asm); (case Xq9 => k_asm); (case Nq9 => k_asm); (case Tq9 => k_asm); (case hkq9 => first | exact rfl | assumption); (case hdq9 => ktr_room); (case huq9 => ktr_units)); intro r9 tl9 h9 tk9 F9 N9 P9; obtain ⟨d9, o9, t9, u9, v9, e9, e8, l9, D9⟩ := P9; subst e9 e8; simp only [List.cons_append, List.nil_append] at N9; (obtain ⟨x9, V9, W9⟩ := nev_yes (by assumption) t9 u9 v9); (try dsimp only); (try k_sweep)))
  k_with "call ref" => (k_here; (with_reducible show wpAny _ _ (call (Value.ref 159) _) _ _ _); k_dflt (refine' Ct.use (figures_b (b := _) (M := _) ?Q1q9 ?Q2q9) ?Bq9 ?Fq9 ?Xq9 ?Nq9 ?Tq9 ?hkq9 ?hdq9 ?huq9 ?_; (case Q1q9 => first | assumption | exact bits7 | exact bits5 | exact bits30 | exact bits31); (case Q2q9 => omega); (case Fq9 => k_asm); (case Bq9 => k_asm); (case Xq9 => k_asm); (case Nq9 => k_asm); (case Tq9 => k_asm); (case hkq9 => first | exact rfl | assumption); (case hdq9 => ktr_room); (case huq9 => ktr_units)); intro r9 tl9 h9 tk9 F9 N9 O9 P9; obtain ⟨e9, t9, e8⟩ := P9; clear O9; subst e9 e8; simp only [List.nil_append] at N9; (try dsimp only); (try k_sweep))
  k_with "len" => first | exact figs_le | ((with_reducible show List.length (_ ++ _) ≤ _); exact app_le (by walk_at "len") (by walk_at "len")) | exact Nat.le_of_lt (show _ < 20000 by omega)
  k_with "binaryOp Add bytes bytes" => (k_here; (with_reducible show wpAny _ _ (binaryOp Operator.Add (Value.bytes _ _) (Value.bytes _ _)) _ _ _); k_dflt (refine' by_addS ?xq9 ?yq9 ?zq9 ?_; (case xq9 => walk_at "len"); (case yq9 => walk_at "len"); (case zq9 => decide)); intro _ _)
  unfold CtB
  k_fill
  intro mean mg mb dp un gd cn cs a ccd cl outer A₀ base h₀ L m ox ol s Q E B F X N hbx ho T hk hd hu hret
  simp only [List.nil_append, List.cons_append] at N hret
  refine wpAny_call ?_
  k_dflt cell_enter
  k_steps
  k_dflt (refine' pair_ret hret ?F ?B ?N ?m ?m2 ?m3 ?m4 ?n ?a ?g; (case F => k_asm); (case B => assumption); (case N => k_asm); (case m => k_mem); (case m2 => k_mem); (case m3 => k_mem); (case m4 => k_mem); (case a => exact a_inslit); (case g => exact ⟨_, _, by assumption, by assumption, rfl, by rw [List.append_assoc]⟩); (case n => omega))
end Mine
end
section
open PySem PySem.W PySem.Spec PySem.Calls PyProof.Rows
set_option Elab.async false
set_option maxRecDepth 100000
set_option maxHeartbeats 0
set_option rowWalk.seconds 3000
namespace Mine

/-- _law_is_short: the reading raises a Short -/
def CtSh (w : World) (vs : List Value) : Prop :=
  ∀ (mean : ExcName → Option Value) (mg mb : Str → Option Value) (dp un : Nat) (gd : Option (List Code)) (cn : Str) (cs : Scope) (a : Addr) (ccd : Value) (outer : List Env) (A₀ : Around) (base h₀ : Heap) (L : Addr) (m : Str → Option Value) (news : Led) (s : Shared) (Q E : Value → Shared → Prop),
    Below A₀ base outer h₀ → Fr h₀ L s.heap m → (Mine.hd.heap_39 w.params).In h₀ → News h₀ L s.heap news → (Mine.hd.heap_39 w.params).In base → Top Mine.hd.view_39 (looseW Mine.hd.view_39 [Str.ofString "GREATEST"]) mean mg mb base → KtsDicts (outer.filterMap (·.frame)) h₀ →
    Top Mine.hd.view_39 (looseW Mine.hd.view_39 [Str.ofString "GREATEST"]) mean mg mb h₀ → cs.kind = .function →
    dp + 14 < recursionLimit → un + 8 * 14 < cLine →
    (∀ (g' h' : Heap) (news' : Led) (tk' : Nat), KtsTurn (outer.filterMap (·.frame)) h₀ g' → Fr g' L h' m → News g' L h' news' → Q (.bool true) { s with heap := h', toks := tk' }) →
    wpAny (model PySem.Challenge.rw_nz0343_01.row.prog w) (ktrTop dp un gd cn cs L a ccd [] outer) (call (.ref 187) vs) Q E s
theorem short_ct {w : World} {fr : Addr} {d : List UInt8} {t : Tok} (hfr : keepIn (Mine.hd.heap_39 w.params) (.ref fr) = true) (C : ∀ t1 t2, CtX w fr [.bytes d.toArray t1, .int 0 t2] 11) : CtSh w [.ref fr, .bytes d.toArray t] := by
  k_with_none
  k_with "T enter" => (refine' code_defS ?k1q9 ?k2q9 ?k3q9 ?k4q9 ?k5q9 ?XBq9 ?TBq9 ?Dq9 ?T0q9 ?kAq9 ?k6q9 ?k7q9 ?k8q9 ?k9q9 ?kBq9 ?_ ?cKq9 ?c2q9 ?c3q9 ?c4q9 ?c5q9; (case kAq9 => exact rfl); (case k2q9 => k_asm); (case k1q9 => k_asm); (case XBq9 => assumption); (case TBq9 => assumption); (case Dq9 => assumption); (case T0q9 => exact KtsTurn.refl); (case k3q9 => k_asm); (case k4q9 => k_asm); (case k5q9 => k_asm); (case k6q9 => k_is); (case k7q9 => k_is); (case k8q9 => ktr_room); (case k9q9 => exact BindsTo.of_eq rfl); (case kBq9 => exact locs rfl); (case cKq9 => assumption); (case c2q9 => exact rfl); (case c3q9 => exact rfl); (case c4q9 => exact rfl); (case c5q9 => decide); k_whole; intro g' L' h' FG' F' N' B' X' T' D'; (try dsimp only); (try k_lift B'); (try k_fold))
  k_with "call ref" => (k_here; k_dflt (refine' CtX.use ?Cq9 ?Bq9 ?Fq9 ?Xq9 ?Nq9 ?Tq9 ?hkq9 ?hdq9 ?huq9 ?_; (case Cq9 => apply_assumption); (case Fq9 => k_asm); (case Bq9 => k_asm); (case Xq9 => k_asm); (case Nq9 => k_asm); (case Tq9 => k_asm); (case hkq9 => exact rfl); (case hdq9 => ktr_room); (case huq9 => ktr_units)); intros; (try dsimp only))
  k_with "callWith ref" => (k_here; k_dflt (refine' callWith_K ?k1q9 ?k2q9 ?_; (case k1q9 => k_asm); (case k2q9 => assumption); k_whole))
  unfold CtSh
  k_fill
  intro mean mg mb dp un gd cn cs a ccd outer A₀ base h₀ L m news s Q E B F X N XB TB D T hk hd hu hret
  refine wpAny_call ?_
  k_dflt walk_at "T enter"
  k_steps
  exact hret _ _ _ _ (by assumption) (by assumption) (by assumption)
end Mine
end
section
open PySem PySem.W PySem.Spec PySem.Calls PyProof.Rows
set_option Elab.async false
set_option maxRecDepth 100000
set_option maxHeartbeats 0
namespace Mine
section
variable {M : Model} {A : Around} {E : Value → Shared → Prop} {s : Shared} {env : Env}
theorem s_IfT {test : PySem.Expr} {body orelse : List Stmt} {pos : Pos} {rest : List Stmt} {Q : Flow → Shared → Prop}
    (h : wpS M A (isTrue test env (eval test env)) (fun b s₂ => if b then wpS M A (execs body env) (Aft M A rest env Q E) E s₂ else wpS M A (execs orelse env) (Aft M A rest env Q E) E s₂) E s) :
    wpS M A (execs (.If test body orelse pos :: rest) env) Q E s := s_execs (s_If h)
theorem s_or {x y : PySem.Expr} {pos : Pos} {whole : Sem Value} {Q : Bool → Shared → Prop}
    (h : wpS M A (isTrue x env (eval x env)) (fun b s' => if b then Q true s' else wpS M A (isTrue y env (eval y env)) Q E s') E s) :
    wpS M A (isTrue (.BoolOp .Or [x, y] pos) env whole) Q E s := by
  rw [arm_isTrue_BoolOp, arm_allTrue_cons]
  refine s_bind (s_mono h (fun b s' hb => ?_) fun _ _ z => z)
  cases b with
  | true => exact s_pure hb
  | false =>
    simp only [Bool.false_eq_true, if_false] at hb
    show wpS M A (allTrue .Or [y] env) Q E s'
    rw [arm_allTrue_cons]
    refine s_bind (s_mono hb (fun b s'' hb' => ?_) fun _ _ z => z)
    cases b with
    | true => exact s_pure hb'
    | false => exact s_pure hb'
theorem s_and {x y : PySem.Expr} {pos : Pos} {whole : Sem Value} {Q : Bool → Shared → Prop}
    (h : wpS M A (isTrue x env (eval x env)) (fun b s' => if b then wpS M A (isTrue y env (eval y env)) Q E s' else Q false s') E s) :
    wpS M A (isTrue (.BoolOp .And [x, y] pos) env whole) Q E s := by
  rw [arm_isTrue_BoolOp, arm_allTrue_cons]
  refine s_bind (s_mono h (fun b s' hb => ?_) fun _ _ z => z)
  cases b with
  | false => exact s_pure hb
  | true =>
    simp only [if_true] at hb
    show wpS M A (allTrue .And [y] env) Q E s'
    rw [arm_allTrue_cons]
    refine s_bind (s_mono hb (fun b s'' hb' => ?_) fun _ _ z => z)
    cases b with
    | true => exact s_pure hb'
    | false => exact s_pure hb'
theorem s_cmp {l : PySem.Expr} {op : CmpOp} {r : PySem.Expr} {pos : Pos} {whole : Sem Value} {Q : Bool → Shared → Prop}
    (h : wpS M A (eval l env) (fun a s₁ => wpAny M A (eval r env) (fun b s₂ => wpAny M A (compareOp op a b) (fun c s₃ => wpAny M A (truthy c) Q E s₃) E s₂) E s₁) E s)
    (hm : behindInMarks op r = false := by with_unfolding_all rfl) : wpS M A (isTrue (.Compare l [op] [r] pos) env whole) Q E s := by
  rw [isTrue_Compare1]
  refine s_bind (s_mono h (fun a s₁ h₁ => ?_) fun _ _ z => z)
  refine s_any fun Γ p hΓ => ?_
  simp only [markedBehindIn_of_false hm, Sem.wp_bind', Sem.wp_holding, Sem.wp_cmd_standAt, Sem.wp_operate]
  exact Sem.wp_mono M Γ _ (fun b _ s₂ h₂ => Sem.wp_mono M Γ _ (fun c p₃ s₃ h₃ => h₃ Γ p₃ hΓ)
    (fun _ _ _ h' => h') _ _ (h₂ Γ _ hΓ)) (fun _ _ _ h' => h') _ _ (h₁ Γ p hΓ)
end
section
variable {A : Around} {s : Shared}
theorem eqAt_bytes {l : List UInt8} {t u : Tok} : SeqAt.EqAt A s (.bytes l.toArray t) (.bytes l.toArray u) true := fun prog w E Q hq => by
  unfold eqBool
  refine wpAny_holding ?_
  refine wpAny_ite_split (fun _ => wpAny_bind (wpAny_rule (wpAny_pure hq))) (fun _ => ?_)
  refine wpAny_bind ?_
  show wpAny (model prog w) A (compareOp .Eq _ _) _ E s
  exact eq_bytes (by rw [beq_self_eq_true]; exact wpAny_truthy_bool hq)
theorem eqAt_D {d : D} {v y : Value} (a : d.is v) (b : d.is y) : SeqAt.EqAt A s v y true := by
  cases d with
  | s x =>
    obtain ⟨t, rfl⟩ := a; obtain ⟨u, rfl⟩ := b
    have := (eqGives_str x x t u).at A s
    rwa [beq_self_eq_true] at this
  | i n =>
    obtain ⟨t, rfl⟩ := a; obtain ⟨u, rfl⟩ := b
    have := SeqAt.EqAt.int_int (A := A) (s := s) n t n u
    rwa [beq_self_eq_true] at this
  | b x =>
    have a : v = .bool x := a
    have b : y = .bool x := b
    rw [a, b]; exact SeqAt.EqAt.same _
  | y l =>
    obtain ⟨t, rfl⟩ := a; obtain ⟨u, rfl⟩ := b
    exact eqAt_bytes
theorem all2_at : ∀ {ds : List D} {vs us : List Value}, All2 ds vs → All2 ds us → vs.length = us.length ∧ ∀ j (h1 : j < vs.length) (h2 : j < us.length), SeqAt.EqAt A s vs[j] us[j] true
  | [], [], [], _, _ => ⟨rfl, fun j h => by simp at h⟩
  | d :: ds, v :: vs, u :: us, ⟨a, a'⟩, ⟨b, b'⟩ => by
    obtain ⟨e, k⟩ := all2_at a' b'
    refine ⟨by simp [e], fun j h1 h2 => ?_⟩
    cases j with
    | zero => exact eqAt_D a b
    | succ j => exact k j (by simpa using h1) (by simpa using h2)
  | [], _ :: _, _, h, _ => h.elim
  | [], _, _ :: _, _, h => h.elim
  | _ :: _, [], _, h, _ => h.elim
  | _ :: _, _, [], _, h => h.elim
theorem range_all (n : Nat) : ((List.range n).all fun _ => true) = true := by simp
section
variable {h₀ : Heap} {L : Addr} {news : Led} {x y q q2 : Addr} {e e' : Int} {t1 t2 : Tok} {vs us : List Value} {ds : List D}
theorem pair_items (N : News h₀ L s.heap news) (x2 : (q2, tupO us) ∈ news) (y2 : (q, tupO vs) ∈ news) (a1 : All2 ds us) (a2 : All2 ds vs) (he : e = e') (hu : A.units + 3 < cLine) :
    ∀ j (h1 : j < (#[Value.ref q2, .int e t1] : Array Value).size) (h2 : j < (#[Value.ref q, .int e' t2] : Array Value).size), SeqAt.EqAt A.in1 s (#[Value.ref q2, .int e t1] : Array Value)[j] (#[Value.ref q, .int e' t2] : Array Value)[j] ((fun _ => true) j) := by
  subst he
  intro j h1 h2
  match j with
  | 0 =>
    show SeqAt.EqAt A.in1 s (.ref q2) (.ref q) true
    by_cases hq : q2 = q
    · subst hq; exact SeqAt.EqAt.same _
    refine SeqAt.EqAt.of_refs hq ?_
    obtain ⟨el, k⟩ := all2_at (A := A.in1.in1) (s := s) a1 a2
    have r := SeqAt.RcAt.tuples (A := A.in1) (s := s) (e := fun _ => true) (News.isTup N x2) (News.isTup N y2) (by simp only [Around.in1_units]; omega) (fun j h1 h2 => by simpa using k j (by simpa using h1) (by simpa using h2))
    have e1 : us.toArray.size = vs.toArray.size := by simpa using el
    rw [range_all, e1, beq_self_eq_true] at r
    exact r
  | 1 =>
    show SeqAt.EqAt A.in1 s (.int e t1) (.int e t2) true
    have := SeqAt.EqAt.int_int (A := A.in1) (s := s) e t1 e t2
    rwa [beq_self_eq_true] at this
  | n + 2 => simp at h1; omega
theorem ne_pair {prog : Program} {w : World} {E : Value → Shared → Prop} {Q : Value → Shared → Prop} (N : News h₀ L s.heap news) (x1 : (x, tupO [.ref q2, .int e t1]) ∈ news) (y1 : (y, tupO [.ref q, .int e' t2]) ∈ news) (x2 : (q2, tupO us) ∈ news) (y2 : (q, tupO vs) ∈ news) (a1 : All2 ds us) (a2 : All2 ds vs) (he : e = e') (hu : A.units + 3 < cLine)
    (h : Q (.bool false) s) : wpAny (model prog w) A (compareOp .NotEq (.ref x) (.ref y)) Q E s := by
  have r := SeqAt.RcNeAt.tuples (A := A) (s := s) (News.isTup N x1) (News.isTup N y1) (by omega) (pair_items N x2 y2 a1 a2 he hu)
  rw [range_all] at r
  exact r prog w E Q h
theorem eq_pair {prog : Program} {w : World} {E : Value → Shared → Prop} {Q : Value → Shared → Prop} (N : News h₀ L s.heap news) (x1 : (x, tupO [.ref q2, .int e t1]) ∈ news) (y1 : (y, tupO [.ref q, .int e' t2]) ∈ news) (x2 : (q2, tupO us) ∈ news) (y2 : (q, tupO vs) ∈ news) (a1 : All2 ds us) (a2 : All2 ds vs) (he : e = e') (hu : A.units + 3 < cLine)
    (h : Q (.bool true) s) : wpAny (model prog w) A (compareOp .Eq (.ref x) (.ref y)) Q E s := by
  have r := SeqAt.RcAt.tuples (A := A) (s := s) (News.isTup N x1) (News.isTup N y1) (by omega) (pair_items N x2 y2 a1 a2 he hu)
  rw [range_all] at r
  exact r prog w E Q h
theorem ne_by {prog : Program} {w : World} {E : Value → Shared → Prop} {Q : Value → Shared → Prop} {l k : List UInt8} {t u : Tok} (e : l = k) (h : Q (.bool false) s) : wpAny (model prog w) A (compareOp .NotEq (.bytes l.toArray t) (.bytes k.toArray u)) Q E s := by
  subst e
  exact ne_bytes (by simpa using h)
end
end
/-- the box shown on the ground -/
def setO (h : Heap) (b : Addr) (o : Obj) : Heap := { h with objs := h.objs.setIfInBounds b o }
theorem setO_size {h : Heap} {b : Addr} {o : Obj} : (setO h b o).objs.size = h.objs.size := by simp [setO]
theorem setO_self {h : Heap} {b : Addr} {c : Value} {d : Option Addr} {xs : Array Value} {n : Nat} {sl : Array (Option Value)} (hb : b < h.objs.size) : (setO h b ⟨c, d, .seq xs n, sl⟩).get? b = some ⟨c, d, .seq xs n, sl⟩ := by
  simp [setO, Heap.get?, hb]
theorem setO_ne {h : Heap} {b c : Addr} {o : Obj} (hne : c ≠ b) : (setO h b o).get? c = h.get? c := by
  simp [setO, Heap.get?, Array.getElem?_setIfInBounds, Ne.symm hne]
section
variable {K : Frag} {prog : Program} {w : World} {A A₀ : Around} {s : Shared} {L b l : Addr} {h₀ base : Heap} {m mg mb : Str → Option Value} {ox ol : Obj} {p : Program} {loose : List Str} {mean : ExcName → Option Value} {outer : List Env} {news : Led}
theorem BoxSt.seqs (hB : BoxSt b l ox ol) : (∃ c d xs n sl, ox = ⟨c, d, .seq xs n, sl⟩) ∧ (∃ c d xs n sl, ol = ⟨c, d, .seq xs n, sl⟩) ∧ b ≠ l := by
  obtain ⟨st, t, c, xs, c2, rfl, rfl, _, _, _, _, hne⟩ := hB
  exact ⟨⟨_, _, _, _, _, rfl⟩, ⟨_, _, _, _, _, rfl⟩, hne⟩
theorem regr (hB : BoxSt b l ox ol) (N : News h₀ L s.heap [(b, ox), (l, ol)]) (F : Fr h₀ L s.heap m) (hb : b < h₀.objs.size) (hl : l < h₀.objs.size) (B : Below A₀ base outer h₀) (D : KtsDicts (outer.filterMap (·.frame)) h₀) :
    ∃ g, Fr g L s.heap m ∧ Below A₀ base outer g ∧ KtsDicts (outer.filterMap (·.frame)) g ∧ (∀ c o, h₀.get? c = some o → g.get? c = some o) ∧
      ∀ g' h', KtsTurn (outer.filterMap (·.frame)) g g' → Fr g' L h' m → ∃ g'', KtsTurn (outer.filterMap (·.frame)) h₀ g'' ∧ Fr g'' L h' m ∧ News g'' L h' [(b, ox), (l, ol)] := by
  obtain ⟨⟨c1, d1, xs1, n1, sl1, rfl⟩, ⟨c2, d2, xs2, n2, sl2, rfl⟩, hne⟩ := hB.seqs
  have nb := N _ (.head _)
  have nl := N _ (.tail _ (.head _))
  have kb : ∀ c o, h₀.get? c = some o → c ≠ b ∧ c ≠ l := fun c o e => ⟨fun q => (by rw [q, nb.2.2] at e; cases e), fun q => (by rw [q, nl.2.2] at e; cases e)⟩
  let g := setO (setO h₀ b ⟨c1, d1, .seq xs1 n1, sl1⟩) l ⟨c2, d2, .seq xs2 n2, sl2⟩
  have gk : ∀ c, c ≠ b → c ≠ l → g.get? c = h₀.get? c := fun c q1 q2 => (setO_ne q2).trans (setO_ne q1)
  have gb : g.get? b = some _ := (setO_ne hne).trans (setO_self hb)
  have gl : g.get? l = some _ := setO_self (by rw [setO_size]; exact hl)
  have gs : g.objs.size = h₀.objs.size := setO_size.trans setO_size
  have up : ∀ c o, h₀.get? c = some o → g.get? c = some o := fun c o e => (gk c (kb c o e).1 (kb c o e).2).trans e
  have fs : ∀ f ∈ outer.filterMap (·.frame), f ≠ b ∧ f ≠ l := fun f hf => by
    obtain ⟨o, _, _, ho, _⟩ := D f hf
    exact kb f o ho
  refine ⟨g, ⟨F.ns, fun c o e => ?_, gs ▸ F.above⟩, ⟨B.stack, fun c o e => up c o (B.stays c o e), B.frames.of_keeps fun c o e _ => ⟨_, up c o e, rfl⟩⟩, fun f hf => ?_, up, fun g' h' T F' => ?_⟩
  · by_cases q1 : c = b
    · subst q1; rw [gb] at e; cases e; exact nb.1
    by_cases q2 : c = l
    · subst q2; rw [gl] at e; cases e; exact nl.1
    rw [gk c q1 q2] at e
    exact F.keep c o e
  · obtain ⟨o, es, n, ho, hd⟩ := D f hf
    exact ⟨o, es, n, up f o ho, hd⟩
  have b' := T.other b _ gb (fun q => (fs b q).1 rfl)
  have l' := T.other l _ gl (fun q => (fs l q).2 rfl)
  have nmem : ∀ c o, h₀.get? c = some o → c ∉ [b, l] := fun c o e q => by
    simp only [List.mem_cons, List.not_mem_nil, or_false] at q
    rcases q with q | q
    · exact (kb c o e).1 q
    · exact (kb c o e).2 q
  refine ⟨hideAll g' [b, l], ⟨(hideAll_size _ _).trans (T.size.trans gs), fun c e => ?_, fun c o e hm => hideAll_get _ (T.other c o (up c o e) hm) (nmem c o e), fun c o e hm => ?_⟩,
    ⟨F'.ns, fun c o e => F'.keep c o (of_hideAll _ e), by rw [hideAll_size]; exact F'.above⟩, fun p hp => ?_⟩
  · by_cases q : c ∈ [b, l]
    · exact hideAll_none _ q
    have q1 : c ≠ b := fun z => q (z ▸ .head _)
    have q2 : c ≠ l := fun z => q (z ▸ .tail _ (.head _))
    cases z : (hideAll g' [b, l]).get? c with
    | none => rfl
    | some o =>
      have z' := of_hideAll _ z
      rw [T.none_ c ((gk c q1 q2).trans e)] at z'
      cases z'
  · obtain ⟨sl, hs⟩ := T.frame c o (up c o e) hm
    exact ⟨sl, hideAll_get _ hs (nmem c o e)⟩
  · simp only [List.mem_cons, List.not_mem_nil, or_false] at hp
    rcases hp with rfl | rfl
    · exact ⟨F'.keep _ _ b', nb.2.1, hideAll_none _ (.head _)⟩
    · exact ⟨F'.keep _ _ l', nl.2.1, hideAll_none _ (.tail _ (.head _))⟩
end
end Mine
end
section
open PySem PySem.W PySem.Spec PySem.Calls PyProof.Rows
set_option Elab.async false
set_option maxRecDepth 100000
set_option maxHeartbeats 0
namespace Mine
section
variable {K : Frag} {prog : Program} {w : World} {A A₀ : Around} {s : Shared} {L a : Addr} {h₀ base : Heap} {m mg mb : Str → Option Value} {news : Led} {p : Program} {loose : List Str} {mean : ExcName → Option Value} {cn : Str} {cs : Scope} {ccd : Value}
/-- what no frame and no object of the ledger is, stays -/
def Keep (s : Shared) (L : Addr) (news : Led) (R : Result → Shared → Prop) : Result → Shared → Prop := fun r s' => (∀ c o, s.heap.get? c = some o → c ∉ news.map (·.1) → c ≠ L → s'.heap.get? c = some o) → R r s'
theorem codeS_defT {R : Result → Shared → Prop} {name qual : Str} {params : Arguments} {body : List Stmt} {scope : Scope} {dV kV doc pm cdv ct oc : Value} {an od : Option Addr} {osl : Array (Option Value)} {f : Addr} {args : Args} {binds : List (Str × Value)}
    (B : Below A₀ base [] h₀) (F : Fr h₀ L s.heap m) (X₀ : K.In h₀) (N : News h₀ L s.heap news) (T : Top p loose mean mg mb h₀) (hA : A.frames = some [envOf cn cs L a ccd])
    (ho : K.lookup f = some ⟨oc, od, .func (fnOf name qual params body scope dV kV doc pm an cdv ct), osl⟩) (hcd : codeIn K cdv qual = true) (hroom : A.depth < recursionLimit)
    (hbind : BindsTo s (fnOf name qual params body scope dV kV doc pm an cdv ct) args binds) (hloc : ∀ y ∈ binds, scope.names.lookup y.1 = some .local)
    (h : ∀ g L' h₁, Fr h₀ L g m → Fr g L' h₁ (fun y => binds.reverse.lookup y) → News g L' h₁ news → (∀ q ∈ news, q.1 < g.objs.size) → Below A base [envOf cn cs L a ccd] g → K.In g → Top p loose mean mg mb g → KtsDicts ([envOf cn cs L a ccd].filterMap (·.frame)) g →
      wpS (model prog w) (A.deeper (envOf qual scope L' f cdv)) (execs body (envOf qual scope L' f cdv))
        (fun fl s' => LeaveS0 ([envOf cn cs L a ccd].filterMap (·.frame)) h₀ L m g (Keep s L news R) (match fl with | .ret v => v | _ => .none) s')
        (fun _ _ => False)
        { s with heap := h₁, toks := s.toks + binds.length })
    (hck : cs.kind = .function) (hco : scope.isCoroutine = false) (hgen : scope.isGenerator = false) (hk : scope.kind = .function)
    (hcell : ∀ x ∈ scope.names, x.2 ≠ .cell) : codeS (model prog w) A (.call (.ref f) args) R s := by
  obtain ⟨oL, es, ep, hLg, hLd, hN, hNs, st, B₂⟩ := kts_enter B F N hA hck
  refine codeS_def (fd := fnOf name qual params body scope dV kV doc pm an cdv ct) (body := body) (binds := binds) hroom (F.keep _ _ (X₀ _ _ ho)) rfl (T.nolimit.keeps F.keep) (codeRec_of (X₀.keeps F.keep) hcd) rfl hbind hcell hloc (fun h₁ hns up => ?_) hco hgen hk
  have sz := hideAll_size (news.map (·.1)) s.heap
  have D : KtsDicts ([envOf cn cs L a ccd].filterMap (·.frame)) (hideAll s.heap (news.map (·.1))) := fun c hc => by
    rcases kts_mem hc with rfl | z
    · exact ⟨oL, es, ep, hLg, hLd⟩
    · cases z
  refine s_mono (h _ _ h₁ ⟨hN _ hLg, st, F.above⟩ ⟨hns, fun c o e => up c o (of_hideAll _ e), Nat.le_of_eq sz⟩
    (fun q hq => ⟨up _ _ (N q hq).1, Nat.ne_of_lt (Heap.lt_size (N q hq).1), hideAll_none _ (List.mem_map_of_mem hq)⟩) (fun q hq => by rw [sz]; exact Heap.lt_size (N q hq).1) B₂ (X₀.keeps st) (T.keeps st) D) (fun fl s' hl => ?_) fun _ _ y => y
  obtain ⟨g', L', m', news', T', F', N', k⟩ := hl
  have nL : h₀.get? L = none := kts_self F
  obtain ⟨sl, hs⟩ := T'.up hLg
  have old : ∀ c o, h₀.get? c = some o → g'.get? c = some o := fun c o e => T'.other c o (st c o e) fun hc => by
    rcases kts_mem hc with rfl | z
    · rw [nL] at e; cases e
    · cases z
  have ns : ∀ c, g'.get? c = none → c ≠ L ∧ h₀.get? c = none := fun c hc => by
    refine ⟨fun z => ?_, ?_⟩
    · rw [z, hs] at hc; cases hc
    · cases z : h₀.get? c with
      | none => rfl
      | some o => rw [old c o z] at hc; cases hc
  exact k ⟨hNs sl _ (F'.keep _ _ hs), fun c o e => F'.keep c o (old c o e), F.above⟩ (fun q hq => ⟨(N' q hq).1, ns _ (N' q hq).2.2⟩) fun c o e h1 h2 => F'.keep c o (T'.other c o (hideAll_get _ e h1) fun hc => by
    rcases kts_mem hc with rfl | z
    · exact h2 rfl
    · cases z)
end
section
variable {w : World} {vs : List Value} {mean : ExcName → Option Value} {mg mb : Str → Option Value} {dp un : Nat} {gd : Option (List Code)} {cn : Str} {cs : Scope} {a : Addr} {ccd : Value} {outer : List Env} {A₀ : Around} {base h₀ : Heap} {L b l : Addr} {m : Str → Option Value} {ox ol : Obj} {s : Shared} {Q E : Value → Shared → Prop}
/-- the short reading, the box kept -/
theorem CtSh.box (C : CtSh w vs) (B : Below A₀ base outer h₀) (F : Fr h₀ L s.heap m) (X : (Mine.hd.heap_39 w.params).In h₀) (hB : BoxSt b l ox ol) (N : News h₀ L s.heap [(b, ox), (l, ol)]) (hb : b < h₀.objs.size ∧ l < h₀.objs.size)
    (XB : (Mine.hd.heap_39 w.params).In base) (TB : Top Mine.hd.view_39 (looseW Mine.hd.view_39 [Str.ofString "GREATEST"]) mean mg mb base) (D : KtsDicts (outer.filterMap (·.frame)) h₀)
    (T : Top Mine.hd.view_39 (looseW Mine.hd.view_39 [Str.ofString "GREATEST"]) mean mg mb h₀) (hk : cs.kind = .function) (hd : dp + 14 < recursionLimit) (hu : un + 8 * 14 < cLine)
    (ret : ∀ (g' h' : Heap) (tk' : Nat), KtsTurn (outer.filterMap (·.frame)) h₀ g' → Fr g' L h' m → News g' L h' [(b, ox), (l, ol)] → Q (.bool true) { s with heap := h', toks := tk' }) :
    wpAny (model PySem.Challenge.rw_nz0343_01.row.prog w) (ktrTop dp un gd cn cs L a ccd [] outer) (call (.ref 187) vs) Q E s := by
  obtain ⟨g, Fg, Bg, Dg, up, back⟩ := regr hB N F hb.1 hb.2 B D
  refine C _ _ _ _ _ _ _ _ _ _ _ _ _ _ _ _ [] _ _ _ Bg Fg (X.keeps up) News.nil XB TB Dg (T.keeps up) hk hd hu fun g' h' _ tk' T' F' _ => ?_
  obtain ⟨g'', T'', F'', N''⟩ := back g' h' T' F'
  exact ret g'' h' tk' T'' F'' N''
end
theorem zz_all {b l : Addr} {ox ol : Obj} {n : Nat} (h : ∀ q ∈ [(b, ox), (l, ol)], q.1 < n) : b < n ∧ l < n := ⟨h _ (.head _), h _ (.tail _ (.head _))⟩
theorem tail_all {b l : Addr} {x : Addr × Obj} {k : Led} (h : ∀ p ∈ x :: k, p.1 ≠ b ∧ p.1 ≠ l) : ∀ p ∈ k, p.1 ≠ b ∧ p.1 ≠ l := fun p hp => h p (.tail _ hp)
structure LenOk (l : List UInt8) : Prop where
  one : 1 ≤ l.length
  top : l.length ≤ 1000
/-- the facts of a kind that _law_right leans on -/
structure Pack (w : World) (kd : Str) (fp fr : VAddr) (G : List D → List UInt8 → Prop) : Prop where
  pair : ∀ (b l : VAddr) (t : Tok), CtB w 180 [.ref b, .str kd t] 12 b l [] (PairOut G)
  len : ∀ ds due, G ds due → LenOk due
  put : ∀ ds due vs (q : VAddr), G ds due → All2 ds vs → CtS w fp [.ref q] 8 (fun news => (q, tupO vs) ∈ news) (fun v tl => tl = [] ∧ ∃ t, v = .bytes due.toArray t)
  get : ∀ ds due d p t1 t2, G ds due → d.length ≤ 100000 → Has d p due → CtT w fr [.bytes d.toArray t1, .int p t2] 10 (fun _ => True) (RdOut ds (p + due.length))
  short : ∀ ds due k t1 t2, G ds due → 1 ≤ k → k < due.length → CtX w fr [.bytes (due.take k).toArray t1, .int 0 t2] 11
  kp : keepIn (Mine.hd.heap_39 w.params) (.ref fp) = true
  kr : keepIn (Mine.hd.heap_39 w.params) (.ref fr) = true
/-- _law_right, called by law -/
def CtR (w : World) (b l : VAddr) (vs : List Value) : Prop :=
  ∀ (mean : ExcName → Option Value) (mg mb : Str → Option Value) (dp un : Nat) (gd : Option (List Code)) (cn : Str) (cs : Scope) (a : Addr) (ccd : Value) (A₀ : Around) (base h₀ : Heap) (L : Addr) (m : Str → Option Value) (ox ol : Obj) (s : Shared) (Q E : Value → Shared → Prop),
    Below A₀ base [] h₀ → Fr h₀ L s.heap m → (Mine.hd.heap_39 w.params).In h₀ → News h₀ L s.heap [(b, ox), (l, ol)] → BoxSt b l ox ol → (Mine.hd.heap_39 w.params).In base → Top Mine.hd.view_39 (looseW Mine.hd.view_39 [Str.ofString "GREATEST"]) mean mg mb base →
    Top Mine.hd.view_39 (looseW Mine.hd.view_39 [Str.ofString "GREATEST"]) mean mg mb h₀ → cs.kind = .function → dp + 20 < recursionLimit → un + 8 * 20 < cLine →
    (∀ (h' : Heap) (tk' : Nat) (ox' ol' : Obj), Fr h₀ L h' m → News h₀ L h' [(b, ox'), (l, ol')] → BoxSt b l ox' ol' → (∀ c o, s.heap.get? c = some o → c ∉ List.map (·.1) [(b, ox), (l, ol)] → c ≠ L → h'.get? c = some o) → Q (.bool true) { s with heap := h', toks := tk' }) →
    wpS (model PySem.Challenge.rw_nz0343_01.row.prog w) (ktrTop dp un gd cn cs L a ccd [] []) (call (.ref 194) vs) Q E s
theorem mul_le {prog : Program} {w : World} {A : Around} {E : Value → Shared → Prop} {s : Shared} {c : UInt8} {x : Int} {t u : Tok} {Q : Value → Shared → Prop} (hx : 0 ≤ x ∧ x < 2) (h : ∀ (v : List UInt8) t' k, v.length ≤ 1 → Q (.bytes v.toArray t') { s with toks := k }) : wpAny (model prog w) A (binaryOp .Mult (.bytes #[c] t) (.int x u)) Q E s :=
  bytes_mul_any (b := [c]) (by simp) (by omega) (by omega) (by simp) fun t' k => h _ _ _ (by simp; omega)
theorem has_mid (x y z : List UInt8) : Has (x ++ y ++ z) x.length y := ⟨by omega, by simp⟩
end Mine
end
section
open PySem PySem.W PySem.Spec PySem.Calls PyProof.Rows
set_option Elab.async false
set_option maxRecDepth 100000
set_option maxHeartbeats 0
set_option rowWalk.seconds 3000
namespace Mine
theorem right_ct {w : World} {b l : Addr} {kd : Str} {tk0 : Tok} {fp fr : Addr} {G : List D → List UInt8 → Prop} (P : Pack w kd fp fr G) : CtR w b l [.ref b, .str kd tk0, .ref fp, .ref fr] := by
  k_with_none
  k_with "R enter" => (refine' codeS_defT ?k1q9 ?k2q9 ?k3q9 ?k4q9 ?k5q9 ?kAq9 ?k6q9 ?k7q9 ?k8q9 ?k9q9 ?kBq9 ?_ ?cKq9 ?c2q9 ?c3q9 ?c4q9 ?c5q9; (case kAq9 => exact rfl); (case k2q9 => k_asm); (case k1q9 => k_asm); (case k3q9 => k_asm); (case k4q9 => k_asm); (case k5q9 => k_asm); (case k6q9 => k_is); (case k7q9 => k_is); (case k8q9 => ktr_room); (case k9q9 => exact BindsTo.of_eq rfl); (case kBq9 => exact locs rfl); (case cKq9 => assumption); (case c2q9 => exact rfl); (case c3q9 => exact rfl); (case c4q9 => exact rfl); (case c5q9 => decide); k_whole; intro g' L' h' FG' F' N' Z' B' X' T' D'; (try dsimp only); (try k_lift B'); (try k_fold))
  k_with "Nx" => refine ⟨rfl, ?_⟩
  k_with "Kp" => (k_dflt (refine ⟨by first | assumption | k_is, ?_⟩))
  k_with "Ki" => (refine' ⟨Frag.In.keeps ?Xq9 (Fr.keep ?Fq9), ?_⟩; (case Fq9 => k_asm); (case Xq9 => assumption))
  k_with "Aft" => dsimp only [Aft]
  k_with "wpS" => (k_here; first | ((with_reducible show wpS _ _ (execs [Stmt.Return (some _) _] _) _ _ _); k_dflt (refine s_last ?_; refine s_Return ?_)) | ((with_reducible show wpS _ _ (execs (Stmt.If _ _ _ _ :: _) _) _ _ _); k_dflt (refine s_IfT ?_)) | ((with_reducible show wpS _ _ (isTrue (Expr.BoolOp BoolOp.Or _ _) _ _) _ _ _); k_dflt (refine s_or ?_)) | ((with_reducible show wpS _ _ (isTrue (Expr.Compare (Expr.Call _ _ _ _) _ _ _) _ _) _ _ _); k_dflt (refine s_cmp ?_)) | ((with_reducible show wpS _ _ (isTrue _ _ _) _ _ _); k_dflt (refine s_any ?_)) | ((with_reducible show wpS _ _ (execs [] _) _ _ _); k_dflt (refine s_execs_nil ?_)) | ((with_reducible show wpS _ _ (execs (_ :: _) _) _ _ _); k_dflt (refine s_leaf ?_)) | ((with_reducible show wpS _ _ (eval (Expr.Call (Expr.Name "puts" _) _ _ _) _) _ _ _); k_dflt (refine s_CallH ?_)) | ((with_reducible show wpS _ _ (eval _ _) _ _ _); k_dflt (refine s_any ?_)) | ((with_reducible show wpS _ _ (call (Value.ref _) _) _ _ _); walk_at "S call"))
  k_with "callWith ref" => (k_here; k_dflt (refine' callWith_K ?k1q9 ?k2q9 ?_; (case k1q9 => k_asm); (case k2q9 => assumption); k_whole))
  k_with "S call" => (k_dflt (refine' CtS.use ?Cq9 ?Bq9 ?Fq9 ?Xq9 ?Nq9 ?hlq9 ?Tq9 ?hkq9 ?hdq9 ?huq9 ?_; (case Cq9 => apply_assumption <;> assumption); (case Fq9 => k_asm); (case Bq9 => k_asm); (case Xq9 => k_asm); (case Nq9 => k_asm); (case Tq9 => k_asm); (case hlq9 => k_mem); (case hkq9 => exact rfl); (case hdq9 => ktr_room); (case huq9 => ktr_units)); intro r9 tl9 h9 tk9 F9 N9 O9 P9; obtain ⟨e9, t9, e8⟩ := P9; clear O9; subst e9 e8; simp only [List.nil_append] at N9; (try dsimp only); (try k_sweep))
  k_with "call ref" => (k_here; first | ((with_reducible show wpAny _ _ (call (Value.ref 180) _) _ _ _); k_dflt (refine' CtB.use (?Cq9) ?Bq9 ?Fq9 ?Xq9 ?Nq9 ?hbq9 ?hoq9 ?Tq9 ?hkq9 ?hdq9 ?huq9 ?_; (case Cq9 => apply_assumption); (case Fq9 => k_asm); (case Bq9 => k_asm); (case Xq9 => k_asm); (case hbq9 => assumption); (case Nq9 => first | k_asm | (refine cb_drop (by k_asm) ?_; kcj_all)); (case hoq9 => exact fun _ q => nomatch q); (case Tq9 => k_asm); (case hkq9 => first | exact rfl | assumption); (case hdq9 => ktr_room); (case huq9 => ktr_units)); intro r9 tl9 h9 tk9 ox9 ol9 F9 N9 B9 D9 P9; obtain ⟨p9, q9, vs9, ds9, du9, t9, e9, e8, A9, G9⟩ := P9; subst e9 e8; simp only [List.cons_append, List.nil_append] at N9; (have D8 := tail_all D9); (obtain ⟨L9, L8⟩ : LenOk du9 := by apply_assumption <;> assumption); (try dsimp only); (try k_sweep)) | ((with_reducible show wpAny _ _ (call (Value.ref 131) _) _ _ _); k_dflt (refine' CtB.use (take1 ?Wq9) ?Bq9 ?Fq9 ?Xq9 ?Nq9 ?hbq9 ?hoq9 ?Tq9 ?hkq9 ?hdq9 ?huq9 ?_; (case Wq9 => omega); (case hoq9 => assumption); (case Fq9 => k_asm); (case Bq9 => k_asm); (case Xq9 => k_asm); (case hbq9 => assumption); (case Nq9 => first | k_asm | (refine cb_drop (by k_asm) ?_; kcj_all)); (case Tq9 => k_asm); (case hkq9 => first | exact rfl | assumption); (case hdq9 => ktr_room); (case huq9 => ktr_units)); intro r9 tl9 h9 tk9 ox9 ol9 F9 N9 B9 D9 P9; obtain ⟨e9, n9, t9, e8, c9, d9⟩ := P9; subst e9 e8; simp only [List.cons_append, List.nil_append] at N9; (try dsimp only); (try k_sweep)) | ((with_reducible show wpAny _ _ (call (Value.ref 131) _) _ _ _); k_dflt (refine' CtB.use (take0 ?Wq9) ?Bq9 ?Fq9 ?Xq9 ?Nq9 ?hbq9 ?hoq9 ?Tq9 ?hkq9 ?hdq9 ?huq9 ?_; (case Wq9 => omega); (case Fq9 => k_asm); (case Bq9 => k_asm); (case Xq9 => k_asm); (case hbq9 => assumption); (case Nq9 => first | k_asm | (refine cb_drop (by k_asm) ?_; kcj_all)); (case hoq9 => exact fun _ q => nomatch q); (case Tq9 => k_asm); (case hkq9 => first | exact rfl | assumption); (case hdq9 => ktr_room); (case huq9 => ktr_units)); intro r9 tl9 h9 tk9 ox9 ol9 F9 N9 B9 D9 P9; obtain ⟨e9, n9, t9, e8, c9, d9⟩ := P9; subst e9 e8; simp only [List.cons_append, List.nil_append] at N9; (try dsimp only); (try k_sweep)))
  k_with "call ref" => (k_here; first | ((with_reducible show wpAny _ _ (call (Value.ref 187) _) _ _ _); k_dflt (refine' CtSh.box (short_ct ?Kq9 ?Cq9) ?Bq9 ?Fq9 ?Xq9 ?hBq9 ?Nq9 ?hbq9 ?XBq9 ?TBq9 ?Dq9 ?Tq9 ?hkq9 ?hdq9 ?huq9 ?_; (case Kq9 => assumption); (case Cq9 => (intro _ _; apply_assumption <;> first | assumption | omega)); (case Fq9 => k_asm); (case Bq9 => k_asm); (case Xq9 => k_asm); (case hBq9 => assumption); (case Nq9 => (refine cb_drop (by k_asm) ?_; kcj_all)); (case hbq9 => exact zz_all (by assumption)); (case XBq9 => assumption); (case TBq9 => assumption); (case Dq9 => assumption); (case Tq9 => k_asm); (case hkq9 => exact rfl); (case hdq9 => ktr_room); (case huq9 => ktr_units)); intro g9 h9 tk9 T9 F9 N9) | ((with_reducible show wpAny _ _ (call _ [Value.bytes _ _, Value.int _ _]) _ _ _); k_dflt (refine' CtT.use ?Cq9 ?Bq9 ?Fq9 ?Xq9 ?Nq9 ?hlq9 ?Tq9 ?hkq9 ?hdq9 ?huq9 ?_; (case Cq9 => (apply_assumption <;> first | assumption | exact has_mid _ _ _ | (simp only [List.length_append]; omega))); (case Fq9 => k_asm); (case Bq9 => k_asm); (case Xq9 => k_asm); (case Nq9 => k_asm); (case hlq9 => exact trivial); (case Tq9 => k_asm); (case hkq9 => exact rfl); (case hdq9 => ktr_room); (case huq9 => ktr_units)); intro r9 tl9 h9 tk9 F9 N9 P9; obtain ⟨q9, q8, vs9, t9, e9, e8, A9⟩ := P9; subst e9 e8; simp only [List.cons_append, List.nil_append] at N9; (try dsimp only); (try k_sweep)))
  k_with "call builtin:len" => (k_here; (with_reducible show wpAny _ _ (call (Value.builtin "len") [Value.bytes (List.toArray _) _]) _ _ _); (refine len_by (by omega) ?_); intro _ _)
  k_with "compareOp NotEq bytes bytes" => (k_dflt (refine ne_by rfl ?_))
  k_with "binaryOp Mult bytes int" => (k_here; k_dflt (refine' mul_le ?Pq9 ?_; (case Pq9 => exact ⟨by assumption, by assumption⟩)); intro v9 t9 k9 hv9)
  k_with "len" => first | assumption | ((with_reducible show List.length (_ ++ _) ≤ _); exact app_le (by walk_at "len") (by walk_at "len"))
  k_with "binaryOp Add bytes bytes" => (k_here; k_dflt (refine' by_addS ?xq9 ?yq9 ?zq9 ?_; (case xq9 => walk_at "len"); (case yq9 => walk_at "len"); (case zq9 => decide)); intro _ _)
  k_with "compareOp NotEq ref ref" => (k_here; k_dflt (refine' ne_pair ?Nq9 ?x1q9 ?y1q9 ?x2q9 ?y2q9 ?a1q9 ?a2q9 ?eq9 ?uq9 ?_; (case Nq9 => k_asm); (case x1q9 => k_mem); (case y1q9 => k_mem); (case x2q9 => k_mem); (case y2q9 => k_mem); (case a1q9 => assumption); (case a2q9 => assumption); (case eq9 => first | rfl | omega); (case uq9 => ktr_units)))
  k_with "subscriptTail" => (k_here; k_dflt (refine' by_slice0 (s := ⟨_, _, _, _, _⟩) ?Fq9 ?Nq9 ?bq9 ?cq9 ?zq9 ?_; (case Fq9 => assumption); (case Nq9 => assumption); (case bq9 => omega); (case cq9 => omega); (case zq9 => omega)); intro h9 t9 k9 F9 N9)
  obtain ⟨hpair, hlen, hput, hget, hshort, hkp, hkr⟩ := P
  unfold CtR
  k_fill
  intro mean mg mb dp un gd cn cs a ccd A₀ base h₀ L m ox ol s Q E B F X N hbx XB TB T hk hd hu hret
  refine s_call ?_
  k_dflt walk_at "R enter"
  k_steps
  all_goals (dsimp only [Keep]; intro kk; try rw [show ((_ : Int) == 1) = true from beq_iff_eq.mpr (by assumption)])
  all_goals (k_dflt (refine' hret _ _ _ _ ?F ?N ?B kk; (case B => assumption); (case F => k_asm); (case N => first | k_asm | (refine cb_drop (by k_asm) ?_; kcj_all))))
end Mine
end
section
open PySem PySem.W PySem.Spec PySem.Calls PyProof.Rows
set_option Elab.async false
set_option maxRecDepth 100000
set_option maxHeartbeats 0
namespace Mine
theorem brk_take {due : List UInt8} {k : Nat} (h : k < due.length) : Brk (due.take k) 0 due := ⟨Int.le_refl 0, k, h, rfl⟩
theorem oc_take {due l : List UInt8} {k : Nat} {v : Int} (e : due = oct v :: l) (h1 : 1 ≤ k) (h2 : k < due.length) (hv : 0 ≤ v ∧ v < 256) : Oc 0 (due.take k) 0 v := by
  subst e
  obtain ⟨k, rfl⟩ : ∃ j, k = j + 1 := ⟨k - 1, by omega⟩
  exact ⟨Int.le_refl 0, by simp only [List.take_succ_cons, List.length_cons]; omega, by simp, hv.1, hv.2⟩
theorem take_len {due : List UInt8} {k : Nat} (h : due.length ≤ 1000) : (due.take k).length ≤ 100000 := by
  rw [List.length_take]; omega
theorem keeps_ct (w : World) : PySem.Challenge.rw_nz0343_01 = PySem.Challenge.rw_nz0343_01 → keepIn (Mine.hd.heap_39 w.params) (.ref 89) = true ∧ keepIn (Mine.hd.heap_39 w.params) (.ref 96) = true ∧ keepIn (Mine.hd.heap_39 w.params) (.ref 103) = true ∧ keepIn (Mine.hd.heap_39 w.params) (.ref 110) = true ∧ keepIn (Mine.hd.heap_39 w.params) (.ref 117) = true ∧ keepIn (Mine.hd.heap_39 w.params) (.ref 124) = true := by
  k_fill
  intro _
  exact ⟨by k_is, by k_is, by k_is, by k_is, by k_is, by k_is⟩
theorem inv_plain {k : Str} {n : Int} {vs : List Value} (h : All2 [.s k, .i n] vs) : ∃ t0 t1, vs = [.str k t0, .int n t1] := by
  cases vs with
  | nil => exact h.elim
  | cons v0 vs =>
  cases vs with
  | nil => exact h.2.elim
  | cons v1 vs =>
  cases vs with
  | cons _ _ => exact h.2.2.elim
  | nil =>
  obtain ⟨⟨t0, e0⟩, ⟨t1, e1⟩, _⟩ := h
  subst e0 e1
  exact ⟨t0, t1, rfl⟩
theorem inv_ins {k : Str} {n : Int} {x : List UInt8} {vs : List Value} (h : All2 [.s k, .i n, .y x] vs) : ∃ t0 t1 t2, vs = [.str k t0, .int n t1, .bytes x.toArray t2] := by
  cases vs with
  | nil => exact h.elim
  | cons v0 vs =>
  cases vs with
  | nil => exact h.2.elim
  | cons v1 vs =>
  cases vs with
  | nil => exact h.2.2.elim
  | cons v2 vs =>
  cases vs with
  | cons _ _ => exact h.2.2.2.elim
  | nil =>
  obtain ⟨⟨t0, e0⟩, ⟨t1, e1⟩, ⟨t2, e2⟩, _⟩ := h
  subst e0 e1 e2
  exact ⟨t0, t1, t2, rfl⟩
theorem inv_inslit {k : Str} {y x : List UInt8} {vs : List Value} (h : All2 [.s k, .y y, .y x] vs) : ∃ t0 t1 t2, vs = [.str k t0, .bytes y.toArray t1, .bytes x.toArray t2] := by
  cases vs with
  | nil => exact h.elim
  | cons v0 vs =>
  cases vs with
  | nil => exact h.2.elim
  | cons v1 vs =>
  cases vs with
  | nil => exact h.2.2.elim
  | cons v2 vs =>
  cases vs with
  | cons _ _ => exact h.2.2.2.elim
  | nil =>
  obtain ⟨⟨t0, e0⟩, ⟨t1, e1⟩, ⟨t2, e2⟩, _⟩ := h
  subst e0 e1 e2
  exact ⟨t0, t1, t2, rfl⟩
theorem inv_names {k : Str} {n : Int} {nv : Bool} {x : List UInt8} {vs : List Value} (h : All2 [.s k, .i n, .b nv, .y x] vs) : ∃ t0 t1 t2, vs = [.str k t0, .int n t1, .bool nv, .bytes x.toArray t2] := by
  cases vs with
  | nil => exact h.elim
  | cons v0 vs =>
  cases vs with
  | nil => exact h.2.elim
  | cons v1 vs =>
  cases vs with
  | nil => exact h.2.2.elim
  | cons v2 vs =>
  cases vs with
  | nil => exact h.2.2.2.elim
  | cons v3 vs =>
  cases vs with
  | cons _ _ => exact h.2.2.2.2.elim
  | nil =>
  obtain ⟨⟨t0, e0⟩, ⟨t1, e1⟩, eb, ⟨t2, e2⟩, _⟩ := h
  replace eb : _ = Value.bool nv := eb
  subst eb
  subst e0 e1 e2
  exact ⟨t0, t1, t2, rfl⟩
theorem inv_lit {k : Str} {nv : Bool} {y x : List UInt8} {vs : List Value} (h : All2 [.s k, .y y, .b nv, .y x] vs) : ∃ t0 t1 t2, vs = [.str k t0, .bytes y.toArray t1, .bool nv, .bytes x.toArray t2] := by
  cases vs with
  | nil => exact h.elim
  | cons v0 vs =>
  cases vs with
  | nil => exact h.2.elim
  | cons v1 vs =>
  cases vs with
  | nil => exact h.2.2.elim
  | cons v2 vs =>
  cases vs with
  | nil => exact h.2.2.2.elim
  | cons v3 vs =>
  cases vs with
  | cons _ _ => exact h.2.2.2.2.elim
  | nil =>
  obtain ⟨⟨t0, e0⟩, ⟨t1, e1⟩, eb, ⟨t2, e2⟩, _⟩ := h
  replace eb : _ = Value.bool nv := eb
  subst eb
  subst e0 e1 e2
  exact ⟨t0, t1, t2, rfl⟩
def GP (kd : Str) (M h : Int) (ds : List D) (due : List UInt8) : Prop := ∃ n, (0 ≤ n ∧ n < 20000) ∧ ds = [.s kd, .i n] ∧ due = figs n M h
def GI (kd : Str) (M h : Int) (ds : List D) (due : List UInt8) : Prop := ∃ n x, (0 ≤ n ∧ n < 20000) ∧ x.length ≤ 127 ∧ ds = [.s kd, .i n, .y x] ∧ due = figs n M h ++ (figs x.length 128 0 ++ x)
def GN (kd : Str) (M h h' : Int) (ds : List D) (due : List UInt8) : Prop := ∃ n nv x, (0 ≤ n ∧ n < 20000) ∧ x.length ≤ 127 ∧ ds = [.s kd, .i n, .b nv, .y x] ∧ due = figs n M (if nv then h' else h) ++ (figs x.length 128 0 ++ x)
def GL (ds : List D) (due : List UInt8) : Prop := ∃ y nv x, y.length ≤ 127 ∧ x.length ≤ 127 ∧ ds = [.s (Str.ofString "literal"), .y y, .b nv, .y x] ∧ due = (figs y.length 8 (if nv then 48 else 32) ++ y) ++ (figs x.length 128 0 ++ x)
def GIL (ds : List D) (due : List UInt8) : Prop := ∃ y x, y.length ≤ 127 ∧ x.length ≤ 127 ∧ ds = [.s (Str.ofString "insert_literal"), .y y, .y x] ∧ due = (figs y.length 32 64 ++ y) ++ (figs x.length 128 0 ++ x)
theorem len_figs {n M h : Int} : LenOk (figs n M h) := ⟨(figs_len n M h).1, Nat.le_trans (figs_len n M h).2 (by decide)⟩
theorem len_two {n M h : Int} {x : List UInt8} (hx : x.length ≤ 127) : LenOk (figs n M h ++ (figs x.length 128 0 ++ x)) := by
  have := figs_len n M h
  have := figs_len x.length 128 0
  constructor <;> simp only [List.length_append] <;> omega
theorem len_txt {M h : Int} {y x : List UInt8} (hy : y.length ≤ 127) (hx : x.length ≤ 127) : LenOk ((figs y.length M h ++ y) ++ (figs x.length 128 0 ++ x)) := by
  have := figs_len y.length M h
  have := figs_len x.length 128 0
  constructor <;> simp only [List.length_append] <;> omega
theorem pk_static (w : World) : Pack w (Str.ofString "static") 89 96 (GP (Str.ofString "static") 64 192) where
  pair := fun _ _ _ => pair_plain (.head _) (by decide) (by decide +kernel) (by decide +kernel) (by decide +kernel) (by decide +kernel)
  len := fun _ _ ⟨_, _, _, e⟩ => e ▸ len_figs
  put := fun _ _ _ _ ⟨_, hn, e1, e2⟩ ha => by
    subst e1 e2
    obtain ⟨_, _, rfl⟩ := inv_plain ha
    exact put_static hn
  get := fun _ _ _ _ _ _ ⟨_, hn, e1, e2⟩ hz H => by
    subst e1 e2
    exact get_static hn hz H
  short := fun _ _ k _ _ ⟨n, hn, e1, e2⟩ h1 h2 => by
    subst e1 e2
    have hB : Bits 6 64 192 := by decide
    obtain ⟨v, l, e, v0, v1, v2, v3, _⟩ := figs_first hB hn.1
    exact x1_L1 (take_len len_figs.top) (oc_take e h1 h2 ⟨v0, v1⟩) ⟨by omega, by omega⟩ hB hn (brk_take h2)
  kp := (keeps_ct w rfl).1
  kr := (keeps_ct w rfl).2.1
theorem pk_dynamic (w : World) : Pack w (Str.ofString "dynamic") 89 96 (GP (Str.ofString "dynamic") 64 128) where
  pair := fun _ _ _ => pair_plain (.tail _ (.head _)) (by decide) (by decide +kernel) (by decide +kernel) (by decide +kernel) (by decide +kernel)
  len := fun _ _ ⟨_, _, _, e⟩ => e ▸ len_figs
  put := fun _ _ _ _ ⟨_, hn, e1, e2⟩ ha => by
    subst e1 e2
    obtain ⟨_, _, rfl⟩ := inv_plain ha
    exact put_dynamic hn
  get := fun _ _ _ _ _ _ ⟨_, hn, e1, e2⟩ hz H => by
    subst e1 e2
    exact get_dynamic hn hz H
  short := fun _ _ k _ _ ⟨n, hn, e1, e2⟩ h1 h2 => by
    subst e1 e2
    have hB : Bits 6 64 128 := by decide
    obtain ⟨v, l, e, v0, v1, v2, v3, _⟩ := figs_first hB hn.1
    exact x1_L1 (take_len len_figs.top) (oc_take e h1 h2 ⟨v0, v1⟩) ⟨by omega, by omega⟩ hB hn (brk_take h2)
  kp := (keeps_ct w rfl).1
  kr := (keeps_ct w rfl).2.1
theorem pk_post (w : World) : Pack w (Str.ofString "post") 89 96 (GP (Str.ofString "post") 16 16) where
  pair := fun _ _ _ => pair_plain (.tail _ (.tail _ (.head _))) (by decide) (by decide +kernel) (by decide +kernel) (by decide +kernel) (by decide +kernel)
  len := fun _ _ ⟨_, _, _, e⟩ => e ▸ len_figs
  put := fun _ _ _ _ ⟨_, hn, e1, e2⟩ ha => by
    subst e1 e2
    obtain ⟨_, _, rfl⟩ := inv_plain ha
    exact put_post hn
  get := fun _ _ _ _ _ _ ⟨_, hn, e1, e2⟩ hz H => by
    subst e1 e2
    exact get_post hn hz H
  short := fun _ _ k _ _ ⟨n, hn, e1, e2⟩ h1 h2 => by
    subst e1 e2
    have hB : Bits 4 16 16 := by decide
    obtain ⟨v, l, e, v0, v1, v2, v3, _⟩ := figs_first hB hn.1
    exact x1_L4 (take_len len_figs.top) (oc_take e h1 h2 ⟨v0, v1⟩) ⟨by omega, by omega⟩ hB hn (brk_take h2)
  kp := (keeps_ct w rfl).1
  kr := (keeps_ct w rfl).2.1
theorem pk_static_name (w : World) : Pack w (Str.ofString "static_name") 89 96 (GN (Str.ofString "static_name") 16 80 112) where
  pair := fun _ _ _ => pair_names (h := 80) (v := 32) (.tail _ (.tail _ (.tail _ (.head _)))) (by decide) (by decide) (by decide +kernel) (by decide +kernel) (by simp [neverTab])
  len := fun _ _ ⟨_, _, _, _, hx, _, e⟩ => e ▸ len_two hx
  put := fun _ _ _ _ ⟨_, _, _, hn, hx, e1, e2⟩ ha => by
    subst e1 e2
    obtain ⟨_, _, _, rfl⟩ := inv_names ha
    exact put_static_name hn (by omega)
  get := fun _ _ _ _ _ _ ⟨_, _, _, hn, hx, e1, e2⟩ hz H => by
    subst e1 e2
    exact get_static_name hn (by omega) hz H
  short := fun _ _ k _ _ ⟨n, nv, x, hn, hx, e1, e2⟩ h1 h2 => by
    subst e1 e2
    have hz := take_len (k := k) (len_two (n := n) (M := 16) (h := if nv then 112 else 80) hx).top
    have hB : Bits 4 16 (if nv then 112 else 80) := by cases nv <;> decide
    obtain ⟨v, l, e, v0, v1, v2, v3, _⟩ := figs_first hB hn.1
    have A0 := oc_take (by rw [e]; rfl) h1 h2 ⟨v0, v1⟩
    have hv : 64 ≤ v ∧ v < 128 := by cases nv <;> simp only [if_true, if_false, Bool.false_eq_true] at v2 v3 <;> omega
    rcases (brk_take h2).split with q | ⟨q1, q2⟩
    · exact x1_L2 hz A0 hv hB hn q
    · exact x2_L2 hz A0 hv hB (by decide) bits7 hn (by omega) q1 q2
  kp := (keeps_ct w rfl).1
  kr := (keeps_ct w rfl).2.1
theorem pk_dynamic_name (w : World) : Pack w (Str.ofString "dynamic_name") 89 96 (GN (Str.ofString "dynamic_name") 16 64 96) where
  pair := fun _ _ _ => pair_names (h := 64) (v := 32) (.tail _ (.tail _ (.tail _ (.tail _ (.head _))))) (by decide) (by decide) (by decide +kernel) (by decide +kernel) (by simp [neverTab])
  len := fun _ _ ⟨_, _, _, _, hx, _, e⟩ => e ▸ len_two hx
  put := fun _ _ _ _ ⟨_, _, _, hn, hx, e1, e2⟩ ha => by
    subst e1 e2
    obtain ⟨_, _, _, rfl⟩ := inv_names ha
    exact put_dynamic_name hn (by omega)
  get := fun _ _ _ _ _ _ ⟨_, _, _, hn, hx, e1, e2⟩ hz H => by
    subst e1 e2
    exact get_dynamic_name hn (by omega) hz H
  short := fun _ _ k _ _ ⟨n, nv, x, hn, hx, e1, e2⟩ h1 h2 => by
    subst e1 e2
    have hz := take_len (k := k) (len_two (n := n) (M := 16) (h := if nv then 96 else 64) hx).top
    have hB : Bits 4 16 (if nv then 96 else 64) := by cases nv <;> decide
    obtain ⟨v, l, e, v0, v1, v2, v3, _⟩ := figs_first hB hn.1
    have A0 := oc_take (by rw [e]; rfl) h1 h2 ⟨v0, v1⟩
    have hv : 64 ≤ v ∧ v < 128 := by cases nv <;> simp only [if_true, if_false, Bool.false_eq_true] at v2 v3 <;> omega
    rcases (brk_take h2).split with q | ⟨q1, q2⟩
    · exact x1_L2 hz A0 hv hB hn q
    · exact x2_L2 hz A0 hv hB (by decide) bits7 hn (by omega) q1 q2
  kp := (keeps_ct w rfl).1
  kr := (keeps_ct w rfl).2.1
theorem pk_post_name (w : World) : Pack w (Str.ofString "post_name") 89 96 (GN (Str.ofString "post_name") 8 0 8) where
  pair := fun _ _ _ => pair_names (h := 0) (v := 8) (.tail _ (.tail _ (.tail _ (.tail _ (.tail _ (.head _)))))) (by decide) (by decide) (by decide +kernel) (by decide +kernel) (by simp [neverTab])
  len := fun _ _ ⟨_, _, _, _, hx, _, e⟩ => e ▸ len_two hx
  put := fun _ _ _ _ ⟨_, _, _, hn, hx, e1, e2⟩ ha => by
    subst e1 e2
    obtain ⟨_, _, _, rfl⟩ := inv_names ha
    exact put_post_name hn (by omega)
  get := fun _ _ _ _ _ _ ⟨_, _, _, hn, hx, e1, e2⟩ hz H => by
    subst e1 e2
    exact get_post_name hn (by omega) hz H
  short := fun _ _ k _ _ ⟨n, nv, x, hn, hx, e1, e2⟩ h1 h2 => by
    subst e1 e2
    have hz := take_len (k := k) (len_two (n := n) (M := 8) (h := if nv then 8 else 0) hx).top
    have hB : Bits 3 8 (if nv then 8 else 0) := by cases nv <;> decide
    obtain ⟨v, l, e, v0, v1, v2, v3, _⟩ := figs_first hB hn.1
    have A0 := oc_take (by rw [e]; rfl) h1 h2 ⟨v0, v1⟩
    have hv : 0 ≤ v ∧ v < 16 := by cases nv <;> simp only [if_true, if_false, Bool.false_eq_true] at v2 v3 <;> omega
    rcases (brk_take h2).split with q | ⟨q1, q2⟩
    · exact x1_L5 hz A0 hv hB hn q
    · exact x2_L5 hz A0 hv hB (by decide) bits7 hn (by omega) q1 q2
  kp := (keeps_ct w rfl).1
  kr := (keeps_ct w rfl).2.1
theorem pk_capacity (w : World) : Pack w (Str.ofString "capacity") 103 110 (GP (Str.ofString "capacity") 32 32) where
  pair := fun _ _ _ => pair_plain (.tail _ (.tail _ (.tail _ (.tail _ (.tail _ (.tail _ (.head _))))))) (by decide) (by decide +kernel) (by decide +kernel) (by decide +kernel) (by decide +kernel)
  len := fun _ _ ⟨_, _, _, e⟩ => e ▸ len_figs
  put := fun _ _ _ _ ⟨_, hn, e1, e2⟩ ha => by
    subst e1 e2
    obtain ⟨_, _, rfl⟩ := inv_plain ha
    exact put_capacity hn
  get := fun _ _ _ _ _ _ ⟨_, hn, e1, e2⟩ hz H => by
    subst e1 e2
    exact get_capacity hn hz H
  short := fun _ _ k _ _ ⟨n, hn, e1, e2⟩ h1 h2 => by
    subst e1 e2
    have hB : Bits 5 32 32 := by decide
    obtain ⟨v, l, e, v0, v1, v2, v3, _⟩ := figs_first hB hn.1
    exact x1_C3 (take_len len_figs.top) (oc_take e h1 h2 ⟨v0, v1⟩) ⟨by omega, by omega⟩ hB hn (brk_take h2)
  kp := (keeps_ct w rfl).2.2.1
  kr := (keeps_ct w rfl).2.2.2.1
theorem pk_duplicate (w : World) : Pack w (Str.ofString "duplicate") 103 110 (GP (Str.ofString "duplicate") 32 0) where
  pair := fun _ _ _ => pair_plain (.tail _ (.tail _ (.tail _ (.tail _ (.tail _ (.tail _ (.tail _ (.head _)))))))) (by decide) (by decide +kernel) (by decide +kernel) (by decide +kernel) (by decide +kernel)
  len := fun _ _ ⟨_, _, _, e⟩ => e ▸ len_figs
  put := fun _ _ _ _ ⟨_, hn, e1, e2⟩ ha => by
    subst e1 e2
    obtain ⟨_, _, rfl⟩ := inv_plain ha
    exact put_duplicate hn
  get := fun _ _ _ _ _ _ ⟨_, hn, e1, e2⟩ hz H => by
    subst e1 e2
    exact get_duplicate hn hz H
  short := fun _ _ k _ _ ⟨n, hn, e1, e2⟩ h1 h2 => by
    subst e1 e2
    have hB : Bits 5 32 0 := by decide
    obtain ⟨v, l, e, v0, v1, v2, v3, _⟩ := figs_first hB hn.1
    exact x1_C3 (take_len len_figs.top) (oc_take e h1 h2 ⟨v0, v1⟩) ⟨by omega, by omega⟩ hB hn (brk_take h2)
  kp := (keeps_ct w rfl).2.2.1
  kr := (keeps_ct w rfl).2.2.2.1
theorem pk_insert_static (w : World) : Pack w (Str.ofString "insert_static") 103 110 (GI (Str.ofString "insert_static") 64 192) where
  pair := fun _ _ _ => pair_ins (.tail _ (.tail _ (.tail _ (.tail _ (.tail _ (.tail _ (.tail _ (.tail _ (.head _))))))))) (by decide) (by decide +kernel) (by decide +kernel) (by decide +kernel) (by decide +kernel)
  len := fun _ _ ⟨_, _, _, hx, _, e⟩ => e ▸ len_two hx
  put := fun _ _ _ _ ⟨_, _, hn, hx, e1, e2⟩ ha => by
    subst e1 e2
    obtain ⟨_, _, _, rfl⟩ := inv_ins ha
    exact put_insert_static hn (by omega)
  get := fun _ _ _ _ _ _ ⟨_, _, hn, hx, e1, e2⟩ hz H => by
    subst e1 e2
    exact get_insert_static hn (by omega) hz H
  short := fun _ _ k _ _ ⟨n, x, hn, hx, e1, e2⟩ h1 h2 => by
    subst e1 e2
    have hB : Bits 6 64 192 := by decide
    obtain ⟨v, l, e, v0, v1, v2, v3, _⟩ := figs_first hB hn.1
    have hz := take_len (k := k) (len_two (n := n) (M := 64) (h := 192) hx).top
    have A0 := oc_take (by rw [e]; rfl) h1 h2 ⟨v0, v1⟩
    rcases (brk_take h2).split with q | ⟨q1, q2⟩
    · exact x1_C1 hz A0 ⟨by omega, by omega⟩ hB hn q
    · exact x2_C1 hz A0 ⟨by omega, by omega⟩ hB (by decide) bits7 hn (by omega) q1 q2
  kp := (keeps_ct w rfl).2.2.1
  kr := (keeps_ct w rfl).2.2.2.1
theorem pk_insert_dynamic (w : World) : Pack w (Str.ofString "insert_dynamic") 103 110 (GI (Str.ofString "insert_dynamic") 64 128) where
  pair := fun _ _ _ => pair_ins (.tail _ (.tail _ (.tail _ (.tail _ (.tail _ (.tail _ (.tail _ (.tail _ (.tail _ (.head _)))))))))) (by decide) (by decide +kernel) (by decide +kernel) (by decide +kernel) (by decide +kernel)
  len := fun _ _ ⟨_, _, _, hx, _, e⟩ => e ▸ len_two hx
  put := fun _ _ _ _ ⟨_, _, hn, hx, e1, e2⟩ ha => by
    subst e1 e2
    obtain ⟨_, _, _, rfl⟩ := inv_ins ha
    exact put_insert_dynamic hn (by omega)
  get := fun _ _ _ _ _ _ ⟨_, _, hn, hx, e1, e2⟩ hz H => by
    subst e1 e2
    exact get_insert_dynamic hn (by omega) hz H
  short := fun _ _ k _ _ ⟨n, x, hn, hx, e1, e2⟩ h1 h2 => by
    subst e1 e2
    have hB : Bits 6 64 128 := by decide
    obtain ⟨v, l, e, v0, v1, v2, v3, _⟩ := figs_first hB hn.1
    have hz := take_len (k := k) (len_two (n := n) (M := 64) (h := 128) hx).top
    have A0 := oc_take (by rw [e]; rfl) h1 h2 ⟨v0, v1⟩
    rcases (brk_take h2).split with q | ⟨q1, q2⟩
    · exact x1_C1 hz A0 ⟨by omega, by omega⟩ hB hn q
    · exact x2_C1 hz A0 ⟨by omega, by omega⟩ hB (by decide) bits7 hn (by omega) q1 q2
  kp := (keeps_ct w rfl).2.2.1
  kr := (keeps_ct w rfl).2.2.2.1
theorem pk_ack (w : World) : Pack w (Str.ofString "ack") 117 124 (GP (Str.ofString "ack") 128 128) where
  pair := fun _ _ _ => pair_plain (.tail _ (.tail _ (.tail _ (.tail _ (.tail _ (.tail _ (.tail _ (.tail _ (.tail _ (.tail _ (.head _))))))))))) (by decide) (by decide +kernel) (by decide +kernel) (by decide +kernel) (by decide +kernel)
  len := fun _ _ ⟨_, _, _, e⟩ => e ▸ len_figs
  put := fun _ _ _ _ ⟨_, hn, e1, e2⟩ ha => by
    subst e1 e2
    obtain ⟨_, _, rfl⟩ := inv_plain ha
    exact put_ack hn
  get := fun _ _ _ _ _ _ ⟨_, hn, e1, e2⟩ hz H => by
    subst e1 e2
    exact get_ack hn hz H
  short := fun _ _ k _ _ ⟨n, hn, e1, e2⟩ h1 h2 => by
    subst e1 e2
    have hB : Bits 7 128 128 := by decide
    obtain ⟨v, l, e, v0, v1, v2, v3, _⟩ := figs_first hB hn.1
    exact x1_A1 (take_len len_figs.top) (oc_take e h1 h2 ⟨v0, v1⟩) ⟨by omega, by omega⟩ hB hn (brk_take h2)
  kp := (keeps_ct w rfl).2.2.2.2.1
  kr := (keeps_ct w rfl).2.2.2.2.2
theorem pk_cancel (w : World) : Pack w (Str.ofString "cancel") 117 124 (GP (Str.ofString "cancel") 64 64) where
  pair := fun _ _ _ => pair_plain (.tail _ (.tail _ (.tail _ (.tail _ (.tail _ (.tail _ (.tail _ (.tail _ (.tail _ (.tail _ (.tail _ (.head _)))))))))))) (by decide) (by decide +kernel) (by decide +kernel) (by decide +kernel) (by decide +kernel)
  len := fun _ _ ⟨_, _, _, e⟩ => e ▸ len_figs
  put := fun _ _ _ _ ⟨_, hn, e1, e2⟩ ha => by
    subst e1 e2
    obtain ⟨_, _, rfl⟩ := inv_plain ha
    exact put_cancel hn
  get := fun _ _ _ _ _ _ ⟨_, hn, e1, e2⟩ hz H => by
    subst e1 e2
    exact get_cancel hn hz H
  short := fun _ _ k _ _ ⟨n, hn, e1, e2⟩ h1 h2 => by
    subst e1 e2
    have hB : Bits 6 64 64 := by decide
    obtain ⟨v, l, e, v0, v1, v2, v3, _⟩ := figs_first hB hn.1
    exact x1_A2 (take_len len_figs.top) (oc_take e h1 h2 ⟨v0, v1⟩) ⟨by omega, by omega⟩ hB hn (brk_take h2)
  kp := (keeps_ct w rfl).2.2.2.2.1
  kr := (keeps_ct w rfl).2.2.2.2.2
theorem pk_increment (w : World) : Pack w (Str.ofString "increment") 117 124 (GP (Str.ofString "increment") 64 0) where
  pair := fun _ _ _ => pair_plain (.tail _ (.tail _ (.tail _ (.tail _ (.tail _ (.tail _ (.tail _ (.tail _ (.tail _ (.tail _ (.tail _ (.tail _ (.head _))))))))))))) (by decide) (by decide +kernel) (by decide +kernel) (by decide +kernel) (by decide +kernel)
  len := fun _ _ ⟨_, _, _, e⟩ => e ▸ len_figs
  put := fun _ _ _ _ ⟨_, hn, e1, e2⟩ ha => by
    subst e1 e2
    obtain ⟨_, _, rfl⟩ := inv_plain ha
    exact put_increment hn
  get := fun _ _ _ _ _ _ ⟨_, hn, e1, e2⟩ hz H => by
    subst e1 e2
    exact get_increment hn hz H
  short := fun _ _ k _ _ ⟨n, hn, e1, e2⟩ h1 h2 => by
    subst e1 e2
    have hB : Bits 6 64 0 := by decide
    obtain ⟨v, l, e, v0, v1, v2, v3, _⟩ := figs_first hB hn.1
    exact x1_A2 (take_len len_figs.top) (oc_take e h1 h2 ⟨v0, v1⟩) ⟨by omega, by omega⟩ hB hn (brk_take h2)
  kp := (keeps_ct w rfl).2.2.2.2.1
  kr := (keeps_ct w rfl).2.2.2.2.2
theorem pk_literal (w : World) : Pack w (Str.ofString "literal") 89 96 GL where
  pair := fun _ _ _ => pair_lit
  len := fun _ _ ⟨_, _, _, hy, hx, _, e⟩ => e ▸ len_txt hy hx
  put := fun _ _ _ _ ⟨_, _, _, hy, hx, e1, e2⟩ ha => by
    subst e1 e2
    obtain ⟨_, _, _, rfl⟩ := inv_lit ha
    exact put_literal (by omega) (by omega)
  get := fun _ _ _ _ _ _ ⟨_, _, _, hy, hx, e1, e2⟩ hz H => by
    subst e1 e2
    exact get_literal (by omega) (by omega) hz H
  short := fun _ _ k _ _ ⟨y, nv, x, hy, hx, e1, e2⟩ h1 h2 => by
    subst e1 e2
    have hz := take_len (k := k) (len_txt (M := 8) (h := (if nv then 48 else 32)) hy hx).top
    have hB : Bits 3 8 (if nv then 48 else 32) := by cases nv <;> decide
    obtain ⟨v, l, e, v0, v1, v2, v3, _⟩ := figs_first hB (n := y.length) (by omega)
    have A0 := oc_take (by rw [e]; rfl) h1 h2 ⟨v0, v1⟩
    have hv : 32 ≤ v ∧ v < 64 := by cases nv <;> simp only [if_true, if_false, Bool.false_eq_true] at v2 v3 <;> omega
    have hev : ((if nv then 48 else 32) : Int) / 8 % 2 = 0 := by cases nv <;> decide
    rcases (brk_take h2).split with q | ⟨q1, q2⟩
    · exact x1_L3 hz A0 hv hB hev (by omega) q
    · exact x2_L3 hz A0 hv hB hev (by decide) bits7 (by omega) (by omega) q1 q2
  kp := (keeps_ct w rfl).1
  kr := (keeps_ct w rfl).2.1
theorem pk_insert_literal (w : World) : Pack w (Str.ofString "insert_literal") 103 110 GIL where
  pair := fun _ _ _ => pair_inslit
  len := fun _ _ ⟨_, _, hy, hx, _, e⟩ => e ▸ len_txt hy hx
  put := fun _ _ _ _ ⟨_, _, hy, hx, e1, e2⟩ ha => by
    subst e1 e2
    obtain ⟨_, _, _, rfl⟩ := inv_inslit ha
    exact put_insert_literal (by omega) (by omega)
  get := fun _ _ _ _ _ _ ⟨_, _, hy, hx, e1, e2⟩ hz H => by
    subst e1 e2
    exact get_insert_literal (by omega) (by omega) hz H
  short := fun _ _ k _ _ ⟨y, x, hy, hx, e1, e2⟩ h1 h2 => by
    subst e1 e2
    have hz := take_len (k := k) (len_txt (M := 32) (h := 64) hy hx).top
    have hB : Bits 5 32 64 := by decide
    obtain ⟨v, l, e, v0, v1, v2, v3, _⟩ := figs_first hB (n := y.length) (by omega)
    have A0 := oc_take (by rw [e]; rfl) h1 h2 ⟨v0, v1⟩
    have hv : 64 ≤ v ∧ v < 128 := by omega
    have hev : (64 : Int) / 32 % 2 = 0 := by decide
    rcases (brk_take h2).split with q | ⟨q1, q2⟩
    · exact x1_C2 hz A0 hv hB hev (by omega) q
    · exact x2_C2 hz A0 hv hB hev (by decide) bits7 (by omega) (by omega) q1 q2
  kp := (keeps_ct w rfl).2.2.1
  kr := (keeps_ct w rfl).2.2.2.1
end Mine
end
section
open PySem PySem.W PySem.Spec PySem.Calls PyProof.Rows
set_option Elab.async false
set_option maxRecDepth 100000
set_option maxHeartbeats 0
namespace Mine
section
variable {M : Model} {A : Around} {E : Value → Shared → Prop} {s : Shared} {env : Env}
theorem s_allOr {x : PySem.Expr} {rest : List PySem.Expr} {Q : Bool → Shared → Prop}
    (h : wpS M A (isTrue x env (eval x env)) (fun b s' => if b then Q true s' else wpS M A (allTrue .Or rest env) Q E s') E s) : wpS M A (allTrue .Or (x :: rest) env) Q E s := by
  rw [arm_allTrue_cons]
  refine s_bind (s_mono h (fun b s' hb => ?_) fun _ _ z => z)
  cases b with
  | true => exact s_pure hb
  | false => exact hb
theorem s_allNil {Q : Bool → Shared → Prop} (h : Q false s) : wpS M A (allTrue .Or [] env) Q E s := by
  rw [arm_allTrue_nil]; exact s_pure h
theorem s_orL {values : List PySem.Expr} {pos : Pos} {whole : Sem Value} {Q : Bool → Shared → Prop} (h : wpS M A (allTrue .Or values env) Q E s) : wpS M A (isTrue (.BoolOp .Or values pos) env whole) Q E s := by
  rw [arm_isTrue_BoolOp]; exact h
theorem s_notT {x : PySem.Expr} {pos : Pos} {whole : Sem Value} {Q : Bool → Shared → Prop} (h : wpS M A (isTrue x env (eval x env)) (fun b s' => Q (!b) s') E s) : wpS M A (isTrue (.UnaryOp .Not x pos) env whole) Q E s := by
  rw [arm_isTrue_UnaryOp]
  exact s_bind (s_mono h (fun _ _ h' => s_pure h') fun _ _ z => z)
theorem s_truthCall {f : PySem.Expr} {args : List PySem.Expr} {kws : List Keyword} {pos : Pos} {whole : Sem Value} {Q : Bool → Shared → Prop} (h : wpS M A whole (fun v s' => wpAny M A (truthy v) Q E s') E s) : wpS M A (isTrue (.Call f args kws pos) env whole) Q E s := by
  show wpS M A (do let v ← whole; standAt _; holding [v] (truthy v)) Q E s
  exact s_bind (s_mono h (fun v s' h' => s_bind (s_any (wpAny_standAt (s_holding (s_any h'))))) fun _ _ z => z)
end
section
variable {K : Frag} {prog : Program} {w : World} {s : Shared} {mg mb : Str → Option Value} {p : Program} {loose : List Str} {mean : ExcName → Option Value}
theorem codeS_top {R : Result → Shared → Prop} {name qual : Str} {params : Arguments} {body : List Stmt} {scope : Scope} {dV kV doc pm cdv ct oc : Value} {an od : Option Addr} {osl : Array (Option Value)} {f : Addr} {args : Args} {binds : List (Str × Value)}
    (X : K.In s.heap) (T : Top p loose mean mg mb s.heap)
    (ho : K.lookup f = some ⟨oc, od, .func (fnOf name qual params body scope dV kV doc pm an cdv ct), osl⟩) (hcd : codeIn K cdv qual = true)
    (hbind : BindsTo s (fnOf name qual params body scope dV kV doc pm an cdv ct) args binds) (hloc : ∀ y ∈ binds, scope.names.lookup y.1 = some .local)
    (h : ∀ L' h₁, Fr s.heap L' h₁ (fun y => binds.reverse.lookup y) → News s.heap L' h₁ [] → Below callerA s.heap [] s.heap →
      wpS (model prog w) (callerA.deeper (envOf qual scope L' f cdv)) (execs body (envOf qual scope L' f cdv))
        (fun fl s' => R (.ok (.ret (match fl with | .ret v => v | _ => .none))) s')
        (fun _ _ => False)
        { s with heap := h₁, toks := s.toks + binds.length })
    (hco : scope.isCoroutine = false) (hgen : scope.isGenerator = false) (hk : scope.kind = .function)
    (hcell : ∀ x ∈ scope.names, x.2 ≠ .cell) : codeS (model prog w) callerA (.call (.ref f) args) R s :=
  codeS_def (fd := fnOf name qual params body scope dV kV doc pm an cdv ct) (body := body) (binds := binds) (by decide) (X _ _ ho) rfl T.nolimit (codeRec_of X hcd) rfl hbind hcell hloc
    (fun h₁ hns up => h _ h₁ ⟨hns, up, Nat.le_refl _⟩ News.nil (below_caller _)) hco hgen hk
end
section
variable {w : World} {b l : Addr} {vs : List Value} {mean : ExcName → Option Value} {mg mb : Str → Option Value} {dp un : Nat} {gd : Option (List Code)} {cn : Str} {cs : Scope} {a : Addr} {ccd : Value} {A₀ : Around} {base h₀ : Heap} {L : Addr} {m : Str → Option Value} {ox ol : Obj} {ex : Led} {s : Shared} {Q E : Value → Shared → Prop}
theorem CtR.use (C : CtR w b l vs) (B : Below A₀ base [] h₀) (F : Fr h₀ L s.heap m) (X : (Mine.hd.heap_39 w.params).In h₀) (N : News h₀ L s.heap (ex ++ [(b, ox), (l, ol)])) (hB : BoxSt b l ox ol) (hex : ∀ p ∈ ex, p.1 ≠ b ∧ p.1 ≠ l) (XB : (Mine.hd.heap_39 w.params).In base) (TB : Top Mine.hd.view_39 (looseW Mine.hd.view_39 [Str.ofString "GREATEST"]) mean mg mb base)
    (T : Top Mine.hd.view_39 (looseW Mine.hd.view_39 [Str.ofString "GREATEST"]) mean mg mb h₀) (hk : cs.kind = .function) (hd : dp + 20 < recursionLimit) (hu : un + 8 * 20 < cLine)
    (ret : ∀ (h' : Heap) (tk' : Nat) (ox' ol' : Obj), Fr h₀ L h' m → News h₀ L h' (ex ++ [(b, ox'), (l, ol')]) → BoxSt b l ox' ol' → Q (.bool true) { s with heap := h', toks := tk' }) :
    wpS (model PySem.Challenge.rw_nz0343_01.row.prog w) (ktrTop dp un gd cn cs L a ccd [] []) (call (.ref 194) vs) Q E s :=
  C _ _ _ _ _ _ _ _ _ _ _ _ _ _ _ _ _ _ _ _ B F X (fun p hp => N p (List.mem_append_right _ hp)) hB XB TB T hk hd hu fun h' tk' ox' ol' F' N' B' kk => ret h' tk' ox' ol' F' (fun p hp => by
    rcases List.mem_append.mp hp with hp | hp
    · have n := N p (List.mem_append_left _ hp)
      refine ⟨kk _ _ n.1 (fun q => ?_) n.2.1, n.2⟩
      simp only [List.map_cons, List.map_nil, List.mem_cons, List.not_mem_nil, or_false] at q
      exact q.elim (hex p hp).1 (hex p hp).2
    · exact N' p hp) B'
end
section
variable {prog : Program} {w : World} {A : Around} {s : Shared} {h₀ : Heap} {L b l t : Addr} {m m' : Str → Option Value} {ox ol : Obj} {E : Value → Shared → Prop}
theorem fr_kv {h : Heap} {x : Str} (F : Fr h₀ L h m) : Fr h₀ L h (fun y => if y = x then m x else m y) := by
  have e : (fun y => if y = x then m x else m y) = m := by funext y; split <;> simp_all
  rw [e]; exact F
theorem fr_kk {h : Heap} {x : Str} {c d : Option Value} (F : Fr h₀ L h (fun y => if y = x then c else if y = x then d else m y)) : Fr h₀ L h (fun y => if y = x then c else m y) := by
  have e : (fun y => if y = x then c else if y = x then d else m y) = (fun y => if y = x then c else m y) := by funext y; split <;> rfl
  rw [← e]; exact F
/-- a for over a tuple, the box in the ledger: J is what holds between the turns -/
theorem for_tuple {env : Env} {x : Str} {np : Pos} {body : List Stmt} {R : Result → Shared → Prop} {items : List Value} (hh : A.handled = none)
    (hstep : ∀ v ∈ items, ∀ (it : Addr) (oi : Obj) (s : Shared) (kv : Option Value) (ox ol : Obj) (Q' : Shared → Prop), Fr h₀ L s.heap (fun y => if y = x then kv else m y) → News h₀ L s.heap ([(it, oi), (t, tupO items)] ++ [(b, ox), (l, ol)]) → BoxSt b l ox ol → (∀ p ∈ [(it, oi), (t, tupO items)], p.1 ≠ b ∧ p.1 ≠ l) →
      (∀ (s' : Shared) (kv' : Option Value) (ox' ol' : Obj), s'.gens = s.gens → s'.drawn = s.drawn → s'.os = s.os → Fr h₀ L s'.heap (fun y => if y = x then kv' else m y) → News h₀ L s'.heap ([(it, oi), (t, tupO items)] ++ [(b, ox'), (l, ol')]) → BoxSt b l ox' ol' → Q' s') →
      wpAny (model prog w) A (assign (.Name x np) env v) (fun _ s₂ => wpS (model prog w) A (execs body env) (fun f s₃ => f = .next ∧ Q' s₃) (fun _ _ => False) s₂) (fun _ _ => False) s)
    (ht : t ≠ b ∧ t ≠ l) :
    ∀ (rest : List Value) (i : Nat) (it : Addr) (oi : Obj) (s : Shared) (kv : Option Value) (ox ol : Obj), oi.cls = .type "tuple_iterator" → oi.data = .fields #[.ref t, .int i 0] → items.drop i = rest → (it ≠ b ∧ it ≠ l ∧ it ≠ t) → Fr h₀ L s.heap (fun y => if y = x then kv else m y) → News h₀ L s.heap ([(it, oi), (t, tupO items)] ++ [(b, ox), (l, ol)]) → BoxSt b l ox ol →
      (∀ (s' : Shared) (kv' : Option Value) (ox' ol' : Obj), s'.gens = s.gens → s'.drawn = s.drawn → s'.os = s.os → Fr h₀ L s'.heap (fun y => if y = x then kv' else m y) → News h₀ L s'.heap [(b, ox'), (l, ol')] → BoxSt b l ox' ol' → R (.ok .next) s') →
      codeS (model prog w) A (.forLoop (.Name x np) (.ref it) body [] env) R s := by
  intro rest
  induction rest with
  | nil =>
    intro i it oi s kv ox ol hoc hod hd hit F N hB k
    have hz : items.length ≤ i := by
      have := congrArg List.length hd
      rw [List.length_drop] at this
      simp at this; omega
    refine codeS_for ?_
    have n1 := N _ (.head _)
    refine wpAny_pyNext_tuple_end hh ⟨_, n1.1, hoc, hod⟩ (News.isTup N (.tail _ (.head _))) (by simp [hz]) fun h' he => ?_
    have N' : News h₀ L h' [(b, ox), (l, ol)] := fun p hp => by
      have q := N p (List.mem_append_right _ hp)
      refine ⟨he _ _ ?_ q.1, q.2⟩
      simp only [List.mem_cons, List.not_mem_nil, or_false] at hp
      rcases hp with rfl | rfl
      · exact Ne.symm hit.1
      · exact Ne.symm hit.2.1
    have F' : Fr h₀ L h' (fun y => if y = x then kv else m y) := by
      obtain ⟨oL, es, ep, hL, r⟩ := F.ns
      refine ⟨⟨oL, es, ep, he _ _ (fun q => n1.2.1 q.symm) hL, r⟩, fun c o e => he _ _ (fun q => ?_) (F.keep c o e), F.above⟩
      rw [q] at e
      have := n1.2.2
      rw [e] at this; cases this
    exact k ⟨h', _, _, _, _⟩ kv ox ol rfl rfl rfl F' N' hB
  | cons v rest ih =>
    intro i it oi s kv ox ol hoc hod hd hit F N hB k
    have hx : items[i]? = some v := by
      have := congrArg (·[0]?) hd
      simpa using this
    have hmem : v ∈ items := List.mem_of_getElem? hx
    have hd' : items.drop (i + 1) = rest := by
      have := congrArg (List.drop 1) hd
      simpa [List.drop_drop, Nat.add_comm] using this
    refine codeS_for ?_
    have n1 := N _ (.head _)
    refine wpAny_pyNext_tuple_item ⟨_, n1.1, hoc, hod⟩ (News.isTup N (.tail _ (.head _))) (by simpa using hx) fun h' hi hs => ?_
    have hap : ∀ p ∈ [(t, tupO items)] ++ [(b, ox), (l, ol)], p.1 ≠ it := fun p hp => by
      simp only [List.cons_append, List.nil_append, List.mem_cons, List.not_mem_nil, or_false] at hp
      rcases hp with rfl | rfl | rfl
      · exact Ne.symm hit.2.2
      · exact Ne.symm hit.1
      · exact Ne.symm hit.2.1
    obtain ⟨oi', ho', hc', hod'⟩ := hi
    have N1 := News.setHead N hap hs ho'
    have F1 := F.change hs n1.2.1 n1.2.2
    have hex : ∀ p ∈ [(it, oi'), (t, tupO items)], p.1 ≠ b ∧ p.1 ≠ l := fun p hp => by
      simp only [List.mem_cons, List.not_mem_nil, or_false] at hp
      rcases hp with rfl | rfl
      · exact ⟨hit.1, hit.2.1⟩
      · exact ht
    refine wpAny_pure ?_
    exact hstep v hmem it oi' ⟨h', _, _, _, _⟩ kv ox ol _ F1 N1 hB hex fun s' kv' ox' ol' e1 e2 e3 F' N' hB' => ih (i + 1) it oi' s' kv' ox' ol' hc' hod' hd' hit F' N' hB' fun s'' kv'' ox'' ol'' e1' e2' e3' => k s'' kv'' ox'' ol'' (e1'.trans e1) (e2'.trans e2) (e3'.trans e3)
theorem for_start {env : Env} {x : Str} {np : Pos} {body : List Stmt} {R : Result → Shared → Prop} {items : List Value} {kv : Option Value} (F : Fr h₀ L s.heap (fun y => if y = x then kv else m y)) (N : News h₀ L s.heap [(t, tupO items), (b, ox), (l, ol)]) (hB : BoxSt b l ox ol) (hbl : b < t ∧ l < t) (hh : A.handled = none)
    (k : ∀ (s' : Shared) (kv' : Option Value) (ox' ol' : Obj), s'.gens = s.gens → s'.drawn = s.drawn → s'.os = s.os → Fr h₀ L s'.heap (fun y => if y = x then kv' else m y) → News h₀ L s'.heap [(b, ox'), (l, ol')] → BoxSt b l ox' ol' → R (.ok .next) s')
    (hstep : ∀ v ∈ items, ∀ (it : Addr) (oi : Obj) (s : Shared) (kv : Option Value) (ox ol : Obj) (Q' : Shared → Prop), Fr h₀ L s.heap (fun y => if y = x then kv else m y) → News h₀ L s.heap ([(it, oi), (t, tupO items)] ++ [(b, ox), (l, ol)]) → BoxSt b l ox ol → (∀ p ∈ [(it, oi), (t, tupO items)], p.1 ≠ b ∧ p.1 ≠ l) →
      (∀ (s' : Shared) (kv' : Option Value) (ox' ol' : Obj), s'.gens = s.gens → s'.drawn = s.drawn → s'.os = s.os → Fr h₀ L s'.heap (fun y => if y = x then kv' else m y) → News h₀ L s'.heap ([(it, oi), (t, tupO items)] ++ [(b, ox'), (l, ol')]) → BoxSt b l ox' ol' → Q' s') →
      wpAny (model prog w) A (assign (.Name x np) env v) (fun _ s₂ => wpS (model prog w) A (execs body env) (fun f s₃ => f = .next ∧ Q' s₃) (fun _ _ => False) s₂) (fun _ _ => False) s) :
    wpAny (model prog w) A (pyIter (.ref t)) (fun it s₂ => codeS (model prog w) A (.forLoop (.Name x np) it body [] env) R s₂) E s := by
  refine wpAny_pyIter_tuple (News.isTup N (.head _)) ?_
  have ne : ∀ p ∈ [(t, tupO items), (b, ox), (l, ol)], s.heap.objs.size ≠ p.1 := fun p hp => Ne.symm (Nat.ne_of_lt (Heap.lt_size (N p hp).1))
  exact for_tuple hh hstep ⟨Nat.ne_of_gt hbl.1, Nat.ne_of_gt hbl.2⟩ _ 0 _ _ ⟨_, _, _, _, _⟩ kv ox ol rfl rfl rfl ⟨ne _ (.tail _ (.head _)), ne _ (.tail _ (.tail _ (.head _))), ne _ (.head _)⟩ (F.push _) (News.push F N _) hB k
end
section
variable {w : World} {S : Addr} {k : Nat} {mean : ExcName → Option Value} {mg mb : Str → Option Value} {dp un : Nat} {gd : Option (List Code)} {cn : Str} {cs : Scope} {a : Addr} {ccd : Value} {cl : List (Str × Addr)} {outer : List Env} {A₀ : Around} {base h₀ : Heap} {L : Addr} {m : Str → Option Value} {vs : List Value} {ns : List Int} {s : Shared} {Q E : Value → Shared → Prop}
theorem CtBox.use (C : CtBox w S k) (B : Below A₀ base outer h₀) (F : Fr h₀ L s.heap m) (X : (Mine.hd.heap_39 w.params).In h₀) (N : News h₀ L s.heap []) (hS : base.IsList S vs.toArray) (hI : IntsAre vs ns) (hz : ns.length ≤ 63)
    (T : Top Mine.hd.view_39 (looseW Mine.hd.view_39 [Str.ofString "GREATEST"]) mean mg mb h₀) (hk : cs.kind = .function) (hd : dp + k < recursionLimit) (hu : un + 8 * k < cLine)
    (ret : ∀ (b l : Addr) (h' : Heap) (tk' : Nat) (ox ol : Obj), Fr h₀ L h' m → News h₀ L h' [(b, ox), (l, ol)] → BoxSt b l ox ol → Q (.ref b) { s with heap := h', toks := tk' }) :
    wpAny (model PySem.Challenge.rw_nz0343_01.row.prog w) (ktrTop dp un gd cn cs L a ccd cl outer) (call (.ref 138) [.ref S]) Q E s := C _ _ _ _ _ _ _ _ _ _ _ _ _ _ _ _ _ _ _ _ _ _ B F X N hS hI hz T hk hd hu ret
end
end Mine
end
section
open PySem PySem.W PySem.Spec PySem.Calls PyProof.Rows
set_option Elab.async false
set_option maxRecDepth 100000
set_option maxHeartbeats 0
set_option rowWalk.seconds 100
namespace Mine
theorem final : PySem.Challenge.rw_nz0343_01.Holds := by
  k_with_none
  k_with "Nx" => refine ⟨rfl, ?_⟩
  k_with "Kp" => (k_dflt (refine ⟨by k_is, ?_⟩))
  k_with "Ki" => (refine' ⟨Frag.In.keeps ?Xq9 (Fr.keep ?Fq9), ?_⟩; (case Fq9 => k_asm); (case Xq9 => assumption))
  k_with "Aft" => dsimp only [Aft]
  k_with "wpS" => (k_here; first | ((with_reducible show wpS _ _ (execs [Stmt.Return (some _) _] _) _ _ _); k_dflt (refine s_last ?_; refine s_Return ?_)) | ((with_reducible show wpS _ _ (execs (Stmt.If _ _ _ _ :: _) _) _ _ _); k_dflt (refine s_IfT ?_)) | ((with_reducible show wpS _ _ (isTrue (Expr.BoolOp BoolOp.Or _ _) _ _) _ _ _); k_dflt (refine s_orL ?_)) | ((with_reducible show wpS _ _ (allTrue BoolOp.Or (_ :: _) _) _ _ _); k_dflt (refine s_allOr ?_)) | ((with_reducible show wpS _ _ (allTrue BoolOp.Or [] _) _ _ _); k_dflt (refine s_allNil ?_)) | ((with_reducible show wpS _ _ (isTrue (Expr.UnaryOp _ _ _) _ _) _ _ _); k_dflt (refine s_notT ?_)) | ((with_reducible show wpS _ _ (isTrue (Expr.Call _ _ _ _) _ _) _ _ _); k_dflt (refine s_truthCall ?_)) | ((with_reducible show wpS _ _ (isTrue (Expr.Compare (Expr.Call _ _ _ _) _ _ _) _ _) _ _ _); k_dflt (refine s_cmp ?_)) | ((with_reducible show wpS _ _ (execs [] _) _ _ _); k_dflt (refine s_execs_nil ?_)) | ((with_reducible show wpS _ _ (execs (Stmt.For _ _ _ _ _ :: _) _) _ _ _); k_dflt (refine s_execs ?_; refine s_For ?_; try dsimp only)) | ((with_reducible show wpS _ _ (execs (_ :: _) _) _ _ _); k_dflt (refine s_leaf ?_)) | ((with_reducible show wpS _ _ (eval (Expr.Call _ _ [] _) _) _ _ _); k_dflt (refine s_CallH ?_)) | ((with_reducible show wpS _ _ (eval _ _) _ _ _); k_dflt (refine s_any ?_)) | ((with_reducible show wpS _ _ (call (Value.ref _) _) _ _ _); walk_at "S call"))
  k_with "eval Constant str" => (refine Calls.Constant_str ?_; dsimp only)
  k_with "eval Constant int" => (refine wpAny_Constant_int ?_; dsimp only)
  k_with "call ref" => (k_here; (with_reducible show wpAny _ _ (call (Value.ref 138) _) _ _ _); k_dflt (refine' CtBox.use box_ct ?Bq9 ?Fq9 ?Xq9 ?Nq9 ?Sq9 ?Iq9 ?zq9 ?Tq9 ?hkq9 ?hdq9 ?huq9 ?_; (case Fq9 => k_asm); (case Bq9 => k_asm); (case Xq9 => k_asm); (case Nq9 => k_asm); (case Sq9 => assumption); (case Iq9 => assumption); (case zq9 => omega); (case Tq9 => k_asm); (case hkq9 => exact rfl); (case hdq9 => ktr_room); (case huq9 => ktr_units)); intro b9 l9 h9 tk9 ox9 ol9 F9 N9 B9; (try dsimp only))
  k_with "S call" => first | ((with_reducible show wpS _ _ (call (Value.ref 117) _) _ _ _); k_dflt (refine' CtS.use (put_cancel ?hnq9) ?Bq9 ?Fq9 ?Xq9 ?Nq9 ?hlq9 ?Tq9 ?hkq9 ?hdq9 ?huq9 ?_; (case Fq9 => k_asm); (case Bq9 => k_asm); (case Xq9 => k_asm); (case Nq9 => k_asm); (case hlq9 => k_mem); (case hnq9 => decide); (case Tq9 => k_asm); (case hkq9 => exact rfl); (case hdq9 => ktr_room); (case huq9 => ktr_units)); intro r9 tl9 h9 tk9 F9 N9 O9 P9; obtain ⟨e9, t9, e8⟩ := P9; clear O9; subst e9 e8; simp only [List.nil_append] at N9; (try dsimp only); (try k_sweep)) | ((with_reducible show wpS _ _ (call (Value.ref 117) _) _ _ _); k_dflt (refine' CtS.use (put_increment ?hnq9) ?Bq9 ?Fq9 ?Xq9 ?Nq9 ?hlq9 ?Tq9 ?hkq9 ?hdq9 ?huq9 ?_; (case Fq9 => k_asm); (case Bq9 => k_asm); (case Xq9 => k_asm); (case Nq9 => k_asm); (case hlq9 => k_mem); (case hnq9 => decide); (case Tq9 => k_asm); (case hkq9 => exact rfl); (case hdq9 => ktr_room); (case huq9 => ktr_units)); intro r9 tl9 h9 tk9 F9 N9 O9 P9; obtain ⟨e9, t9, e8⟩ := P9; clear O9; subst e9 e8; simp only [List.nil_append] at N9; (try dsimp only); (try k_sweep)) | ((with_reducible show wpS _ _ (call (Value.ref 89) _) _ _ _); k_dflt (refine' CtS.use (put_post_name ?hnq9 ?hmq9) ?Bq9 ?Fq9 ?Xq9 ?Nq9 ?hlq9 ?Tq9 ?hkq9 ?hdq9 ?huq9 ?_; (case Fq9 => k_asm); (case Bq9 => k_asm); (case Xq9 => k_asm); (case Nq9 => k_asm); (case hlq9 => k_mem); (case hnq9 => decide); (case hmq9 => decide); (case Tq9 => k_asm); (case hkq9 => exact rfl); (case hdq9 => ktr_room); (case huq9 => ktr_units)); intro r9 tl9 h9 tk9 F9 N9 O9 P9; obtain ⟨e9, t9, e8⟩ := P9; clear O9; subst e9 e8; simp only [List.nil_append] at N9; (try dsimp only); (try k_sweep)) | ((with_reducible show wpS _ _ (call (Value.ref 103) _) _ _ _); k_dflt (refine' CtS.use (put_duplicate ?hnq9) ?Bq9 ?Fq9 ?Xq9 ?Nq9 ?hlq9 ?Tq9 ?hkq9 ?hdq9 ?huq9 ?_; (case Fq9 => k_asm); (case Bq9 => k_asm); (case Xq9 => k_asm); (case Nq9 => k_asm); (case hlq9 => k_mem); (case hnq9 => decide); (case Tq9 => k_asm); (case hkq9 => exact rfl); (case hdq9 => ktr_room); (case huq9 => ktr_units)); intro r9 tl9 h9 tk9 F9 N9 O9 P9; obtain ⟨e9, t9, e8⟩ := P9; clear O9; subst e9 e8; simp only [List.nil_append] at N9; (try dsimp only); (try k_sweep)) | ((with_reducible show wpS _ _ (call _ [Value.bytes _ _, Value.int _ _]) _ _ _); k_dflt (refine s_any ?_))
  k_with "S call" => ((with_reducible show wpS _ _ (call (Value.ref 194) _) _ _ _); k_dflt (refine' CtR.use (right_ct ?Pq9) ?Bq9 ?Fq9 ?Xq9 ?Nq9 ?hBq9 ?hexq9 ?XBq9 ?TBq9 ?Tq9 ?hkq9 ?hdq9 ?huq9 ?_; (case Pq9 => assumption); (case hexq9 => assumption); (case Fq9 => k_asm); (case Bq9 => k_asm); (case Xq9 => k_asm); (case hBq9 => assumption); (case Nq9 => k_asm); (case XBq9 => assumption); (case TBq9 => assumption); (case Tq9 => k_asm); (case hkq9 => exact rfl); (case hdq9 => ktr_room); (case huq9 => ktr_units)); intro h9 tk9 ox9 ol9 F9 N9 B9; (try dsimp only))
  k_with "got" => (intro r9 tl9 h9 tk9 F9 N9 P9; k_dflt (obtain ⟨q9, q8, vs9, t9, e9, e8, A9⟩ := P9); subst e9 e8; simp only [List.cons_append, List.nil_append] at N9; (try dsimp only); (try k_sweep))
  k_with "call ref" => (k_here; first | ((with_reducible show wpAny _ _ (call (Value.ref 124) _) _ _ _); k_dflt (refine' CtT.use (get_cancel (n := 0) ?hnq9 ?hzq9 ?H9q9) ?Bq9 ?Fq9 ?Xq9 ?Nq9 ?hlq9 ?Tq9 ?hkq9 ?hdq9 ?huq9 ?_; (case H9q9 => (unfold Has; decide)); (case hnq9 => decide); (case hzq9 => decide); (case hlq9 => exact trivial); (case Fq9 => k_asm); (case Bq9 => k_asm); (case Xq9 => k_asm); (case Nq9 => k_asm); (case Tq9 => k_asm); (case hkq9 => exact rfl); (case hdq9 => ktr_room); (case huq9 => ktr_units)); walk_at "got") | ((with_reducible show wpAny _ _ (call (Value.ref 124) _) _ _ _); k_dflt (refine' CtT.use (get_increment (n := 62) ?hnq9 ?hzq9 ?H9q9) ?Bq9 ?Fq9 ?Xq9 ?Nq9 ?hlq9 ?Tq9 ?hkq9 ?hdq9 ?huq9 ?_; (case H9q9 => (unfold Has; decide)); (case hnq9 => decide); (case hzq9 => decide); (case hlq9 => exact trivial); (case Fq9 => k_asm); (case Bq9 => k_asm); (case Xq9 => k_asm); (case Nq9 => k_asm); (case Tq9 => k_asm); (case hkq9 => exact rfl); (case hdq9 => ktr_room); (case huq9 => ktr_units)); walk_at "got") | ((with_reducible show wpAny _ _ (call (Value.ref 96) _) _ _ _); k_dflt (refine' CtT.use (get_post_name (n := 0) (nv := false) (l := []) ?hnq9 ?hmq9 ?hzq9 ?H9q9) ?Bq9 ?Fq9 ?Xq9 ?Nq9 ?hlq9 ?Tq9 ?hkq9 ?hdq9 ?huq9 ?_; (case H9q9 => (unfold Has; decide)); (case hnq9 => decide); (case hmq9 => decide); (case hzq9 => decide); (case hlq9 => exact trivial); (case Fq9 => k_asm); (case Bq9 => k_asm); (case Xq9 => k_asm); (case Nq9 => k_asm); (case Tq9 => k_asm); (case hkq9 => exact rfl); (case hdq9 => ktr_room); (case huq9 => ktr_units)); walk_at "got") | ((with_reducible show wpAny _ _ (call (Value.ref 110) _) _ _ _); k_dflt (refine' CtT.use (get_capacity (n := 0) ?hnq9 ?hzq9 ?H9q9) ?Bq9 ?Fq9 ?Xq9 ?Nq9 ?hlq9 ?Tq9 ?hkq9 ?hdq9 ?huq9 ?_; (case H9q9 => (unfold Has; decide)); (case hnq9 => decide); (case hzq9 => decide); (case hlq9 => exact trivial); (case Fq9 => k_asm); (case Bq9 => k_asm); (case Xq9 => k_asm); (case Nq9 => k_asm); (case Tq9 => k_asm); (case hkq9 => exact rfl); (case hdq9 => ktr_room); (case huq9 => ktr_units)); walk_at "got") | ((with_reducible show wpAny _ _ (call (Value.ref 110) _) _ _ _); k_dflt (refine' CtT.use (get_duplicate (n := 0) ?hnq9 ?hzq9 ?H9q9) ?Bq9 ?Fq9 ?Xq9 ?Nq9 ?hlq9 ?Tq9 ?hkq9 ?hdq9 ?huq9 ?_; (case H9q9 => (unfold Has; decide)); (case hnq9 => decide); (case hzq9 => decide); (case hlq9 => exact trivial); (case Fq9 => k_asm); (case Bq9 => k_asm); (case Xq9 => k_asm); (case Nq9 => k_asm); (case Tq9 => k_asm); (case hkq9 => exact rfl); (case hdq9 => ktr_room); (case huq9 => ktr_units)); walk_at "got"))
  k_with "compareOp NotEq bytes bytes" => (k_dflt (refine ne_by (by decide) ?_))
  k_with "pair eq" => ((case Nq9 => k_asm); (case x1q9 => k_mem); (case y1q9 => k_mem); (case x2q9 => k_mem); (case y2q9 => k_mem); (case a1q9 => assumption); (case a2q9 => first | exact a_plain | exact a_names); (case eq9 => decide); (case uq9 => ktr_units))
  k_with "compareOp NotEq ref ref" => (k_here; k_dflt (refine' ne_pair ?Nq9 ?x1q9 ?y1q9 ?x2q9 ?y2q9 ?a1q9 ?a2q9 ?eq9 ?uq9 ?_; (case Nq9 => k_asm); (case x1q9 => k_mem); (case y1q9 => k_mem); (case x2q9 => k_mem); (case y2q9 => k_mem); (case a1q9 => assumption); (case a2q9 => first | exact a_plain | exact a_names); (case eq9 => decide); (case uq9 => ktr_units)))
  k_with "compareOp Eq ref ref" => (k_here; k_dflt (refine' eq_pair ?Nq9 ?x1q9 ?y1q9 ?x2q9 ?y2q9 ?a1q9 ?a2q9 ?eq9 ?uq9 ?_; (case Nq9 => k_asm); (case x1q9 => k_mem); (case y1q9 => k_mem); (case x2q9 => k_mem); (case y2q9 => k_mem); (case a1q9 => assumption); (case a2q9 => first | exact a_plain | exact a_names); (case eq9 => decide); (case uq9 => ktr_units)))
  refine Mine.hd ?_
  w_on
  k_fill
  intro w s₀ s₁ mg mb G Y fa o pm cd doc dV kV ho hd hcd hD hmg hg args vals as hpre hlay hrd hwl hlo
  have KX := kIn_of Y
  refine Ground.open G ?_
  intro T B D TE TW
  wrow_args hpre hlay hrd hwl hlo
  have e201 := mg_of (n := Str.ofString "law") (v := .ref 201) KX (Top.g T) (by k_is)
  have e201 : fa = 201 := by
    have := e201.symm.trans hmg
    cases this; rfl
  subst e201
  clear ho hd hcd hD hmg TE TW B D
  refine s_call ?_
  k_dflt (refine' codeS_top KX T ?k6 ?k7 ?k9 ?kB ?_ ?c2 ?c3 ?c4 ?c5; (case k6 => k_is); (case k7 => k_is); (case k9 => exact BindsTo.of_eq rfl); (case kB => exact locs rfl); (case c2 => exact rfl); (case c3 => exact rfl); (case c4 => exact rfl); (case c5 => decide); k_whole; intro L' h' F' N' B'; (try dsimp only); (try k_fold))
  k_steps
  k_dflt (refine' for_start ?F ?N ?B ?o ?h ?_ ?stp9; (case F => first | k_asm | exact fr_kv (by k_asm)); (case N => k_asm); (case B => assumption); (case o => assumption); (case h => exact rfl))
  case stp9 =>
    intro v hv it9 oi9 s9 kv9 ox9 ol9 Q9 F9 N9 B9 H9 ret9
    have hP : ∃ kd tk G, v = .str kd tk ∧ Pack w kd 89 96 G := by
      simp only [List.mem_cons, List.not_mem_nil, or_false] at hv
      rcases hv with rfl | rfl | rfl | rfl | rfl | rfl | rfl
      · exact ⟨_, _, _, rfl, pk_static w⟩
      · exact ⟨_, _, _, rfl, pk_dynamic w⟩
      · exact ⟨_, _, _, rfl, pk_post w⟩
      · exact ⟨_, _, _, rfl, pk_static_name w⟩
      · exact ⟨_, _, _, rfl, pk_dynamic_name w⟩
      · exact ⟨_, _, _, rfl, pk_post_name w⟩
      · exact ⟨_, _, _, rfl, pk_literal w⟩
    obtain ⟨kd, tk, G, rfl, P⟩ := hP
    clear hv
    k_steps
    exact ret9 _ _ _ _ rfl rfl rfl (fr_kk (by k_asm)) (by k_asm) (by assumption)
  intro s9 kv9 ox9 ol9 e1 e2 e3 F9 N9 B9
  obtain ⟨h9, g9, d9, t9, o9⟩ := s9
  dsimp only at e1 e2 e3 F9 N9
  subst e1 e2 e3
  dsimp only
  k_steps
  k_dflt (refine' for_start ?F ?N ?B ?o ?h ?_ ?stp9; (case F => first | k_asm | exact fr_kv (by k_asm)); (case N => k_asm); (case B => assumption); (case o => assumption); (case h => exact rfl))
  case stp9 =>
    intro v hv it9 oi9 s9 kv9 ox9 ol9 Q9 F9 N9 B9 H9 ret9
    have hP : ∃ kd tk G, v = .str kd tk ∧ Pack w kd 103 110 G := by
      simp only [List.mem_cons, List.not_mem_nil, or_false] at hv
      rcases hv with rfl | rfl | rfl | rfl | rfl
      · exact ⟨_, _, _, rfl, pk_capacity w⟩
      · exact ⟨_, _, _, rfl, pk_duplicate w⟩
      · exact ⟨_, _, _, rfl, pk_insert_static w⟩
      · exact ⟨_, _, _, rfl, pk_insert_dynamic w⟩
      · exact ⟨_, _, _, rfl, pk_insert_literal w⟩
    obtain ⟨kd, tk, G, rfl, P⟩ := hP
    clear hv
    k_steps
    exact ret9 _ _ _ _ rfl rfl rfl (fr_kk (by k_asm)) (by k_asm) (by assumption)
  intro s9 kv9 ox9 ol9 e1 e2 e3 F9 N9 B9
  obtain ⟨h9, g9, d9, t9, o9⟩ := s9
  dsimp only at e1 e2 e3 F9 N9
  subst e1 e2 e3
  dsimp only
  k_steps
  k_dflt (refine' for_start ?F ?N ?B ?o ?h ?_ ?stp9; (case F => first | k_asm | exact fr_kv (by k_asm)); (case N => k_asm); (case B => assumption); (case o => assumption); (case h => exact rfl))
  case stp9 =>
    intro v hv it9 oi9 s9 kv9 ox9 ol9 Q9 F9 N9 B9 H9 ret9
    have hP : ∃ kd tk G, v = .str kd tk ∧ Pack w kd 117 124 G := by
      simp only [List.mem_cons, List.not_mem_nil, or_false] at hv
      rcases hv with rfl | rfl | rfl
      · exact ⟨_, _, _, rfl, pk_ack w⟩
      · exact ⟨_, _, _, rfl, pk_cancel w⟩
      · exact ⟨_, _, _, rfl, pk_increment w⟩
    obtain ⟨kd, tk, G, rfl, P⟩ := hP
    clear hv
    k_steps
    exact ret9 _ _ _ _ rfl rfl rfl (fr_kk (by k_asm)) (by k_asm) (by assumption)
  intro s9 kv9 ox9 ol9 e1 e2 e3 F9 N9 B9
  obtain ⟨h9, g9, d9, t9, o9⟩ := s9
  dsimp only at e1 e2 e3 F9 N9
  subst e1 e2 e3
  dsimp only

  k_steps
  dsimp only
  refine GoodW.toG ?_
  refine' goodW_bool ?F ?g (raisesW_false ?_) ?_
  case F => k_asm
  case g => assumption
  · wrow_none_raised
  · wrow_post
end Mine
end

theorem PySem.Challenge.cw_nz0343_01_holds : PySem.Challenge.rw_nz0343_01.Holds := by
  exact Mine.final
