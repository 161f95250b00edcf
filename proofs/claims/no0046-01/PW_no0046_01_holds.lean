import PyProof.Rows.All
import Wide.All
import OpenK.AllK
import Wide.FinOn
import KE.BytesMake
import KE.KItem
import KE.LcTurns
import KE.KLcTest
import PyProof.InstStoreFacts
import PyProof.ExcInit
import PyProof.InstLoad
import PyProof.ExcAttrAll.Exception
import Open.Head
import PySem.Challenge.RW_no0046_01
set_option Elab.async false
set_option compiler.extract_closed false
section
open PySem PySem.W PyProof.Rows PySem.Calls
open PySem.Sem (wp)
set_option maxRecDepth 100000
namespace Mine

/-- the codes whose frame may hold a bytes-like object while it runs -/
def holders : List String := ["bytearray.__contains__", "bytearray.__mod__", "bytearray.__rmod__", "_struct.pack_into.held", "bytearray.find.held"] ++ Builtin.Bytes.decodersThatHold
def clean : Code → Bool
  | .builtin id _ => !holders.contains id
  | _ => true
/-- no such code stands in the stack -/
def Clean (Γ : Ctx) : Prop := clean Γ.code = true ∧ ∀ x ∈ Γ.below, clean x.1 = true
def CleanBelow (Γ : Ctx) : Prop := ∀ x ∈ Γ.below, clean x.1 = true

/-- wpAny, of the clean stacks alone -/
def wpC {α : Type} (M : Model) (A : Around) (t : Sem α) (Q : α → Shared → Prop) (E : Value → Shared → Prop) (s : Shared) : Prop :=
  ∀ Γ p, Γ.In A → Clean Γ → wp M Γ t (fun a _ s' => Q a s') (fun e _ s' => E e s') p s
def codeC (M : Model) (A : Around) (c : Code) (R : Result → Shared → Prop) (s : Shared) : Prop :=
  ∀ Γ p, Γ.code = c → Γ.Below A → CleanBelow Γ → wpCode M Γ R p s

section
variable {α β : Type} {M : Model} {A : Around} {E : Value → Shared → Prop} {s : Shared}
theorem wpC_any {t : Sem α} {Q : α → Shared → Prop} (h : wpAny M A t Q E s) : wpC M A t Q E s := fun Γ p hΓ _ => h Γ p hΓ
theorem wpC_pure {a : α} {Q : α → Shared → Prop} (h : Q a s) : wpC M A (pure a) Q E s := wpC_any (wpAny_pure h)
theorem wpC_mono {t : Sem α} {Q Q' : α → Shared → Prop} {E' : Value → Shared → Prop} (h : wpC M A t Q E s) (hQ : ∀ a s, Q a s → Q' a s) (hE : ∀ e s, E e s → E' e s) : wpC M A t Q' E' s :=
  fun Γ p hΓ hc => Sem.wp_mono M Γ t (fun a _ s => hQ a s) (fun e _ s => hE e s) p s (h Γ p hΓ hc)
theorem wpC_bind {m : Sem α} {f : α → Sem β} {Q : β → Shared → Prop} (h : wpC M A m (fun a s' => wpC M A (f a) Q E s') E s) : wpC M A (m >>= f) Q E s := fun Γ p hΓ hc => by
  rw [Sem.wp_bind']
  exact Sem.wp_mono M Γ m (fun a p' s' h' => h' Γ p' hΓ hc) (fun _ _ _ h' => h') p s (h Γ p hΓ hc)
/-- a step by wpAny, then on -/
theorem wpC_then {m : Sem α} {f : α → Sem β} {Q : β → Shared → Prop} (h : wpAny M A m (fun a s' => wpC M A (f a) Q E s') E s) : wpC M A (m >>= f) Q E s := wpC_bind (wpC_any h)
theorem wpC_onRaise {m : Sem α} {k : Value → Sem Unit} {Q : α → Shared → Prop} (h : wpC M A m Q (fun e s' => wpC M A (k e) (fun _ s'' => E e s'') E s') s) : wpC M A (m.onRaise k) Q E s := fun Γ p hΓ hc => by
  rw [Sem.wp_onRaise]
  exact Sem.wp_mono M Γ m (fun _ _ _ h' => h') (fun e p' s' h' => h' Γ p' hΓ hc) p s (h Γ p hΓ hc)
theorem wpC_holding {vs : List Value} {m : Sem α} {Q : α → Shared → Prop} (h : wpC M A m Q E s) : wpC M A (holding vs m) Q E s := fun Γ p hΓ hc => by
  have := h Γ p hΓ hc
  have e : wpAny M A m Q E s → wpAny M A (holding vs m) Q E s := wpAny_holding
  unfold holding
  split
  · exact this
  · rw [Sem.wp_keep]; exact this
theorem clean_enter {Γ : Ctx} (hc : Clean Γ) (c : Code) (hd : Option Value) (p : Pos) : CleanBelow (Γ.enter c hd p) := fun x hx => by
  have hx' : x ∈ (Γ.code, p) :: Γ.below := hx
  rcases List.mem_cons.mp hx' with rfl | hx'
  · exact hc.1
  · exact hc.2 x hx'
theorem wpC_call {f : Value} {pos : List Value} {kw : List (PySem.Str × Value)} {Q : Value → Shared → Prop}
    (h : codeC M A (.call f ⟨pos, kw⟩) (fun r s' => match r with | .ok (.ret v) => Q v s' | .ok _ => False | .error e => E e s') s) : wpC M A (call f pos kw) Q E s := fun Γ p hΓ hc => by
  show wp M Γ (runValue _) _ _ p s
  rw [Sem.wp_runValue]
  exact h _ p rfl (hΓ.enter _ none p (by intro x; cases x)) (clean_enter hc _ _ _)
theorem codeC_tree {c : Code} {R : Result → Shared → Prop} (hcl : clean c = true)
    (h : wpC M (A.under c) (M.den c) (fun fin s' => match fin with | .done f => R (.ok f) s' | .again c' => c'.quiet = true ∧ codeC M A c' R s') (fun e s' => R (.error e) s') s) : codeC M A c R s := fun Γ p hc hΓ hb => by
  rw [wpCode_iff_wp, hc]
  refine Sem.wp_mono M Γ _ (fun fin p' s' h' => ?_) (fun _ _ _ h' => h') p s (h Γ p (hc ▸ hΓ.in) ⟨by rw [hc]; exact hcl, hb⟩)
  cases fin with
  | done f => exact h'
  | again c' => exact ⟨h'.1, h'.2 (Γ.goto c') p' rfl (hΓ.goto c') hb⟩

/-- no object is held by the stack -/
theorem exported_no {self : Value} {Q : Bool → Shared → Prop} (h : Q false s) : wpC M A (Builtin.Bytes.exported self) Q E s := fun Γ p _ hc => by
  unfold Builtin.Bytes.exported
  rw [Sem.wp_bind']
  unfold stack
  rw [Sem.wp_stack, Sem.wp_pure]
  rw [Sem.wp_pure']
  have all : ∀ x ∈ (Γ.code, p) :: Γ.below, clean x.1 = true := fun x hx => by
    rcases List.mem_cons.mp hx with rfl | hx
    · exact hc.1
    · exact hc.2 x hx
  have e : ∀ b, b = false → Q b s := fun b hb => hb ▸ h
  refine e _ (List.any_eq_false.mpr fun x hx hb => ?_)
  have hx := all x hx
  split at hb
  case h_1 => exact absurd hx (by simp [clean, holders])
  case h_2 => exact absurd hx (by simp [clean, holders])
  case h_3 => exact absurd hx (by simp [clean, holders])
  case h_4 => exact absurd hx (by simp [clean, holders])
  case h_5 => exact absurd hx (by simp [clean, holders])
  case h_6 =>
    rename_i id v _ _ _ _ _ _ _ _ _
    have h1 := (Bool.and_eq_true_iff.mp hb).2
    have h2 : id ∈ Builtin.Bytes.decodersThatHold := List.contains_iff_mem.mp h1
    have h3 : (!holders.contains id) = true := hx
    have h4 : id ∈ holders := List.mem_append_right _ h2
    rw [List.contains_iff_mem.mpr h4] at h3
    exact absurd h3 (by decide)
  case h_7 => exact absurd hb (by decide)
end
end Mine
end

section
open PySem PySem.W PyProof.Rows PySem.Calls
open PySem.Sem (wp)
set_option maxRecDepth 100000
namespace Mine
/-- the walk of an open law's def, over clean stacks -/
abbrev WalkC (q : Program) (loose : List PySem.Str) (XP : (PySem.Str → Option Value) → Heap → Prop) (YP : World → Heap → Prop) (r : RowW) (d : DefRec) (kwd : List (PySem.Str × Expr)) : Prop :=
  ∀ (w : World) (s₀ s₁ : Shared) (mg mb : PySem.Str → Option Value), Ground q loose r.records XP w s₀ mg mb s₁.heap → YP w s₁.heap → ∀ (a : Addr) (o : Obj) (pm cd doc dV kV : Value), s₁.heap.get? a = some o →
    o.data = .func { docDef d.name d.params d.body d.scope pm cd doc with defaults := dV, kwdefaults := kV } → s₁.heap.CodeRec cd d.name → Dflts mg s₁.heap d.params kwd dV kV → mg d.name = some (.ref a) → s₁.gens = #[] →
    ∀ (args : List WData) (vals : List Value) (as : List Addr), r.claim.pre args = true → WData.layableAll args = true → ReadsAllW r.records (classAt s₀.heap) s₁.heap vals args as → WellAll w.params s₁.heap vals args → (∀ a ∈ as, (a == sysModules) = false) →
      wpC (model r.prog w) callerA (PySem.call (.ref a) vals) (fun v s' => GoodWG r.claim (classAt s₀.heap) (ExcName.means s₀.heap) args s₁ (.ok (.ret v)) s')
        (fun e s' => GoodWG r.claim (classAt s₀.heap) (ExcName.means s₀.heap) args s₁ (.error e) s') s₁
/-- the thread that the claim's caller starts, its stack being clean -/
theorem thread_clean {prog : Program} {w : World} {t : Sem PySem.Fin} {s : Shared} {R : Result → Shared → Prop} (hz : s.asleep)
    (h : wpC (model prog w) callerA t (fun fin s' => ∃ f, fin = .done f ∧ R (.ok f) s' ∧ leftWithCleanup s'.gens = false) (fun e s' => R (.error e) s' ∧ leftWithCleanup s'.gens = false) s) :
    ∃ n r s' s'', runN (denote table) prog w n s ⟨t, .builtin "claim.caller" {}, default, []⟩ = .halted (outcomeOf r) s' ∧
      schedN (denote table) prog w n (.single s ⟨t, .builtin "claim.caller" {}, default, []⟩) = .halted (outcomeOf r) s' ∧ s'.forget = s''.forget ∧ R r s'' := by
  have base := h (⟨.builtin "claim.caller" {}, none, none, [], none⟩ : Ctx) default caller_in ⟨by decide +kernel, fun x hx => nomatch hx⟩
  have fin : wp (model prog w) (⟨.builtin "claim.caller" {}, none, none, [], none⟩ : Ctx) t (Sem.finPost (model prog w) ⟨.builtin "claim.caller" {}, none, none, [], none⟩ fun r s' => R r s' ∧ leftWithCleanup s'.gens = false)
      (fun e _ s' => R (.error e) s' ∧ leftWithCleanup s'.gens = false) default s :=
    Sem.wp_mono _ _ t (fun x p' s' ⟨f, e, q⟩ => by subst e; exact q) (fun _ _ _ q => q) default s base
  obtain ⟨n, r, s₁, s₂, a, b, c, d⟩ := wp_halts_full (M := model prog w) (R := R) hz fin
  exact ⟨n, r, s₂, s₁, b, a, c, d⟩
theorem PySem.W.holds_open {r : OpenRow} {q : Program} {loose : List PySem.Str} {Xt : Shared → Bool} {XP : (PySem.Str → Option Value) → Heap → Prop} {α : Type} {Yf : Shared → α} {Ya : World → α} {YP : World → Heap → Prop} {d : DefRec} {kwd : List (PySem.Str × Expr)} {N : Nat}
    (left : LeftO r.prog q loose Xt Yf Ya N) (hY : ∀ w s, Yf s = Ya w → YP w s.heap) (hYk : ∀ w h h', YP w h → (∀ b o, h.get? b = some o → h'.get? b = some o) → YP w h')
    (hX : ∀ s, Xt s = true → XP (s.heap.nsMap mainGlobals) s.heap) (hXk : ∀ mg h h', XP mg h → (∀ b o, h.get? b = some o → h'.get? b = some o) → XP mg h')
    (hdef : defOf q r.name = some (d, kwd)) (hp : r.prog.theDef r.name = some (d.params, d.body, d.scope)) (hk : kwWritten? d.params.kwonlyargs d.params.kw_defaults = some kwd) (hRf : ∀ s, Xt s = true → RecFacts r.records s.heap) (hwr : (!r.writes || r.records.isEmpty) = true)
    (k1 : r.wellSaid = true) (ok : (chainsOk q && opensWell r.prog && (frees r.toRowW && r.within.isEmpty)) = true) (hb : r.prog.bare) (hw : r.toRowW.promised)
    (call : WalkC q loose XP YP r.toRowW d kwd) : r.Holds := by
  simp only [Bool.and_eq_true] at ok
  obtain ⟨⟨hch, o1⟩, k5, k6⟩ := ok
  obtain ⟨hsame, hu, ha, hap, hm⟩ := frees_parts k5
  have hi := ident_freeW hu ha hap
  have hwi : r.toRowW.claim.within = [] := List.isEmpty_iff.mp k6
  refine ⟨k1, hw, ⟨hb, o1, by show r.makers.map _ = []; rw [hm]; rfl⟩, hw.witness, fun w => ?_⟩
  have far := left.behind (XP := fun mg h => XP mg h ∧ RecFacts r.records h) (fun s hs => ⟨hX s hs, hRf s hs⟩) hch w
  refine ⟨far.1, fun s' hs' => ?_⟩
  obtain ⟨s₀, hf, hg0, s, hT, hz, hgens, hg, G, y⟩ := far.2 s' hs'
  have RF := G.X.2
  have G0 : Ground q loose [] XP w s (s.heap.nsMap mainGlobals) (s.heap.nsMap builtinsNs) s.heap := { T := G.T, B := G.B, D := G.D, TE := G.TE, TD := G.TD, W := G.W, X := G.X.1, cls := G.cls, has := G.has, apart := G.apart, once := G.once, K := G.K }
  have GR := RF.ground G0
  have nogen : s.gens = #[] := Array.eq_empty_of_size_eq_zero (beq_iff_eq.mp hgens)
  refine ⟨s₀, hf, hg0, s, hT, fun n hn => ?_, RF.1, RF.2.1, ?_⟩
  · obtain rfl : n = r.name := by split at hn <;> simp_all
    exact pinned_of_view hg G0 hdef hp hk
  intro args hpre hlay ord hord
  obtain ⟨⟨vs, s₁⟩, laid⟩ := Option.isSome_iff_exists.mp (layAllW_isSome (P := w.params) (ord := ord) GR.has args r.args s (pre_splitW hpre).1)
  have keeps := layAllW_keeps _ _ _ laid
  have rest := layAllW_rest _ _ _ laid
  obtain ⟨as, hrd, hin, hold⟩ := reads_layAllW hord _ _ _ laid hlay s₁.heap (fun _ _ e => e)
  have L : Laid r.records w s s₁ args vs as := ⟨⟨ord, hord, laid⟩, hrd, hin, hold, keeps, rest.1.trans nogen, rest.2.2.1⟩
  have G₁ := GR.keeps hXk keeps
  obtain ⟨a, o, pm, cd, doc, dV, kV, f1, f2, f3, f4, f5⟩ := G₁.fn hdef
  have walk := call w s s₁ _ _ G₁ (hYk _ _ _ (hY w s y) keeps) a o pm cd doc dV kV f2 f3 f4 f5 (defOf_name hdef ▸ f1) L.gens args vs as hpre hlay L.reads L.well (L.low GR.low)
  have tree : wpC (model r.prog w) callerA (do match ← nsGet mainNs r.name with | some f => do ret (← PySem.call f vs) | none => unsupported "claim.caller:no-such-global")
      (fun fin s' => ∃ f, fin = .done f ∧ ((r.toRowW.claim.Ends s args vs s₁ (.ok f) s' ∧ s'.os = s.os ∧ (r.writes = true → namesKept r.prog r.keeps s.heap s'.heap ∧ ∀ x ∈ r.records, ∀ a, classAt s.heap x.1 = some a → recordClass s'.heap a x.1 (x.2.map (·.1)) = true)) ∧ leftWithCleanup s'.gens = false))
      (fun e s' => (r.toRowW.claim.Ends s args vs s₁ (.error e) s' ∧ s'.os = s.os ∧ (r.writes = true → namesKept r.prog r.keeps s.heap s'.heap ∧ ∀ x ∈ r.records, ∀ a, classAt s.heap x.1 = some a → recordClass s'.heap a x.1 (x.2.map (·.1)) = true)) ∧ leftWithCleanup s'.gens = false) s₁ := by
    refine wpC_then (wpAny_nsGet G₁.T.g ?_)
    rw [show s.heap.nsMap mainGlobals r.name = some (.ref a) from defOf_name hdef ▸ f1]
    refine wpC_bind (wpC_mono walk (fun v s' g => wpC_pure ⟨_, rfl, ?_⟩) fun e s' g => ?_)
    · have z := g.laid (c := r.toRowW.claim) hsame hwi hi L
      exact ⟨⟨z.1, z.2.1, fun q => ⟨namesKept_of hT hg r.keeps keeps g.2.1.old, noTable hwr q⟩⟩, leftWithCleanup_false_of_bare z.2.2⟩
    · have z := g.laid (c := r.toRowW.claim) hsame hwi hi L
      exact ⟨⟨z.1, z.2.1, fun q => ⟨namesKept_of hT hg r.keeps keeps g.2.1.old, noTable hwr q⟩⟩, leftWithCleanup_false_of_bare z.2.2⟩
  obtain ⟨k, x, t, t', run, sched, same, ends, os, kept⟩ := thread_clean (R := fun x s' => r.toRowW.claim.Ends s args vs s₁ x s' ∧ s'.os = s.os ∧ (r.writes = true → namesKept r.prog r.keeps s.heap s'.heap ∧ ∀ x ∈ r.records, ∀ a, classAt s.heap x.1 = some a → recordClass s'.heap a x.1 (x.2.map (·.1)) = true)) (Shared.asleep_of_life rest.2.2.2 hz) tree
  obtain ⟨eh, _, _, eo, _⟩ := Shared.forget_eq same
  have ends := ends.congr eh
  refine ⟨vs, s₁, laid, k, _, t, sched, ?_, fun _ i y hy => ?_, ?_, ?_, ?_⟩
  · rcases ends with ⟨v, rfl, d1, d2, d3, d4, d5⟩ | ⟨e, ob, cls, rfl, d1, d2, d3, d4, d5⟩
    · exact .inl ⟨v, rfl, d1, d2, d3, fun b o z _ => d4 b o z, d5⟩
    · exact .inr ⟨e, ob, cls, rfl, d1, d2, d3, d4, fun b o z _ => d5 b o z⟩
  · rw [nogen] at hy; simp at hy
  · show r.writes = true → _
    rw [eh]; exact kept
  · exact congrArg Life.seen ((runN_life _ _ _ run).trans rest.2.2.2)
  · exact Shared.rest_eq (eo ▸ os)
end Mine
end

section
open PySem PySem.W PyProof.Rows
set_option Elab.async false
set_option maxRecDepth 100000
set_option maxHeartbeats 8000000
namespace Mine
open_top hd for PySem.Challenge.rw_no0046_01
end Mine
end

section
open PySem PySem.W PyProof.Rows PySem.Calls PySem.Spec
set_option Elab.async false
set_option maxRecDepth 100000
set_option maxHeartbeats 8000000
namespace Mine
theorem fill : Mine.hd.heap_39 = Mine.hd.heap_39 ∧ PySem.Challenge.rw_no0046_01 = PySem.Challenge.rw_no0046_01 := by
  k_fill
  exact ⟨rfl, rfl⟩
abbrev Led := List (Addr × Obj)
/-- what a call of the def at address f with the arguments vs does: from the ledger pre it comes back with a value and a ledger of which post holds -/
abbrev Ctr (w : World) (f : Addr) (vs : List Value) (pre : Led) (post : Value → Led → Prop) : Prop :=
  ∀ (dp un : Nat) (gd : Option (List Code)) (cn : PySem.Str) (cs : Scope) (a : Addr) (ccd : Value) (cl : List (PySem.Str × Addr)) (outer : List Env) (A₀ : Around) (base h₀ : Heap) (L : Addr) (m : PySem.Str → Option Value) (s : Shared) (Q E : Value → Shared → Prop) (mean : ExcName → Option Value) (mg mb : PySem.Str → Option Value),
    Below A₀ base outer h₀ → Fr h₀ L s.heap m → (hd.heap_39 w.params).In h₀ → News h₀ L s.heap pre → Top hd.view_39 (looseW hd.view_39 []) mean mg mb h₀ → cs.kind = .function → dp + 3 < recursionLimit → un + 24 < cLine →
    (∀ (v : Value) (led : Led) (h' : Heap) (tk' : Nat), post v led → Fr h₀ L h' m → News h₀ L h' led → Q v { s with heap := h', toks := tk' }) →
    wpAny (model PySem.Challenge.rw_no0046_01.row.prog w) (ktrTop dp un gd cn cs L a ccd cl outer) (call (.ref f) vs) Q E s
end Mine
end

section
open PySem PySem.W PyProof.Rows PySem.Calls PySem.Spec
set_option Elab.async false
set_option maxRecDepth 100000
set_option maxHeartbeats 8000000
namespace Mine
def lawDef : Stmt := PySem.Challenge.pw_no0046_01.main.body.getD 15 (.Pass default)
def lawBody : List Stmt := match lawDef with | .FunctionDef (body := b) .. => b | _ => []
def lawScope : Scope := match lawDef with | .FunctionDef (scope := b) .. => b | _ => default
def lawSt (i : Nat) : Stmt := lawBody.getD i (.Pass default)
def lawName : PySem.Str := PySem.Str.ofString "law"
theorem lawLen : lawBody.length = 16 := by decide +kernel
end Mine
end

section
open PySem PySem.W PyProof.Rows PySem.Calls PySem.Spec
set_option maxRecDepth 100000
namespace Mine
/-- use of a contract -/
theorem Ctr.use {w : World} {f : Addr} {vs : List Value} {pre : Led} {post : Value → Led → Prop} (C : Ctr w f vs pre post) {dp un : Nat} {gd : Option (List Code)} {cn : PySem.Str} {cs : Scope} {a : Addr} {ccd : Value} {cl : List (PySem.Str × Addr)} {outer : List Env} {A₀ : Around} {base h₀ : Heap} {L : Addr} {m : PySem.Str → Option Value} {s : Shared} {Q E : Value → Shared → Prop} {mean : ExcName → Option Value} {mg mb : PySem.Str → Option Value}
    (B : Below A₀ base outer h₀) (F : Fr h₀ L s.heap m) (X : (hd.heap_39 w.params).In h₀) (N : News h₀ L s.heap pre) (T : Top hd.view_39 (looseW hd.view_39 []) mean mg mb h₀) (hk : cs.kind = .function) (hd : dp + 3 < recursionLimit) (hu : un + 24 < cLine)
    (hret : ∀ (v : Value) (led : Led) (h' : Heap) (tk' : Nat), post v led → Fr h₀ L h' m → News h₀ L h' led → Q v { s with heap := h', toks := tk' }) :
    wpAny (model PySem.Challenge.rw_no0046_01.row.prog w) (ktrTop dp un gd cn cs L a ccd cl outer) (call (.ref f) vs) Q E s := C _ _ _ _ _ _ _ _ _ _ _ _ _ _ _ _ _ _ _ _ B F X N T hk hd hu hret
/-- the same, the contract last: its own premises are found when all else is known -/
theorem Ctr.use' {w : World} {f : Addr} {vs : List Value} {pre : Led} {post : Value → Led → Prop} {dp un : Nat} {gd : Option (List Code)} {cn : PySem.Str} {cs : Scope} {a : Addr} {ccd : Value} {cl : List (PySem.Str × Addr)} {outer : List Env} {A₀ : Around} {base h₀ : Heap} {L : Addr} {m : PySem.Str → Option Value} {s : Shared} {Q E : Value → Shared → Prop} {mean : ExcName → Option Value} {mg mb : PySem.Str → Option Value}
    (B : Below A₀ base outer h₀) (F : Fr h₀ L s.heap m) (X : (hd.heap_39 w.params).In h₀) (N : News h₀ L s.heap pre) (T : Top hd.view_39 (looseW hd.view_39 []) mean mg mb h₀) (hk : cs.kind = .function) (hd : dp + 3 < recursionLimit) (hu : un + 24 < cLine) (C : Ctr w f vs pre post)
    (hret : ∀ (v : Value) (led : Led) (h' : Heap) (tk' : Nat), post v led → Fr h₀ L h' m → News h₀ L h' led → Q v { s with heap := h', toks := tk' }) :
    wpAny (model PySem.Challenge.rw_no0046_01.row.prog w) (ktrTop dp un gd cn cs L a ccd cl outer) (call (.ref f) vs) Q E s := C.use B F X N T hk hd hu hret
end Mine
end

section
open PySem PySem.W PyProof.Rows PySem.Calls PySem.Spec
set_option maxRecDepth 100000
namespace Mine

/-- from the heap g to h: what is neither the exception e nor a frame stands as it stood, a frame's slots may have turned -/
def Kept (g h : Heap) (e : Addr) (fs : List Addr) : Prop :=
  ∀ b o, g.get? b = some o → b ≠ e → (b ∉ fs → h.get? b = some o) ∧ ∃ sl, h.get? b = some { o with slots := sl }

/-- e flies: an object of the class cls with the dict dct, its traceback's head T made behind g and marked fl -/
def FlyD (g : Heap) (fs : List Addr) (e : Addr) (cls : Value) (dct : Option Addr) (fl : Value) (h : Heap) : Prop :=
  Kept g h e fs ∧ ∃ oe vs T oT ts, h.get? e = some oe ∧ oe.cls = cls ∧ oe.dict = dct ∧ oe.data = .fields vs ∧ vs[1]? = some (.ref T) ∧ g.get? T = none ∧ T ≠ e ∧
    h.get? T = some oT ∧ oT.data = .fields ts ∧ ts[3]? = some fl

theorem Kept.refl {g : Heap} {e : Addr} {fs : List Addr} : Kept g g e fs := fun _ o q _ => ⟨fun _ => q, o.slots, q⟩

theorem kept_frames {g h base : Heap} {e : Addr} {fs : List Addr} {l : List Env} {oe : Obj} {vs : Array Value} (k : Kept g h e fs) (he : g.get? e = some oe) (hd : oe.data = .fields vs)
    (hl : g.FunFrames base l) : h.FunFrames base l :=
  hl.of_keeps fun b o q hn => by
    have hb : b ≠ e := fun z => by rw [z, he] at q; cases q; exact hn vs hd
    obtain ⟨sl, hs⟩ := (k b o q hb).2
    exact ⟨_, hs, rfl⟩

section
variable {M : Model} {A : Around} {E : Value → Shared → Prop} {s : Shared} {g base : Heap} {env : Env} {outer : List Env} {L e : Addr} {fs : List Addr} {cls : Value} {dct : Option Addr}

/-- the entry that noteFrame lays, in one step: the frame's slots turn, a traceback T' is made, e's head is T' -/
theorem note_entry {Q : Unit → Shared → Prop} {oe : Obj} {vs : Array Value} {head : Value} {hadNext : Bool} (hfr : A.frames = some (env :: outer)) (hl : s.heap.FunFrames base (env :: outer)) (hf : env.frame = some L)
    (he : s.heap.get? e = some oe) (hd : oe.data = .fields vs) (hsz : 1 < vs.size) (hfs : ∀ b ∈ (env :: outer).filterMap (·.frame), b ∈ fs)
    (h : ∀ h' T oT ts oe' vs', s.heap.get? T = none → T ≠ e → h'.get? e = some oe' → oe'.cls = oe.cls → oe'.dict = oe.dict → oe'.data = .fields vs' → vs'[1]? = some (.ref T) → h'.get? T = some oT → oT.data = .fields ts → ts[3]? = some (rawInt L) →
      Kept s.heap h' e fs → Q () { s with heap := h' }) :
    wpAny M A (do setField (.ref e) 1 (← EntryCells.newEntry head (← frameOf env) .none (rawInt L) .none (← entryPlaceOf L hadNext))) Q E s := by
  refine wpAny_bind (wpAny_frameOf_fun hfr hl hf fun h₁ ⟨z1, z2, z3⟩ => ?_)
  refine wpAny_bind (wpAny_entryPlaceOf fun pl hpl => ?_)
  unfold EntryCells.newEntry newFields
  refine wpAny_bind (wpAny_newObj_type ?_ (hpl.sizeOk5 _ _ _ _ _))
  have hnf : e ∉ (env :: outer).filterMap (·.frame) := fun hm => by
    obtain ⟨_, o, q, hn⟩ := hl.mem hm
    rw [he] at q; cases q; exact hn vs hd
  have he₁ : h₁.get? e = some oe := (z2 e hnf).trans he
  let tb : Obj := { cls := .type "traceback", dict := none, data := .fields ([head, .ref L, .none, rawInt L, .none] ++ (if pl.isEmpty then List.replicate 6 Value.none else pl)).toArray }
  have he₂ : (h₁.push tb).get? e = some oe := Heap.get?_push_of_some _ he₁
  have hTe : h₁.objs.size ≠ e := Nat.ne_of_gt (Heap.lt_size he₁)
  have hT₂ : (h₁.push tb).get? h₁.objs.size = some tb := Heap.get?_push_size h₁ rfl
  refine wpAny_setField he₂ hd hsz ?_
  have hd₃ := Obj.data_mapFields hd (·.setIfInBounds 1 (Value.ref h₁.objs.size))
  have old : ∀ b o, b ≠ e → h₁.get? b = some o → ((h₁.push tb).update e (Obj.mapFields (·.setIfInBounds 1 (Value.ref h₁.objs.size)))).get? b = some o := fun b o hb q =>
    (Heap.get?_update_other _ _ (Ne.symm hb)).trans (Heap.get?_push_of_some _ q)
  refine h _ h₁.objs.size tb _ _ _ ?_ hTe (Heap.get?_update_self _ he₂ (Obj.isFreed_of_fields hd₃)) (Obj.cls_mapFields _ _) ?_ hd₃ (by simp [hsz])
    ((Heap.get?_update_other _ _ (Ne.symm hTe)).trans hT₂) rfl ?_ fun b o q hb => ⟨fun hm => old b o hb ((z2 b fun hx => hm (hfs b hx)).trans q), ?_⟩
  · cases q : s.heap.get? h₁.objs.size with
    | none => rfl
    | some o => exact absurd (Heap.lt_size q) (by rw [z1]; exact Nat.lt_irrefl _)
  · obtain ⟨c, dd, dt, sl⟩ := oe
    cases dt <;> first | rfl | cases hd
  · first | (simp; done) | (rcases hpl with rfl | ⟨_, _, _, _, _, _, _, rfl⟩ <;> simp)
  · obtain ⟨sl, hs⟩ := z3 b o q
    exact ⟨sl, old b _ hb hs⟩

theorem Kept.trans' {h h' : Heap} (k : Kept g h e fs) (k' : ∀ b o, h.get? b = some o → b ≠ e → g.get? b ≠ none → (b ∉ fs → h'.get? b = some o) ∧ ∃ sl, h'.get? b = some { o with slots := sl }) : Kept g h' e fs := fun b o q hb => by
  have hn : g.get? b ≠ none := by rw [q]; exact Option.some_ne_none _
  obtain ⟨x, sl, y⟩ := k b o q hb
  obtain ⟨_, sl', z⟩ := k' b _ y hb hn
  exact ⟨fun hm => (k' b o (x hm) hb hn).1 hm, sl', z⟩

/-- the first entry: the exception has no traceback yet -/
theorem note_first {Q : Unit → Shared → Prop} {oe : Obj} {vs : Array Value} (hfr : A.frames = some (env :: outer)) (hl : s.heap.FunFrames base (env :: outer)) (hf : env.frame = some L)
    (he : s.heap.get? e = some oe) (hd : oe.data = .fields vs) (h1 : vs[1]? = some .none) (hfs : ∀ b ∈ (env :: outer).filterMap (·.frame), b ∈ fs)
    (h : ∀ h', FlyD s.heap fs e oe.cls oe.dict (rawInt L) h' → Q () { s with heap := h' }) : wpAny M A (noteFrame (.ref e) env) Q E s := by
  unfold noteFrame
  simp only [hf]
  refine wpAny_bind (wpAny_field he hd h1 ?_)
  rw [if_neg (by decide)]
  refine note_entry hfr hl hf he hd (Array.getElem?_eq_some_iff.mp h1).1 hfs fun h' T oT ts oe' vs' a1 a2 a3 a4 a5 a6 a7 a8 a9 a10 a11 => ?_
  exact h h' ⟨a11, oe', vs', T, oT, ts, a3, a4, a5, a6, a7, a1, a2, a8, a9, a10⟩

/-- one more entry -/
theorem note_next {Q : Unit → Shared → Prop} {og : Obj} {vg : Array Value} (hfr : A.frames = some (env :: outer)) (hg : g.get? e = some og) (hgd : og.data = .fields vg) (hl : g.FunFrames base (env :: outer)) (hf : env.frame = some L)
    (X : FlyD g fs e cls dct .none s.heap) (hfs : ∀ b ∈ (env :: outer).filterMap (·.frame), b ∈ fs)
    (h : ∀ h', FlyD g fs e cls dct (rawInt L) h' → Q () { s with heap := h' }) : wpAny M A (noteFrame (.ref e) env) Q E s := by
  obtain ⟨k, oe, vs, T, oT, ts, x1, rfl, rfl, x4, x5, x6, x7, x8, x9, x10⟩ := X
  unfold noteFrame
  simp only [hf]
  refine wpAny_bind (wpAny_field x1 x4 x5 ?_)
  rw [if_pos (show (Value.ref T != Value.none) = true from by simp)]
  refine wpAny_bind (wpAny_field x8 x9 x10 ?_)
  rw [if_neg (show ¬ ((Value.none == rawInt L) = true) from by simp [rawInt])]
  refine wpAny_bind (wpAny_setField x8 x9 (Array.getElem?_eq_some_iff.mp x10).1 ?_)
  have oth : ∀ b, b ≠ T → (s.heap.update T (Obj.mapFields (·.setIfInBounds 3 Value.none))).get? b = s.heap.get? b := fun b hb => Heap.get?_update_other _ _ (Ne.symm hb)
  have k₁ : Kept g (s.heap.update T (Obj.mapFields (·.setIfInBounds 3 Value.none))) e fs := k.trans' fun b o q _ hn => by
    have hb : b ≠ T := fun z => hn (z ▸ x6)
    exact ⟨fun _ => (oth b hb).trans q, o.slots, (oth b hb).trans q⟩
  refine note_entry (base := base) hfr (kept_frames k₁ hg hgd hl) hf ((oth e (Ne.symm x7)).trans x1) x4 (Array.getElem?_eq_some_iff.mp x5).1 hfs fun h' T' oT' ts' oe' vs' a1 a2 a3 a4 a5 a6 a7 a8 a9 a10 a11 => ?_
  refine h h' ⟨k₁.trans' fun b o q hb _ => a11 b o q hb, oe', vs', T', oT', ts', a3, a4, a5, a6, a7, ?_, a2, a8, a9, a10⟩
  cases q : g.get? T' with
  | none => rfl
  | some o =>
    obtain ⟨sl, hs⟩ := (k₁ T' o q a2).2
    rw [a1] at hs; cases hs

theorem land {Q : Unit → Shared → Prop} {fl : Value} (X : FlyD g fs e cls dct fl s.heap) (h : ∀ h', FlyD g fs e cls dct .none h' → Q () { s with heap := h' }) : wpAny M A (setFlight (.ref e) none) Q E s := by
  obtain ⟨k, oe, vs, T, oT, ts, x1, x2, x3, x4, x5, x6, x7, x8, x9, x10⟩ := X
  have hsz : 3 < ts.size := (Array.getElem?_eq_some_iff.mp x10).1
  unfold setFlight
  refine wpAny_bind (wpAny_field x1 x4 x5 ?_)
  rw [if_pos (show (Value.ref T != Value.none) = true from by simp)]
  refine wpAny_setField x8 x9 hsz (h _ ?_)
  have oth : ∀ b, b ≠ T → (s.heap.update T (Obj.mapFields (·.setIfInBounds 3 ((none : Option Addr).elim .none fun f => rawInt f)))).get? b = s.heap.get? b := fun b hb => Heap.get?_update_other _ _ (Ne.symm hb)
  have hd := Obj.data_mapFields x9 (·.setIfInBounds 3 ((none : Option Addr).elim Value.none fun f => rawInt f))
  refine ⟨k.trans' fun b o q _ hn => ?_, oe, vs, T, _, _, (oth e (Ne.symm x7)).trans x1, x2, x3, x4, x5, x6, x7, Heap.get?_update_self _ x8 (Obj.isFreed_of_fields hd), hd, by simp [hsz]⟩
  have hb : b ≠ T := fun z => hn (z ▸ x6)
  exact ⟨fun _ => (oth b hb).trans q, o.slots, (oth b hb).trans q⟩
end
end Mine
end

section
open PySem PySem.W PyProof.Rows PySem.Calls PySem.Spec
open PySem.Builtin PySem.Builtin.ObjectAttr
set_option maxRecDepth 100000
set_option maxHeartbeats 4000000
namespace Mine

abbrev excBases : List Value := [.type "Exception", .type "BaseException", .type "object"]

/-- the dict of an own object: what it says of each name -/
def DictSays (od : Obj) (mA : PySem.Str → Option Value) : Prop :=
  ∃ es ep, od.data = .dict es ep ∧ StrKeys es ∧ UniqKeys es ∧ ∀ name, nsFind es name = mA name
theorem dictSays_ns {h : Heap} {a : Addr} {mA : PySem.Str → Option Value} (n : h.Ns1 a mA) : ∃ od, h.get? a = some od ∧ DictSays od mA := by
  obtain ⟨o, es, ep, e, d, k, u, f⟩ := n
  exact ⟨o, e, es, ep, d, k, u, f⟩
theorem ns_dictSays {h : Heap} {a : Addr} {od : Obj} {mA : PySem.Str → Option Value} (e : h.get? a = some od) (n : DictSays od mA) : h.Ns1 a mA := by
  obtain ⟨es, ep, d, k, u, f⟩ := n
  exact ⟨od, es, ep, e, d, k, u, f⟩

/-- an exception object with a dict -/
def ExcO (oe od : Obj) (C dx : Addr) (vs : Array Value) (mA : PySem.Str → Option Value) : Prop :=
  oe.cls = .ref C ∧ oe.dict = some dx ∧ oe.data = .fields vs ∧ DictSays od mA

/-- what a raised value must be -/
def RaiseP (E : Value → Shared → Prop) (C : Addr) (v : Value) (s₁ : Shared) : Prop :=
  ∃ e oe vs nm q N bs sn sub ab col dd k0 k1 k2 k3 k5, v = .ref e ∧ s₁.heap.get? C = some (excClassObj nm q C N bs excBases true sn sub ab col dd k0 k1 k2 k3 k5 "Exception.__new__") ∧
      s₁.heap.get? e = some oe ∧ oe.cls = .ref C ∧ oe.data = .fields vs ∧ vs[1]? = some .none ∧ E (.ref e) s₁
section
variable {prog : Program} {w : World} {A : Around} {E : Value → Shared → Prop} {h : Heap} {g : Array GenState} {d : Drawn} {t : Nat} {os : OsState}
variable {nm q : PySem.Str} {C N x : Addr} {bs : List Value} {sn : List PySem.Str} {sub : List Value} {ab : Bool} {col : Option Bool} {dd : Option Addr} {k0 k1 k2 k3 k5 : Option Value} {newId : String}
  {mN mA : PySem.Str → Option Value} {name : PySem.Str} {v : Value}

/-- raise of an object of an own exception class, whatever its dict -/
theorem raise_made {env : Env} {s : Shared} {y : Sem Value} {Q : Flow → Shared → Prop} (hh : A.handled = none)
    (hy : wpAny (model prog w) A y (RaiseP E C) E s) :
    wpAny (model prog w) A (raiseStmt env (some y) none) Q E s := by
  have hcB : (Value.ref C :: excBases).contains (.type "BaseException") = true := by rw [List.contains_cons]; simp
  unfold raiseStmt
  refine wpAny_bind (wpAny_mono hy (fun v s₁ h₁ => ?_) fun _ _ z => z)
  obtain ⟨e, oe, vs, nm, q, N, bs, sn, sub, ab, col, dd, k0, k1, k2, k3, k5, rfl, hC, he, hc, hd, hv, hE⟩ := h₁
  obtain ⟨hp, g, d, tk, os⟩ := s₁
  repeat (first | (with_reducible refine wpAny_loadPart_at he ?_; rw [hc]) | with_reducible refine wpAny_loadPart_at hC ?_ | (with_reducible refine wpAny_isSubtype_exc hC ?_; rw [hcB]) | with_reducible refine wpAny_field he hd hv ?_ | wp_step)
  exact wpAny_raiseNew_none hh hE

/-- the check that a call of Exception.__init__ upon an own object passes -/
theorem check_exc_init {M : Model} {o : Obj} {rest : List Value} {Q : Unit → Shared → Prop}
    (hC : h.get? C = some (excClassObj nm q C N bs excBases true sn sub ab col dd k0 k1 k2 k3 k5 newId)) (hx : h.get? x = some o) (hc : o.cls = .ref C) (hq : Q () ⟨h, g, d, t, os⟩) :
    wpAny M A (checkBuiltinCall "Exception.__init__" ⟨.ref x :: rest, []⟩) Q E ⟨h, g, d, t, os⟩ := by
  have F := PySem.F.excBase_Exception
  have hcB : (Value.ref C :: excBases).contains (.type "Exception") = true := by rw [List.contains_cons]; simp
  simp only [checkBuiltinCall, F.initKind, F.initSplit, F.initRow]
  refine wpAny_bind ?_
  unfold isInstance
  repeat (first | (with_reducible refine wpAny_loadPart_at hx ?_; rw [hc]) | (with_reducible refine wpAny_isSubtype_exc hC ?_; rw [hcB]) | wp_step)
  refine wpAny_onRaise ?_
  rw [show ∀ (a b : String) (n : Nat), Bind.check ⟨.positional, "*", "Exception", .self, [⟨"args", .varPos, false⟩]⟩ a b n (List.map (fun x => x.fst) ({ pos := Value.ref x :: rest } : Args).kw) = pure () from
    fun a b n => check_star_args _ _ _ _ _ _]
  exact wpAny_pure hq

/-- Exception.__init__(x, *rest): the args are a new tuple -/
theorem exc_init_call {o : Obj} {vs : Array Value} {rest : List Value} {a0 : Addr} {Q : Value → Shared → Prop}
    (hC : h.get? C = some (excClassObj nm q C N bs excBases true sn sub ab col dd k0 k1 k2 k3 k5 newId)) (hx : h.get? x = some o) (hc : o.cls = .ref C) (hd : o.data = .fields vs) (h0 : vs[0]? = some (.ref a0))
    (hq : ∀ h', (∀ b ob, b ≠ x → h.get? b = some ob → h'.get? b = some ob) → h'.get? x = some { o with data := .fields (vs.setIfInBounds 0 (.ref h.objs.size)) } → Q .none ⟨h', g, d, t, os⟩) (hr : rest.length ≤ sizeLine := by size_fits) :
    wpAny (model prog w) A (call (.builtin "Exception.__init__") (.ref x :: rest)) Q E ⟨h, g, d, t, os⟩ := by
  have F := PySem.F.excBase_Exception
  refine wpAny_call (codeAny_call_builtin F.init.plain F.initEntry (check_exc_init hC hx hc ?_))
  have hx₁ : (h.push { cls := .type "tuple", data := .seq rest.toArray }).get? x = some o := Heap.get?_push_of_some _ hx
  unfold Builtin.«BaseException.__init__»
  repeat (first | with_reducible refine wpAny_field hx₁ hd h0 ?_ | with_reducible refine wpAny_setField hx₁ hd (Array.getElem?_eq_some_iff.mp h0).1 ?_ | wp_step)
  have hm : Obj.mapFields (·.setIfInBounds 0 (Value.ref h.objs.size)) o = { o with data := .fields (vs.setIfInBounds 0 (.ref h.objs.size)) } := by
    obtain ⟨c, dd, dt, sl⟩ := o
    obtain rfl : dt = .fields vs := hd
    rfl
  have hd₃ := Obj.data_mapFields hd (·.setIfInBounds 0 (Value.ref h.objs.size))
  refine hq ((h.push { cls := .type "tuple", data := .seq rest.toArray }).update x (Obj.mapFields (·.setIfInBounds 0 (Value.ref h.objs.size)))) (fun b ob hb z => (Heap.get?_update_other _ _ (Ne.symm hb)).trans (Heap.get?_push_of_some _ z)) ?_
  rw [← hm]
  exact Heap.get?_update_self _ hx₁ (Obj.isFreed_of_fields hd₃)

/-- x.name = v, where x has no dict yet: a new dict is made -/
theorem put_entry {B sa owner : String} {bm : List Value} {tk : Tok} {o : Obj} {vs : Array Value} {Q : Fin → Shared → Prop} (SF : StoreFacts B bm sa owner)
    (hC : h.get? C = some (excClassObj nm q C N bs bm true sn sub ab col dd k0 k1 k2 k3 k5 newId)) (hn : h.Ns N mN) (hna : mN name = none)
    (hB : typeLookup (.type B) name = pure none) (hx : h.get? x = some o) (hc : o.cls = .ref C) (hd : o.data = .fields vs) (hdn : o.dict = none)
    (hq : ∀ h' tk' od, h'.get? x = some { o with dict := some h.objs.size } → h'.get? h.objs.size = some od → DictSays od (fun y => if y = name then some v else none) →
      (∀ b ob, b ≠ x → h.get? b = some ob → h'.get? b = some ob) → Q (.done (.ret .none)) ⟨h', g, d, tk', os⟩) :
    wpAny (model prog w) A (Builtin.«object.__setattr__» ⟨[.ref x, .str name tk, v], []⟩) Q E ⟨h, g, d, t, os⟩ := by
  have hpass := SF.passes (.ref x)
  unfold Builtin.«object.__setattr__»
  repeat (first | rw [refuse_eq] | (rw [refuseLoop_ref, hpass]) | (with_reducible refine wpAny_loadPart_at hx ?_; rw [hc]) | with_reducible refine wpAny_mroOf_exc hC ?_ | (with_reducible refine wpAny_typeLookup_exc hC hn SF.mro hB ?_; rw [hna]) | wp_step)
  rw [hdn, if_neg (by simp [typeHasDict])]
  have hx₁ : (h.push { cls := .type "dict", data := .dict #[] }).get? x = some o := Heap.get?_push_of_some _ hx
  have hxs : x ≠ h.objs.size := Nat.ne_of_lt (Heap.lt_size hx)
  simp only [hd]
  have hdm : ∀ f : Obj → Obj, (f o).isFreed = (f o).isFreed := fun _ => rfl
  refine wpAny_bind (wpAny_alloc' ?_)
  refine wpAny_bind (wpAny_update' hx₁ ?_)
  refine wpAny_pure ?_
  have hgd : ((h.push { cls := .type "dict", data := .dict #[] }).update x fun o => { cls := o.cls, dict := some h.objs.size, data := o.data, slots := o.slots }).get? h.objs.size
      = some { cls := .type "dict", data := .dict #[] } := (Heap.get?_update_ne _ _ _ _ hxs.symm).trans (Heap.get?_push_at rfl rfl)
  have hnd : ((h.push { cls := .type "dict", data := .dict #[] }).update x fun o => { cls := o.cls, dict := some h.objs.size, data := o.data, slots := o.slots }).Ns h.objs.size (fun _ => none) :=
    ⟨_, #[], _, hgd, rfl, fun e he => absurd he (by simp), fun _ => rfl⟩
  show wpAny _ _ (storeInDict h.objs.size (.str name tk) name v) _ _ _
  unfold storeInDict newKeyGuard
  refine wpAny_bind (wpAny_pure (wpAny_bind (wpAny_nsSet1 (Heap.Ns1.of_empty hnd) fun h' hn' hs => ?_)))
  obtain ⟨oD, esD, epD, hoD, hdD, hcD⟩ := hn'.count (Within.cons name v Within.nil)
  refine wpAny_bind (wpAny_lookBehind hoD (by rw [hdD]; exact pastItsLine_dict (Nat.le_trans hcD (by rw [List.length_cons, List.length_nil, sizeLine_eq]; omega))) ?_)
  wp_walk
  obtain ⟨od, e1, e2⟩ := dictSays_ns hn'
  refine hq h' _ od ((hs.2 x hxs).trans (Heap.get?_update_self _ hx₁ ?_)) e1 e2 fun b ob hb z => (hs.2 b (Nat.ne_of_lt (Heap.lt_size z))).trans ((Heap.get?_update_ne _ _ _ _ hb).trans (Heap.get?_push_of_some _ z))
  obtain ⟨c, dd, dt, sl⟩ := o
  obtain rfl : dt = .fields vs := hd
  rfl

theorem put_first {B sa owner : String} {bm : List Value} {o : Obj} {vs : Array Value} {Q : Unit → Shared → Prop} (SF : StoreFacts B bm sa owner)
    (hC : h.get? C = some (excClassObj nm q C N bs bm true sn sub ab col dd k0 k1 k2 k3 k5 newId)) (hn : h.Ns N mN) (hns : mN "__setattr__" = none) (hna : mN name = none)
    (hB : typeLookup (.type B) name = pure none) (hx : h.get? x = some o) (hc : o.cls = .ref C) (hd : o.data = .fields vs) (hdn : o.dict = none)
    (hq : ∀ h' tk' od, h'.get? x = some { o with dict := some h.objs.size } → h'.get? h.objs.size = some od → DictSays od (fun y => if y = name then some v else none) →
      (∀ b ob, b ≠ x → h.get? b = some ob → h'.get? b = some ob) → Q () ⟨h', g, d, tk', os⟩) :
    wpAny (model prog w) A (setAttr (.ref x) name v) Q E ⟨h, g, d, t, os⟩ := by
  have f3 := SF.slot.bind (.ref x)
  unfold setAttr callSpecial? specialOf
  repeat (any_goals (first | assumption | (with_reducible refine wpAny_loadPart_at hx ?_; rw [hc]) | (with_reducible refine wpAny_typeLookup_exc hC hn SF.mro SF.slot.lookup ?_; rw [hns]) | wp_step))
  refine codeAny_call_builtin SF.slot.plain SF.entry (wpAny_check_sa SF hC hx hc (put_entry SF hC hn hna hB hx hc hd hdn fun h' tk' od a1 a2 a3 a4 => ?_))
  repeat (any_goals (first | assumption | wp_step))
  exact hq h' tk' od a1 a2 a3 a4

/-- x.name where the class says nothing of it and the object's dict does -/
theorem get_entry {tk : Tok} {o od : Obj} {vs : Array Value} {dx : Addr} {Q : Fin → Shared → Prop} {B : String} {bm : List Value} (FB : ExcAttrBase B bm)
    (hC : h.get? C = some (excClassObj nm q C N bs bm true sn sub ab col dd k0 k1 k2 k3 k5 newId)) (hn : h.Ns N mN) (hna : mN name = none) (hB : typeLookup (.type B) name = pure none)
    (hx : h.get? x = some o) (hdx : h.get? dx = some od) (X : ExcO o od C dx vs mA) (hv : mA name = some v) (hq : Q (.done (.ret v)) ⟨h, g, d, t, os⟩) :
    wpAny (model prog w) A (Builtin.«object.__getattribute__» ⟨[.ref x, .str name tk], []⟩) Q E ⟨h, g, d, t, os⟩ := by
  obtain ⟨hc, hdd, hd, hs⟩ := X
  have hns := ns_dictSays hdx hs
  unfold Builtin.«object.__getattribute__»
  repeat (any_goals (first | assumption | (with_reducible refine wpAny_loadPart_at hx ?_; rw [hc]) | (with_reducible refine wpAny_typeLookup_exc hC hn FB.mro hB ?_; rw [hna]) | wp_step))
  simp only [hd]
  unfold instanceDict
  repeat (first | (with_reducible refine wpAny_loadPart_at hx ?_; rw [hc]) | with_reducible refine wpAny_loadPart_at hC ?_ | wp_step)
  rw [hdd]
  repeat (first | (with_reducible refine wpAny_nsGet hns.ns ?_; rw [hv]) | wp_step)
  exact hq

theorem check_getattr {M : Model} {nameV : Value} {o : Obj} {Q : Unit → Shared → Prop} {B : String} {bm : List Value} (FB : ExcAttrBase B bm)
    (hC : h.get? C = some (excClassObj nm q C N bs bm true sn sub ab col dd k0 k1 k2 k3 k5 newId)) (hx : h.get? x = some o) (hc : o.cls = .ref C) (hq : Q () ⟨h, g, d, t, os⟩) :
    wpAny M A (checkBuiltinCall "BaseException.__getattribute__" ⟨[.ref x, nameV], []⟩) Q E ⟨h, g, d, t, os⟩ := by
  have hk : builtinKind "BaseException.__getattribute__" = some .slot := by decide +kernel
  have hsplit : splitId "BaseException.__getattribute__" = some ("BaseException", "__getattribute__") := by decide +kernel
  have hcB : (Value.ref C :: bm).contains (.type "BaseException") = true := by rw [List.contains_cons, FB.hasBase, Bool.or_true]
  have ha := F.args_bexc_ga (.ref x) nameV
  simp only [checkBuiltinCall, hk, hsplit]
  refine wpAny_bind ?_
  unfold isInstance
  repeat (first | (with_reducible refine wpAny_loadPart_at hx ?_; rw [hc]) | (with_reducible refine wpAny_isSubtype_exc hC ?_; rw [hcB]) | wp_step)
  exact hq

theorem get_attr {o od : Obj} {vs : Array Value} {dx : Addr} {expr : Bool} {Q : Value → Shared → Prop} {B : String} {bm : List Value} (FB : ExcAttrBase B bm)
    (hC : h.get? C = some (excClassObj nm q C N bs bm true sn sub ab col dd k0 k1 k2 k3 k5 newId)) (hn : h.Ns N mN) (hng : mN "__getattribute__" = none) (hnh : mN "__getattr__" = none) (hna : mN name = none)
    (hB : typeLookup (.type B) name = pure none) (hx : h.get? x = some o) (hdx : h.get? dx = some od) (X : ExcO o od C dx vs mA) (hv : mA name = some v) (hh : handedOut v = pure v) (hq : Q v ⟨h, g, d, t + 1, os⟩) :
    wpAny (model prog w) A (getAttr (.ref x) name expr) Q E ⟨h, g, d, t, os⟩ := by
  have hc := X.1
  have f3 := FB.ga.bind (.ref x)
  have hx0 : (expr && onTheHeap (Value.builtin "BaseException.__getattribute__")) = false := by cases expr <;> rfl
  have hx2 : (Value.builtin "BaseException.__getattribute__" == Value.builtin "object.__getattribute__") = false := by decide +kernel
  have hx1 : (onTheHeap (Value.ref C) && Value.builtin "BaseException.__getattribute__" == Value.builtin "object.__getattribute__") = false := by rw [hx2]; rfl
  unfold getAttr getAttrBy
  repeat (any_goals (first | assumption | (with_reducible refine wpAny_loadPart_at hx ?_; rw [hc]) | (with_reducible refine wpAny_typeLookup_exc hC hn FB.mro FB.ga.lookup ?_; rw [hng]) | (with_reducible refine wpAny_typeLookup_exc hC hn FB.mro FB.noGetattr ?_; rw [hnh]) | wp_step))
  refine codeAny_call_builtin FB.ga.plain F.entry_bexc_ga (check_getattr FB hC hx hc (get_entry FB hC hn hna hB hx hdx X hv ?_))
  show wpAny _ _ (handedOut v) _ _ _
  rw [hh]
  exact wpAny_pure hq
end

/-- an own exception class of Exception with an __init__ of its own that says nothing of the three fields -/
def ClsAt (h : Heap) (C fI : Addr) (ns : List PySem.Str) : Prop :=
  ∃ nm q N bs sn sub ab col dd k0 k1 k2 k3 k5 mN, h.get? C = some (excClassObj nm q C N bs excBases true sn sub ab col dd k0 k1 k2 k3 k5 "Exception.__new__") ∧ h.Ns N mN ∧ mN "__init__" = some (.ref fI) ∧
    ∀ n ∈ ns, mN n = none
theorem ClsAt.keeps {h h' : Heap} {C fI : Addr} {ns : List PySem.Str} (c : ClsAt h C fI ns) (k : ∀ b o, h.get? b = some o → h'.get? b = some o) : ClsAt h' C fI ns := by
  obtain ⟨nm, q, N, bs, sn, sub, ab, col, dd, k0, k1, k2, k3, k5, mN, a1, a2, a3, a4⟩ := c
  exact ⟨nm, q, N, bs, sn, sub, ab, col, dd, k0, k1, k2, k3, k5, mN, k _ _ a1, a2.keeps k, a3, a4⟩

section
variable {prog : Program} {w : World} {A : Around} {E : Value → Shared → Prop} {s : Shared} {h₀ : Heap} {L C fI x dx : Addr} {m : PySem.Str → Option Value} {news : List (Addr × Obj)} {ns : List PySem.Str} {name : PySem.Str} {v : Value} {vs : Array Value}

/-- an object outside the frame's base turns, nothing else -/
theorem fr_turn {h h' : Heap} (F : Fr h₀ L h m) (hx : h₀.get? x = none) (hL : x ≠ L) (k : ∀ b o, b ≠ x → h.get? b = some o → h'.get? b = some o) : Fr h₀ L h' m := by
  obtain ⟨oL, es, ep, e, r⟩ := F.ns
  exact ⟨⟨oL, es, ep, k L _ hL.symm e, r⟩, fun b o q => k b o (fun z => by rw [z, hx] at q; cases q) (F.keep b o q), F.above⟩

theorem made_exc {rest : List Value} {Q : Value → Shared → Prop} {oI : Obj} (F : Fr h₀ L s.heap m) (N : News h₀ L s.heap news) (Cl : ClsAt h₀ C fI ns) (hfI : h₀.get? fI = some oI) (hfc : oI.cls = .type "function")
    (hq : ∀ e t h', Fr h₀ L h' m → News h₀ L h' ((e, { cls := .ref C, data := .fields #[.ref t, .none, .none, .none, .bool false, .none] }) :: news) → (∀ p ∈ news, p.1 ≠ e) →
      wpAny (model prog w) (A.under (.builtin "type.__call__" ⟨.ref C :: rest, []⟩)) (call (.ref fI) (.ref e :: rest)) (fun r s' => r = .none ∧ Q (.ref e) s') E { s with heap := h' }) (hrest : rest.length ≤ sizeLine := by size_fits) :
    wpAny (model prog w) A (call (.ref C) rest) Q E s := by
  obtain ⟨nm, q, Nn, bs, sn, sub, ab, col, dd, k0, k1, k2, k3, k5, mN, a1, a2, a3, a4⟩ := Cl.keeps F.keep
  obtain ⟨hp, g, d, tk, os⟩ := s
  refine wpAny_call_exc_init PySem.F.excBase_Exception a1 a2 a3 (F.keep _ _ hfI) hfc (fun h' e M => ?_) hrest
  obtain ⟨t, b1, b2, b3⟩ := M.there
  have hn : h₀.get? e = none := by
    cases z : h₀.get? e with
    | none => rfl
    | some o => have := F.keep e o z; rw [M.new] at this; cases this
  refine hq e t h' (F.keeps M.keeps) (fun p hp => ?_) fun p hp z => ?_
  · rcases List.mem_cons.mp hp with rfl | hp
    · refine ⟨b1, fun z => ?_, hn⟩
      obtain ⟨oL, _, _, eL, _⟩ := F.ns
      rw [← z, M.new] at eL; cases eL
    · exact ⟨M.keeps _ _ (N p hp).1, (N p hp).2⟩
  · have := (N p hp).1; rw [z, M.new] at this; cases this

theorem init_exc {rest : List Value} {sl : Array (Option Value)} {a0 : Addr} {r : List Value} {Q : Value → Shared → Prop} (F : Fr h₀ L s.heap m) (N : News h₀ L s.heap ((x, { cls := .ref C, data := .fields (.ref a0 :: r).toArray, slots := sl }) :: news)) (Cl : ClsAt h₀ C fI ns)
    (hq : ∀ t h', Fr h₀ L h' m → News h₀ L h' [(x, { cls := .ref C, data := .fields (.ref t :: r).toArray, slots := sl })] → Q .none { s with heap := h' }) (hrest : rest.length ≤ sizeLine := by size_fits) :
    wpAny (model prog w) A (call (.builtin "Exception.__init__") (.ref x :: rest)) Q E s := by
  obtain ⟨nm, q, Nn, bs, sn, sub, ab, col, dd, k0, k1, k2, k3, k5, mN, a1, a2, a3, a4⟩ := Cl.keeps F.keep
  obtain ⟨hp, g, d, tk, os⟩ := s
  have z := N _ (List.Mem.head _)
  refine exc_init_call a1 z.1 rfl rfl (a0 := a0) (by simp) (fun h' b1 b2 => hq hp.objs.size h' (fr_turn F z.2.2 z.2.1 b1) fun p hp' => ?_) hrest
  obtain rfl := List.mem_singleton.mp hp'
  refine ⟨b2.trans ?_, z.2⟩
  simp

theorem set_first {sl : Array (Option Value)} {Q : Unit → Shared → Prop} (F : Fr h₀ L s.heap m) (N : News h₀ L s.heap ((x, { cls := .ref C, data := .fields vs, slots := sl }) :: news)) (Cl : ClsAt h₀ C fI ns)
    (hns : ("__setattr__" : PySem.Str) ∈ ns) (hna : name ∈ ns) (hB : typeLookup (.type "Exception") name = pure none)
    (hq : ∀ dx oe od h' tk, Fr h₀ L h' m → News h₀ L h' [(x, oe), (dx, od)] → ExcO oe od C dx vs (fun y => if y = name then some v else none) → x ≠ dx → Q () { s with heap := h', toks := tk }) :
    wpAny (model prog w) A (setAttr (.ref x) name v) Q E s := by
  obtain ⟨nm, q, Nn, bs, sn, sub, ab, col, dd, k0, k1, k2, k3, k5, mN, a1, a2, a3, a4⟩ := Cl.keeps F.keep
  obtain ⟨hp, g, d, tk, os⟩ := s
  have z := N _ (List.Mem.head _)
  refine put_first PySem.F.store_Exception a1 a2 (a4 _ hns) (a4 _ hna) hB z.1 rfl rfl rfl fun h' tk' od b1 b2 b3 b4 => ?_
  have hlt : x < hp.objs.size := Heap.lt_size z.1
  refine hq hp.objs.size { cls := .ref C, dict := some hp.objs.size, data := .fields vs, slots := sl } od h' tk' (fr_turn F z.2.2 z.2.1 b4) (fun p hp' => ?_) ⟨rfl, rfl, rfl, b3⟩ (Nat.ne_of_lt hlt)
  rcases List.mem_cons.mp hp' with rfl | hp'
  · exact ⟨b1, z.2⟩
  · obtain rfl := List.mem_singleton.mp hp'
    exact ⟨b2, Nat.ne_of_gt F.ns.lt, none_at_size F⟩

theorem set_next {mA : PySem.Str → Option Value} {oe od : Obj} {nn : List PySem.Str} {Q : Unit → Shared → Prop} (F : Fr h₀ L s.heap m) (N : News h₀ L s.heap [(x, oe), (dx, od)]) (X : ExcO oe od C dx vs mA) (hxd : x ≠ dx) (Cl : ClsAt h₀ C fI ns)
    (hns : ("__setattr__" : PySem.Str) ∈ ns) (hna : name ∈ ns) (hB : typeLookup (.type "Exception") name = pure none)
    (hq : ∀ oe od h' tk, Fr h₀ L h' m → News h₀ L h' [(x, oe), (dx, od)] → ExcO oe od C dx vs (fun y => if y = name then some v else mA y) → Q () { s with heap := h', toks := tk })
    (hw : Within mA nn := by within_ways) (hsz : nn.length ≤ sizeLine := by size_fits) :
    wpAny (model prog w) A (setAttr (.ref x) name v) Q E s := by
  obtain ⟨nm, q, Nn, bs, sn, sub, ab, col, dd, k0, k1, k2, k3, k5, mN, a1, a2, a3, a4⟩ := Cl.keeps F.keep
  obtain ⟨hp, g, d, tk, os⟩ := s
  have z := N _ (List.Mem.head _)
  have zd := N _ (List.Mem.tail _ (List.Mem.head _))
  obtain ⟨x1, x2, x3, x4⟩ := X
  have hxC : x ≠ C := fun e => by
    have := F.keep
    have h1 := a1
    rw [← e] at h1
    cases y : h₀.get? C with
    | none => obtain ⟨_, _, _, _, _, _, _, _, _, _, _, _, _, _, _, c1, _⟩ := Cl; rw [y] at c1; cases c1
    | some o => rw [← e, z.2.2] at y; cases y
  have hnc : ∀ c, oe.data ≠ .cls c := fun c e => by rw [x3] at e; cases e
  have I : Heap.Inst hp x C mA := ⟨oe, z.1, x1, hnc, .inr ⟨dx, x2, hxd.symm, ns_dictSays zd.1 x4⟩⟩
  refine store_attr PySem.F.store_Exception a1 a2 (a4 _ hns) (a4 _ hna) hB hxC I (fun h' tk' I' b1 b2 => ?_) hw hsz
  obtain ⟨o₁, c1, c2, c3, c4, c5⟩ := b2 oe z.1
  obtain ⟨o', d1, d2, d3, d4⟩ := I'
  rw [c1] at d1; cases d1
  rcases d4 with ⟨e1, _⟩ | ⟨dx', e1, e2, e3⟩
  · rw [c5 dx x2] at e1; cases e1
  obtain rfl : dx' = dx := by rw [c5 dx x2] at e1; exact (Option.some.inj e1).symm
  obtain ⟨od', f1, f2⟩ := dictSays_ns e3
  have old : ∀ b o, b ≠ x → b ≠ dx' → hp.get? b = some o → h'.get? b = some o := fun b o n1 n2 y => b1 b o n1 (fun o₀ dx₀ y1 y2 => by rw [z.1] at y1; cases y1; rw [x2] at y2; cases y2; exact n2) y
  have F' : Fr h₀ L h' m := by
    obtain ⟨oL, es, ep, e, r⟩ := F.ns
    exact ⟨⟨oL, es, ep, old L _ z.2.1.symm zd.2.1.symm e, r⟩, fun b o y => old b o (fun q => by rw [q, z.2.2] at y; cases y) (fun q => by rw [q, zd.2.2] at y; cases y) (F.keep b o y), F.above⟩
  refine hq o₁ od' h' tk' F' (fun p hp' => ?_) ⟨c2.trans x1, e1, c3.trans x3, f2⟩
  rcases List.mem_cons.mp hp' with rfl | hp'
  · exact ⟨c1, z.2⟩
  · obtain rfl := List.mem_singleton.mp hp'
    exact ⟨f1, zd.2⟩

theorem get_first {mA : PySem.Str → Option Value} {oe od : Obj} {expr : Bool} {Q : Value → Shared → Prop} (F : Fr h₀ L s.heap m) (N : News h₀ L s.heap [(x, oe), (dx, od)]) (X : ExcO oe od C dx vs mA) (Cl : ClsAt h₀ C fI ns)
    (h1 : ("__getattribute__" : PySem.Str) ∈ ns) (h2 : ("__getattr__" : PySem.Str) ∈ ns) (hna : name ∈ ns) (hB : typeLookup (.type "Exception") name = pure none) (hv : mA name = some v) (hh : handedOut v = pure v)
    (hq : Q v { s with toks := s.toks + 1 }) : wpAny (model prog w) A (getAttr (.ref x) name expr) Q E s := by
  obtain ⟨nm, q, Nn, bs, sn, sub, ab, col, dd, k0, k1, k2, k3, k5, mN, a1, a2, a3, a4⟩ := Cl.keeps F.keep
  obtain ⟨hp, g, d, tk, os⟩ := s
  exact get_attr PySem.F.attrBase_Exception a1 a2 (a4 _ h1) (a4 _ h2) (a4 _ hna) hB (N _ (List.Mem.head _)).1 (N _ (List.Mem.tail _ (List.Mem.head _))).1 X hv hh hq
end
end Mine
end

section
open PySem PySem.W PyProof.Rows PySem.Calls PySem.Spec
set_option Elab.async false
set_option maxRecDepth 100000
set_option maxHeartbeats 8000000
namespace Mine
theorem quic_cls {P : Params} {h : Heap} (X : (hd.heap_39 P).In h) : ClsAt h 31 28 ["__setattr__", "__getattribute__", "__getattr__", "code", "frame_type", "text"] := by
  have h31 := X 31 _ (by k_is)
  have h30 := X 30 _ (by k_is)
  have e : ∀ n v, (match h.get? 30 with | some o => (match o.data with | .dict es _ => nsFind es n | _ => none) | none => none) = v → h.nsMap 30 n = v := fun _ _ e => e
  rw [h30] at e
  have i : h.isNs 30 = true := by unfold Heap.isNs; rw [h30]; kernel_rfl
  refine ⟨_, _, 30, _, _, _, _, _, _, _, _, _, _, _, h.nsMap 30, h31, .of_isNs i, e _ _ (by kernel_rfl), fun n hn => ?_⟩
  rcases List.mem_cons.mp hn with rfl | hn
  · exact e _ _ (by kernel_rfl)
  rcases List.mem_cons.mp hn with rfl | hn
  · exact e _ _ (by kernel_rfl)
  rcases List.mem_cons.mp hn with rfl | hn
  · exact e _ _ (by kernel_rfl)
  rcases List.mem_cons.mp hn with rfl | hn
  · exact e _ _ (by kernel_rfl)
  rcases List.mem_cons.mp hn with rfl | hn
  · exact e _ _ (by kernel_rfl)
  obtain rfl := List.mem_singleton.mp hn
  exact e _ _ (by kernel_rfl)
theorem no_code : typeLookup (.type "Exception") (PySem.Str.ofString "code") = pure none := by rw [typeLookup_type, builtinLookup_eq_fast]; kernel_rfl
theorem no_frame_type : typeLookup (.type "Exception") (PySem.Str.ofString "frame_type") = pure none := by rw [typeLookup_type, builtinLookup_eq_fast]; kernel_rfl
theorem no_text : typeLookup (.type "Exception") (PySem.Str.ofString "text") = pure none := by rw [typeLookup_type, builtinLookup_eq_fast]; kernel_rfl
theorem meta_exception : typeOf (.type "Exception") = pure (.type "type") := by kernel_rfl

/-- e, an exception with a dict, on its way through the frames outer: behind the heap gR, which g reaches -/
def Flown (base : Heap) (outer : List Env) (g : Heap) (fs : List Addr) (x C dx : Addr) (mA : PySem.Str → Option Value) (h : Heap) : Prop :=
  ∃ gR oR vR od, (∀ b o, g.get? b = some o → gR.get? b = some o) ∧ g.get? x = none ∧ g.get? dx = none ∧ gR.get? x = some oR ∧ oR.data = .fields vR ∧ gR.get? dx = some od ∧ DictSays od mA ∧ x ≠ dx ∧
    gR.FunFrames base outer ∧ FlyD gR fs x (.ref C) (some dx) .none h

section
variable {M : Model} {prog : Program} {w : World} {A : Around} {E : Value → Shared → Prop} {s : Shared} {base g h₀ : Heap} {env : Env} {outer : List Env} {L a x C dx fI : Addr} {fs : List Addr} {m : PySem.Str → Option Value} {mA : PySem.Str → Option Value}
  {oe od : Obj} {vs : Array Value} {name : PySem.Str} {scope : Scope} {cd : Value} {ns : List PySem.Str}

theorem leave_D {Q : Unit → Shared → Prop} (K : Below A base outer g) (F : Fr g L s.heap m) (N : News g L s.heap [(x, oe), (dx, od)]) (X : ExcO oe od C dx vs mA) (h1 : vs[1]? = some .none) (hxd : x ≠ dx)
    (hQ : ∀ h', Flown base outer g ((envOf name scope L a cd :: outer).filterMap (·.frame)) x C dx mA h' → Q () { s with heap := h' }) (hk : scope.kind = .function := by rfl) :
    wpAny M (A.deeper (envOf name scope L a cd)) (leaving (envOf name scope L a cd) (.ref x)) Q E s := by
  have K' := K.push (name := name) (a := a) (cd := cd) F hk
  obtain ⟨x1, x2, x3, x4⟩ := X
  have z := N _ (List.Mem.head _)
  have zd := N _ (List.Mem.tail _ (List.Mem.head _))
  unfold leaving
  refine wpAny_bind (note_first (base := base) K'.stack K'.frames rfl z.1 x3 h1 (fun b hb => hb) fun h₁ f₁ => ?_)
  refine land f₁ fun h₂ f₂ => hQ h₂ ?_
  rw [x1, x2] at f₂
  exact ⟨s.heap, oe, vs, od, F.keep, z.2.2, zd.2.2, z.1, x3, zd.1, x4, hxd, K'.frames.2.2, f₂⟩

/-- the frame of the try: the exception lands, its class is the clause's -/
theorem catch_D {n nm : PySem.Str} {b₀ : Stmt} {suite : List Stmt} {np pos : Pos} {rest : List ExceptHandler} {Q : Flow → Shared → Prop} (hfr : A.frames = some (env :: outer)) (hf : env.frame = some L)
    (FG : Fr h₀ L g m) (Fl : Flown base (env :: outer) g fs x C dx mA s.heap) (hfs : ∀ b ∈ (env :: outer).filterMap (·.frame), b ∈ fs) (hout : ∀ b ∈ fs, h₀.get? b = none) (Cl : ClsAt h₀ C fI ns)
    (hn : ∀ (s : Shared) (Q : Value → Shared → Prop) (E : Value → Shared → Prop), Fr h₀ L s.heap m → Q (.ref C) s → wpAny (model prog w) (A.mark (some (.ref x))) (eval (.Name nm np) env) Q E s)
    (hst : ∀ (s : Shared) (Q : Unit → Shared → Prop) (E : Value → Shared → Prop), Fr h₀ L s.heap m → (∀ h', Fr h₀ L h' (fun y => if y = n then some (.ref x) else m y) → Heap.SameBut L s.heap h' → Q () { s with heap := h', toks := s.toks + 1 }) →
      wpAny (model prog w) (A.mark (some (.ref x))) (storeName env n (.ref x)) Q E s)
    (k : ∀ h' tk oe od vs (E' : Value → Shared → Prop), Fr h₀ L h' (fun y => if y = n then some (.ref x) else m y) → News h₀ L h' [(x, oe), (dx, od)] → ExcO oe od C dx vs mA →
      wpAny (model prog w) (A.mark (some (.ref x))) (execs (b₀ :: suite) env)
        (fun f s₄ => wpAny (model prog w) A (do bindName env n .none; unbindBehindTheSuite env n pos) (fun _ s₅ => Q f s₅) E s₄) E' { s with heap := h', toks := tk }) :
    wpAny (model prog w) A (noteFrame (.ref x) env) (fun _ s₂ => wpAny (model prog w) A (setFlight (.ref x) none) (fun _ s₃ =>
      wpAny (model prog w) A (handleBy (.ref x) env (.ExceptHandler (some (.Name nm np)) (some n) (b₀ :: suite) pos :: rest)) Q E s₃) E s₂) E s := by
  obtain ⟨gR, oR, vR, oD, y1, y2, y3, y4, y5, y6, y7, y8, y9, y10⟩ := Fl
  have fr : ∀ h, FlyD gR fs x (.ref C) (some dx) .none h → Fr h₀ L h m := fun h f => by
    obtain ⟨oL, es, ep, e, dd, r⟩ := FG.ns
    have hxL : L ≠ x := fun q => by rw [q, y2] at e; cases e
    obtain ⟨sl, hs⟩ := (f.1 L _ (y1 _ _ e) hxL).2
    refine ⟨⟨_, es, ep, hs, dd, r⟩, fun b o q => ?_, FG.above⟩
    have q' := FG.keep b o q
    exact (f.1 b o (y1 _ _ q') (fun u => by rw [u, y2] at q'; cases q')).1 fun hm => by rw [hout b hm] at q; cases q
  refine note_next hfr y4 y5 y9 hf y10 hfs fun h₁ f₁ => land f₁ fun h₂ f₂ => ?_
  have F₂ := fr h₂ f₂
  obtain ⟨oe, vs, T, oT, ts, e1, e2, e3, e4, e5, e6, e7, e8, e9, e10⟩ := f₂.2
  refine wpAny_handleBy_cons (codeAny_handlers_test (hn _ _ _ F₂ ?_)) (by intro q; cases q)
  obtain ⟨nm', q, Nn, bs, sn, sub, ab, col, dd, k0, k1, k2, k3, k5, mN, a1, a2, a3, a4⟩ := Cl.keeps F₂.keep
  refine wpAny_excMatches_sub_self a1 e1 e2 rfl (codeAny_handlers_suite_as ?_)
  refine land f₂ fun h₃ f₃ => ?_
  have F₃ := fr h₃ f₃
  obtain ⟨oe, vs, T, oT, ts, e1, e2, e3, e4, e5, e6, e7, e8, e9, e10⟩ := f₃.2
  obtain ⟨sl, hs⟩ := (f₃.1 dx oD y6 y8.symm).2
  have hx₀ : h₀.get? x = none := by
    cases q : h₀.get? x with
    | none => rfl
    | some o => have := FG.keep x o q; rw [y2] at this; cases this
  have hd₀ : h₀.get? dx = none := by
    cases q : h₀.get? dx with
    | none => rfl
    | some o => have := FG.keep dx o q; rw [y3] at this; cases this
  have hxL : x ≠ L := fun q => by obtain ⟨oL, _, _, e, _⟩ := FG.ns; rw [← q, y2] at e; cases e
  have hdL : dx ≠ L := fun q => by obtain ⟨oL, _, _, e, _⟩ := FG.ns; rw [← q, y3] at e; cases e
  refine hst _ _ _ F₃ fun h₄ F₄ hs₄ => ?_
  refine k h₄ _ oe { oD with slots := sl } vs _ F₄ (fun p hp => ?_) ⟨e2, e3, e4, y7⟩
  rcases List.mem_cons.mp hp with rfl | hp
  · exact ⟨(hs₄.2 _ hxL).trans e1, hxL, hx₀⟩
  · obtain rfl := List.mem_singleton.mp hp
    exact ⟨(hs₄.2 _ hdL).trans hs, hdL, hd₀⟩

theorem raise_end (F : Fr h₀ L s.heap m) (N : News h₀ L s.heap [(x, oe), (dx, od)]) (X : ExcO oe od C dx vs mA) (h1 : vs[1]? = some .none) (Cl : ClsAt h₀ C fI ns) (hE : E (.ref x) s) : RaiseP E C (.ref x) s := by
  obtain ⟨nm', q, Nn, bs, sn, sub, ab, col, dd, k0, k1, k2, k3, k5, mN, a1, a2, a3, a4⟩ := Cl.keeps F.keep
  exact ⟨x, oe, vs, _, _, _, _, _, _, _, _, _, _, _, _, _, _, rfl, a1, (N _ (List.Mem.head _)).1, X.1, X.2.2.1, h1, hE⟩
theorem raise_exec {y : PySem.Expr} {pos : Pos} {Q : Flow → Shared → Prop} (C : Addr) (hh : A.handled = none) (hy : wpAny (model prog w) A (eval y env) (RaiseP E C) E s) :
    wpAny (model prog w) A (exec (.Raise (some y) none pos) env) Q E s := by
  rw [arm_exec_Raise]
  refine wpAny_bind (wpAny_standAt ?_)
  show wpAny _ _ (raiseStmt env (some (do let v ← eval y env; standAt pos; pure v)) none) _ _ _
  exact raise_made hh (wpAny_bind (wpAny_mono hy (fun v s₁ h₁ => wpAny_bind (wpAny_standAt (wpAny_pure h₁))) fun _ _ z => z))
end
end Mine
end

section
open PySem PySem.W PyProof.Rows PySem.Calls PySem.Spec
set_option Elab.async false
set_option maxRecDepth 100000
set_option maxHeartbeats 8000000
namespace Mine
theorem anew9 : True := by
  w_top off
  exact trivial
theorem take1 (w : World) (k S many : Int) (t1 t2 t3 : Tok) (b c d2 : Nat) (n1 n2 : Nat) (cvs : List Value) (ns : List Int) (o2 : Obj) (hk0 : 0 ≤ k) (hk1 : k < 1000) (hS : 0 ≤ S) (hS1 : S < 89) (hm : 1 ≤ many) (hm2 : many < 4611686018427387904) (hi : IntsAre cvs ns) (hl : ns.length ≤ 24) (hbc : b ≠ c) (hb2 : b ≠ d2) (hc2 : c ≠ d2) :
    Ctr w 74 [.ref b, .int many t3] [(b, listOf #[.ref c, .int k t1, .int S t2] n1), (c, listOf cvs.toArray n2), (d2, o2)] (fun v led => ∃ r t t1' n1', v = .int r t ∧ 0 ≤ r ∧ r < many ∧ led = [(b, listOf #[.ref c, .int (k+1) t1', .int S t2] n1'), (c, listOf cvs.toArray n2), (d2, o2)]) := by
  intro dp un gd cn cs a ccd cl outer A₀ base h₀ L m s Q E mean mg mb B F X N T hk hd hu hret
  (refine wpAny_call ?_; k_dflt (first
    | cell_enter
    | (refine' code_defC ?k1 ?k2 ?k3 ?k4 ?k5 ?kA ?kF ?kK ?k6 ?k7 ?k8 ?k9 ?kB ?kD ?_ ?c2 ?c3 ?c4; (case kA => exact rfl); (case kF => exact rfl); (case kK => first | exact rfl | assumption); (case k1 => k_asm); (case k2 => k_asm); (case k3 => k_asm); (case k4 => k_asm); (case k5 => k_asm); (case k6 => k_is); (case k7 => k_is); (case k8 => ktr_room); (case k9 => first | exact BindsTo.of_eq rfl | exact binds_K (by k_in) rfl (by k_is) rfl rfl rfl); (case kB => exact rfl); (case kD => decide +kernel); (case c2 => exact rfl); (case c3 => exact rfl); (case c4 => exact rfl); k_whole; intro g' L' h' tk' cells' FG' F' N' Y' B' X' T' lq1; (try k_lt lq1); k_cells Y'; (try simp only [List.cons_append, List.nil_append] at N'); (try dsimp only); (try k_lift B'); (try k_fold))))
  k_steps
  all_goals (refine hret _ _ _ _ ⟨_, _, _, _, rfl, ?_, ?_, rfl⟩ (by assumption) (by assumption))
  · exact Int.fmod_nonneg_of_pos _ (by omega)
  · exact Int.fmod_lt_of_pos _ (by omega)
  · exact Int.fmod_nonneg_of_pos _ (by omega)
  · exact Int.fmod_lt_of_pos _ (by omega)
end Mine
end

section
open PySem PySem.W PyProof.Rows PySem.Calls PySem.Spec
set_option Elab.async false
set_option maxRecDepth 100000
set_option maxHeartbeats 8000000
namespace Mine
theorem anew10 : True := by
  w_top off
  exact trivial
local macro_rules | `(tactic| walk_at "exec Raise some none") => `(tactic| (k_here; k_dflt (refine' raise_exec 31 ?h ?_; (case h => exact rfl); k_whole)))
local macro_rules | `(tactic| walk_at "call ref") => `(tactic| (k_here; (with_reducible show wpAny _ _ (call (Value.ref 31) _) _ _ _); k_dflt (refine' made_exc (C := 31) (fI := 28) ?F ?N ?Cl ?f ?c ?_; (case F => k_asm); (case N => k_asm); (case Cl => exact quic_cls (by k_asm)); (case f => exact (by assumption : Frag.In _ _) 28 _ (by k_is)); (case c => exact rfl); k_whole); intro e' t' h' F' N' ne'; (try k_sweep); refine wpAny_call ?_; k_enter))
local macro_rules | `(tactic| walk_at "getMethod type:Exception") => `(tactic| (k_here; k_dflt (refine' method_type ?F ?X ?m (by decide +kernel) ?e ?h ?_; (case F => k_asm); (case X => k_asm); (case m => exact meta_exception); (case e => k_is); (case h => k_handed); k_whole)))
local macro_rules | `(tactic| walk_at "call builtin:Exception.__init__") => `(tactic| (k_here; k_dflt (refine' init_exc ?F ?N ?Cl ?_; (case F => k_asm); (case N => k_asm); (case Cl => exact quic_cls (by k_asm)); k_whole); intro t' h' F' N'; (try k_sweep)))
local macro_rules | `(tactic| walk_at "call type:range") => `(tactic| (k_here; (fail_if_success (with_reducible show wpAny _ _ (call (Value.type "range") [Value.int 1 _, Value.int 5 _]) _ _ _)); (with_unfolding_all show wpAny _ _ (call (Value.type "range") [Value.int 1 _, Value.int 5 _]) _ _ _)))
local macro_rules | `(tactic| walk_at "setAttr ref") => `(tactic| (k_here; k_dflt (first
  | (refine' set_first ?F ?N ?Cl ?a ?b ?B ?_; (case F => k_asm); (case N => k_asm); (case Cl => exact quic_cls (by k_asm)); (case a => decide); (case b => decide); (case B => exact no_code); k_whole; intro dx' oe' od' h' tk' F' N' X' ne'; (try k_sweep))
  | (refine' set_next ?F ?N ?X ?ne ?Cl ?a ?b ?B ?_ ?w ?z; (case F => k_asm); (case N => k_asm); (case X => assumption); (case ne => assumption); (case Cl => exact quic_cls (by k_asm)); (case a => decide); (case b => decide); (case B => first | exact no_frame_type | exact no_text); (case w => within_ways); (case z => size_fits); k_whole; intro oe' od' h' tk' F' N' X'; (try k_sweep)))))
local macro_rules | `(tactic| walk_at "RaiseP") => `(tactic| (k_here; k_dflt (refine' raise_end ?F ?N ?X ?h ?Cl ?_; (case F => k_asm); (case N => k_asm); (case X => assumption); (case h => exact rfl); (case Cl => exact quic_cls (by k_asm)); k_whole)))
local macro_rules | `(tactic| walk_at "leaving ref") => `(tactic| (k_here; k_dflt (refine' leave_D ?K ?F ?N ?X ?h ?ne ?_; (case K => k_asm); (case F => k_asm); (case N => k_asm); (case X => assumption); (case h => exact rfl); (case ne => assumption); k_whole); intro h' Fl'))
theorem fs_out {h₀ g h : Heap} {L L' : Addr} {m m' : PySem.Str → Option Value} (FG : Fr h₀ L g m) (F' : Fr g L' h m') : ∀ b ∈ [L', L], h₀.get? b = none := fun b hb => by
  have hL : h₀.get? L = none := Heap.get?_none_of_le FG.above
  have hL' : g.get? L' = none := Heap.get?_none_of_le F'.above
  rcases List.mem_cons.mp hb with rfl | hb
  · cases q : h₀.get? b with
    | none => rfl
    | some o => rw [FG.keep b o q] at hL'; cases hL'
  · rw [List.mem_singleton.mp hb]; exact hL
local macro_rules | `(tactic| walk_at "noteFrame ref") => `(tactic| (k_here; (rename Flown _ _ _ _ _ _ _ _ _ => flX); k_dflt (refine' catch_D (C := 31) (fI := 28) ?hfr ?hf ?FG flX ?hfs ?hout ?Cl ?hn ?hst ?_; (case hfr => exact rfl); (case hf => exact rfl); (case FG => assumption); (case hfs => exact fun b hb => List.mem_cons_of_mem _ hb); (case hout => exact fs_out (by assumption) (by assumption)); (case Cl => exact quic_cls (by k_asm)); (case hn => (intro s9 Q9 E9 F9 hq9; walk1; exact hq9)); (case hst => (intro s9 Q9 E9 F9 hq9; exact wpAny_storeName_local (by rfl) F9.ns (fun h' hn hs => hq9 h' (F9.set hn hs) hs) (by rfl))); k_whole); intro h' tk' oe' od' vs' E' F' N' X'; (try k_sweep)))
local macro_rules | `(tactic| walk_at "getAttr ref") => `(tactic| (k_here; (with_reducible show wpAny _ _ (getAttr (Value.ref _) (PySem.Str.ofString "code") _) _ _ _); k_dflt (refine' get_first ?F ?N ?X ?Cl ?a ?b ?c ?B ?v ?h ?_; (case F => k_asm); (case N => k_asm); (case X => assumption); (case Cl => exact quic_cls (by k_asm)); (case a => decide); (case b => decide); (case c => decide); (case B => exact no_code); (case v => rfl); (case h => rfl); k_whole)))
theorem try1 (w : World) (fa cdA : Nat) (c b g L : Nat) (h₀ : Heap) (m : PySem.Str → Option Value) (s : Shared) (oc ob og : Obj) (Q : Flow → Shared → Prop) (E : Value → Shared → Prop) (mean : ExcName → Option Value) (mg mb : PySem.Str → Option Value)
  (B : Below callerA h₀ [] h₀) (F : Fr h₀ L s.heap m) (X : (hd.heap_39 w.params).In h₀) (N : News h₀ L s.heap [(b, ob), (c, oc), (g, og)]) (T : Top hd.view_39 (looseW hd.view_39 []) mean mg mb h₀)
  (hret : ∀ h' tk' m', Fr h₀ L h' m' → Q (.ret (.bool true)) { s with heap := h', toks := tk' }) :
  wpAny (model PySem.Challenge.rw_no0046_01.row.prog w) (callerA.deeper (envOfC lawName lawScope L fa (.ref cdA))) (exec (lawSt 14) (envOfC lawName lawScope L fa (.ref cdA))) Q E s := by
  unfold lawName
  conv in (occs := *) lawScope => all_goals whnf
  conv in lawSt 14 => whnf
  refine wpAny_Try_except ?_
  k_steps
  dsimp only
  (rename Fr h₀ L _ (fun y => if y = PySem.Str.ofString "e" then _ else _) => F9)
  refine wpAny_nameGoes (by rfl) F9.ns (by rfl) fun h9 m9 hn9 hs9 => ?_
  exact hret _ _ _ (F9.set hn9 hs9)
end Mine
end

section
open PySem PySem.W PyProof.Rows PySem.Calls
open PySem.Sem (wp)
set_option maxRecDepth 100000
namespace Mine
theorem ba_mro : mroOf (.type "bytearray") = pure [.type "bytearray", .type "object"] := by rw [mroOf_type]; kernel_rfl
theorem ba_lookup_new : typeLookup (.type "bytearray") "__new__" = pure (some (.builtin "bytearray.__new__")) := by rw [typeLookup_type, builtinLookup_eq_fast]; kernel_rfl
theorem ba_slot_init : Slot "bytearray" "__init__" "bytearray.__init__" :=
  .of (owner := "bytearray") (n := "__init__") (by rw [typeLookup_type, builtinLookup_eq_fast]; kernel_rfl) (by decide +kernel) (by decide +kernel) (by decide +kernel)
    (by first | exact .inl (by decide +kernel) | exact .inr (by decide +kernel)) (by rw [isSubtype_type]; kernel_rfl)
theorem ba_called : TypeCalled "bytearray" "bytearray.__new__" "bytearray.__init__" :=
  ⟨by decide +kernel, by decide +kernel, ⟨_, _, ba_mro⟩, madeBy_type ba_mro ba_lookup_new (by decide +kernel), by decide +kernel, by rw [isSubtype_type]; kernel_rfl, ba_slot_init⟩
theorem ba_typeCall (a : Value) : checkTypeCall "bytearray" ⟨[a], []⟩ = pure () := by kernel_rfl
theorem ba_newCall (a : Value) : checkBuiltinCall "bytearray.__new__" ⟨[.type "bytearray", a], []⟩ = pure () := by kernel_rfl
theorem ba_plain_new : plainId "bytearray.__new__" = true := by decide +kernel
theorem ba_plain_init : plainId "bytearray.__init__" = true := by decide +kernel
theorem ba_entry_new : entryFor table "bytearray.__new__" = some Builtin.«list.__new__» := entryFor_alias (id' := "list.__new__") (by kernel_rfl) (by first | rfl | decide +kernel) (by decide +kernel) (by kernel_rfl)
theorem ba_entry_init : entryFor table "bytearray.__init__" = some Builtin.«bytearray.__init__» := by first | exact entryFor_of_tree (by kernel_rfl) | exact entryFor_of_fast (by kernel_rfl)
theorem ba_owner_new : ("bytearray.__new__".splitOn ".__new__").headD "" = "bytearray" := by simp +decide [String.splitOn, String.splitOnAux]
theorem ba_sub : isSubtype (.type "bytearray") (.type "bytearray") = pure true := by rw [isSubtype_type]; kernel_rfl
theorem ba_bind (v : Value) : Builtin.Bytes.bindOptional "bytearray.__init__" "bytearray" ["source", "encoding", "errors"] [v] [] = pure [some v, none, none] := by kernel_rfl
theorem ba_release : typeLookup (.type "bytearray") "__release_buffer__" = pure (some (.builtin "bytearray.__release_buffer__")) := by rw [typeLookup_type, builtinLookup_eq_fast]; kernel_rfl
theorem ba_slot_setitem : Slot "bytearray" "__setitem__" "bytearray.__setitem__" :=
  .of (owner := "bytearray") (n := "__setitem__") (by rw [typeLookup_type, builtinLookup_eq_fast]; kernel_rfl) (by decide +kernel) (by decide +kernel) (by decide +kernel)
    (by first | exact .inl (by decide +kernel) | exact .inr (by decide +kernel)) (by rw [isSubtype_type]; kernel_rfl)
theorem ba_entry_setitem : entryFor table "bytearray.__setitem__" = some Builtin.«bytearray.__setitem__» := by first | exact entryFor_of_tree (by kernel_rfl) | exact entryFor_of_fast (by kernel_rfl)

theorem ba_int_index {n : Int} {t : Tok} : specialOf (.int n t) "__index__" = pure (some (.builtin "int.__index__")) := by show typeLookup (.type "int") _ = _; rw [typeLookup_type, builtinLookup_eq_fast]; kernel_rfl
theorem ba_index : typeLookup (.type "int") "__index__" = pure (some (.builtin "int.__index__")) := by rw [typeLookup_type, builtinLookup_eq_fast]; kernel_rfl
theorem push_update (h : Heap) (o : Obj) (f : Obj → Obj) : (h.push o).update h.objs.size f = h.push (f o) := by
  obtain ⟨objs, l⟩ := h
  show (⟨(objs.push o).modify objs.size f, l⟩ : Heap) = ⟨objs.push (f o), l⟩
  congr 1
  apply Array.ext
  · simp
  · intro i h1 h2
    simp only [Array.getElem_modify, Array.getElem_push]
    simp at h2
    split <;> split <;> first | rfl | omega | (exfalso; omega) | skip
    all_goals simp_all
section
variable {prog : Program} {w : World} {A : Around} {E : Value → Shared → Prop} {s : Shared}
theorem wpC_if_false {α : Type} {M : Model} {c : Bool} {a b : Sem α} {Q : α → Shared → Prop} (hc : c = false) (h : wpC M A b Q E s) : wpC M A (if c = true then a else b) Q E s := by
  subst hc; exact h
theorem wpC_if_true {α : Type} {M : Model} {c : Bool} {a b : Sem α} {Q : α → Shared → Prop} (hc : c = true) (h : wpC M A a Q E s) : wpC M A (if c = true then a else b) Q E s := by
  subst hc; exact h
theorem wpAny_ownRelease {S : Addr} {Q : Bool → Shared → Prop} (hT : s.TypeIs (.ref S) "bytearray") (h : Q false s) : wpAny (model prog w) A (Builtin.Bytes.ownRelease (.ref S)) Q E s := by
  unfold Builtin.Bytes.ownRelease Builtin.Bytes.slotIsOwn
  refine wpAny_bind ?_
  refine wpAny_bind (wpAny_specialOf hT ba_release ?_)
  show wpAny _ _ (if (!("bytearray.__release_buffer__" : String).endsWith ("." ++ "__release_buffer__")) = true then _ else _) _ _ _
  refine bm_if_false (by decide +kernel) ?_
  rw [show ("bytearray.__release_buffer__" : String).dropRight (("__release_buffer__" : String).length + 1) = "bytearray" from by decide +kernel]
  refine wpAny_isInstance hT ba_sub ?_
  exact wpAny_pure h
theorem wpAny_ba_write {S : Addr} {b : Array UInt8} {f : Array UInt8 → Array UInt8} {Q : Unit → Shared → Prop} (ho : s.heap.get? S = some { cls := .type "bytearray", data := .bytearray b }) (hf : (f b).size ≤ sizeLine)
    (h : Q () { s with heap := s.heap.update S (Obj.mapBytearray f) }) : wpAny (model prog w) A (Builtin.Bytes.write (.ref S) f) Q E s := by
  show wpAny _ _ (updateBytearray S f) _ _ _
  unfold updateBytearray
  refine wpAny_bind (wpAny_load ho ?_)
  show wpAny _ _ (update S (Obj.mapBytearray f) >>= fun _ => lookBehind S) _ _ _
  refine wpAny_bind (wpAny_update ho ?_)
  have hS₂ : (s.heap.update S (Obj.mapBytearray f)).get? S = some { cls := .type "bytearray", data := .bytearray (f b) } := Heap.get?_update_self (Obj.mapBytearray f) ho rfl
  refine wpAny_lookBehind hS₂ ?_ h
  show (if (f b).size > sizeLine then some "bytearray:memory" else none) = none
  rw [if_neg (by omega)]
theorem wpAny_ba_exportsOf {S : Addr} {b : Array UInt8} {Q : Nat → Shared → Prop} (ho : s.heap.get? S = some { cls := .type "bytearray", data := .bytearray b }) (h : Q 0 s) : wpAny (model prog w) A (Builtin.Bytes.exportsOf (.ref S)) Q E s := by
  unfold Builtin.Bytes.exportsOf
  refine wpAny_bind (wpAny_load ho ?_)
  exact wpAny_pure h
theorem ba_init {A' : Around} {R : Result → Shared → Prop} {n : Int} {t : Tok} (hn : 0 < n) (hm : n ≤ 16)
    (h : R (.ok (.ret .none)) { s with heap := s.heap.push { cls := .type "bytearray", data := .bytearray (Array.replicate n.toNat 0) } }) :
    wpC (model prog w) A (Builtin.«bytearray.__init__» ⟨[.ref s.heap.objs.size, .int n t], []⟩) (fun fin s' => match fin with | .done f => R (.ok f) s' | .again c' => c'.quiet = true ∧ codeC (model prog w) A' c' R s') (fun e s' => R (.error e) s')
      { s with heap := s.heap.push { cls := .type "bytearray", data := .bytearray #[] } } := by
  have ho : (s.heap.push { cls := .type "bytearray", data := .bytearray #[] }).get? s.heap.objs.size = some { cls := .type "bytearray", data := .bytearray #[] } := Heap.get?_push_size _ rfl
  have hT : ({ s with heap := s.heap.push { cls := .type "bytearray", data := .bytearray #[] } } : Shared).TypeIs (.ref s.heap.objs.size) "bytearray" := ⟨_, ho, rfl⟩
  unfold Builtin.«bytearray.__init__»
  refine wpC_then (wpAny_ownRelease hT ?_)
  refine wpC_if_false rfl ?_
  refine wpC_then (wpAny_of_eq (ba_bind _) ?_)
  refine wpC_then (wpAny_of_eq (a := ()) rfl ?_)
  refine wpC_then (wpAny_of_eq (a := ()) rfl ?_)
  refine wpC_bind ?_
  refine wpC_bind (exported_no ?_)
  refine wpC_any ?_
  refine wpAny_bind (wpAny_ba_exportsOf ho ?_)
  refine wpAny_pure (wpC_any ?_)
  refine bm_if_false rfl ?_
  refine wpAny_bind (wpAny_ba_write ho (Nat.zero_le _) ?_)
  rw [push_update]
  dsimp only
  refine wpAny_bind (wpAny_of_eq (a := none) rfl ?_)
  refine bm_if_false rfl ?_
  refine wpAny_bind (wpAny_of_eq (a := ()) rfl ?_)
  refine wpAny_bind (wpAny_of_eq ba_int_index ?_)
  refine bm_if_true rfl ?_
  refine wpAny_bind (wpAny_attempt (wpAny_of_eq (rfl : asIndex (.int n t) = pure n) ?_))
  dsimp only
  refine bm_if_false ?_ ?_
  · unfold Builtin.Bytes.fitsIndex
    rw [decide_eq_true (by omega), decide_eq_true (by omega)]; rfl
  rw [if_neg (by omega)]
  refine bm_if_false (beq_eq_false_iff_ne.mpr (by omega)) ?_
  refine bm_if_false ?_ ?_
  · have := sizeLine_eq
    unfold Builtin.Bytes.tooLong
    exact decide_eq_false (by omega)
  refine wpAny_bind (wpAny_rule ?_)
  rw [if_pos (by omega)]
  have ho₁ : (s.heap.push { cls := .type "bytearray", data := .bytearray #[] }).get? s.heap.objs.size = some { cls := .type "bytearray", data := .bytearray #[] } := ho
  refine wpAny_bind (wpAny_ba_write ho₁ ?_ ?_)
  · rw [Array.size_replicate]; have := sizeLine_eq; omega
  show wpAny _ _ _ _ _ { s with heap := (s.heap.push _).update _ _ }
  rw [push_update]
  exact wpAny_pure h
theorem codeC_builtin {id : String} {args : Args} {b : Builtin} {R : Result → Shared → Prop} (hp : plainId id = true) (hcl : holders.contains id = false) (hb : entryFor table id = some b)
    (h : wpC (model prog w) A.in1 (b args) (fun fin s' => match fin with | .done f => R (.ok f) s' | .again c' => c'.quiet = true ∧ codeC (model prog w) A c' R s') (fun e s' => R (.error e) s') s) :
    codeC (model prog w) A (.builtin id args) R s := by
  refine codeC_tree (by show (!holders.contains id) = true; rw [hcl]; rfl) ?_
  rw [Around.under_plainId hp]
  show wpC _ _ (match entryFor table id with | some b => b args | none => unsupported ((withoutEnding? id "#data").getD id)) _ _ s
  rw [hb]; exact h
theorem codeC_call_builtin {id : String} {args : Args} {b : Builtin} {R : Result → Shared → Prop} (hp : plainId id = true) (hcl : holders.contains id = false) (hb : entryFor table id = some b)
    (h : wpAny (model prog w) A.in1 (checkBuiltinCall id args) (fun _ s₁ => wpC (model prog w) A.in1 (b args)
      (fun fin s' => match fin with | .done f => R (.ok f) s' | .again c' => c'.quiet = true ∧ codeC (model prog w) A c' R s') (fun e s' => R (.error e) s') s₁)
      (fun e s' => R (.error e) s') s) : codeC (model prog w) A (.call (.builtin id) args) R s := by
  refine codeC_tree rfl ?_
  rw [Around.under_plain rfl rfl]
  show wpC _ A.in1 (do checkBuiltinCall id args; again (.builtin id args)) _ _ s
  exact wpC_then (wpAny_mono h (fun _ s₁ h₁ => wpC_pure ⟨plainId_quiet hp args, codeC_builtin hp hcl hb h₁⟩) fun _ _ h' => h')
theorem code_ba_new (a : Value) {Q₁ : Value → Shared → Prop}
    (h : Q₁ (.ref s.heap.objs.size) { s with heap := s.heap.push { cls := .type "bytearray", data := .bytearray #[] } }) :
    codeAny (model prog w) A (.call (.builtin "bytearray.__new__") ⟨[.type "bytearray", a], []⟩) (wants Q₁ E) s := by
  refine codeAny_of_tree ?_
  show wpAny _ A.in1 (do checkBuiltinCall "bytearray.__new__" ⟨[.type "bytearray", a], []⟩; again (.builtin "bytearray.__new__" ⟨[.type "bytearray", a], []⟩)) _ _ s
  refine wpAny_bind (wpAny_of_eq (ba_newCall a) (wpAny_pure ⟨plainId_quiet ba_plain_new _, codeAny_builtin_stack ba_entry_new rfl fun p st => ?_⟩))
  rw [Around.under_plainId ba_plain_new _]
  have hown := ba_owner_new
  have hsub := ba_sub
  obtain ⟨hp, g, d, tk, os⟩ := s
  simp only [hown]
  wp_walk
  exact h
end
end Mine
end

section
open PySem PySem.W PyProof.Rows PySem.Calls
open PySem.Sem (wp)
set_option maxRecDepth 100000
namespace Mine
section
variable {prog : Program} {w : World} {A : Around} {E : Value → Shared → Prop} {s : Shared}
theorem clean_builtin {id : String} {args : Args} (h : holders.contains id = false) : clean (.builtin id args) = true := by show (!holders.contains id) = true; rw [h]; rfl
theorem codeC_builtin_at {id : String} {args : Args} {b : Builtin} {R : Result → Shared → Prop} (hcl : clean (.builtin id args) = true) (hb : entryFor table id = some b)
    (h : wpC (model prog w) (A.under (.builtin id args)) (b args) (fun fin s' => match fin with | .done f => R (.ok f) s' | .again c' => c'.quiet = true ∧ codeC (model prog w) A c' R s') (fun e s' => R (.error e) s') s) :
    codeC (model prog w) A (.builtin id args) R s := by
  refine codeC_tree hcl ?_
  show wpC _ _ (match entryFor table id with | some b => b args | none => unsupported ((withoutEnding? id "#data").getD id)) _ _ s
  rw [hb]; exact h
theorem ba_init_call {R : Result → Shared → Prop} {n : Int} {t : Tok} (hT : ({ s with heap := s.heap.push { cls := .type "bytearray", data := .bytearray #[] } } : Shared).TypeIs (.ref s.heap.objs.size) "bytearray") (hn : 0 < n) (hm : n ≤ 16)
    (h : R (.ok (.ret .none)) { s with heap := s.heap.push { cls := .type "bytearray", data := .bytearray (Array.replicate n.toNat 0) } }) :
    codeC (model prog w) A (.call (.builtin "bytearray.__init__") ⟨[.ref s.heap.objs.size, .int n t], []⟩) R { s with heap := s.heap.push { cls := .type "bytearray", data := .bytearray #[] } } :=
  codeC_call_builtin ba_plain_init (by decide +kernel) ba_entry_init (by
    refine ba_slot_init.check _ _ _ _ _ _ _ _ hT (by unfold argsOk; first | rfl | kernel_rfl) ?_
    exact ba_init (prog := prog) (w := w) (A := A.in1) (s := s) (R := R) (t := t) hn hm h)
theorem callC_bytearray {n : Int} {t : Tok} {Q : Value → Shared → Prop} (hn : 0 < n) (hm : n ≤ 16)
    (h : Q (.ref s.heap.objs.size) { s with heap := s.heap.push { cls := .type "bytearray", data := .bytearray (Array.replicate n.toNat 0) } }) :
    wpC (model prog w) A (call (.type "bytearray") [.int n t]) Q E s := by
  have ft := ba_called
  have hct := ba_typeCall (.int n t)
  obtain ⟨c, tl, hmro⟩ := ft.mro
  have hmade := ft.made
  have hsub := ft.sub
  refine wpC_call (codeC_tree rfl ?_)
  show wpC _ _ (callAny (.type "bytearray") _) _ _ _
  have hc : ∀ args, clean (.builtin "type.__call__" args) = true := fun args => clean_builtin (by decide +kernel)
  have hq : ∀ args, (Code.builtin "type.__call__" args).quiet = true := fun args => Code.quiet_builtin _ (by decide +kernel)
  refine wpC_pure ?_
  refine ⟨hq _, ?_⟩
  refine codeC_builtin_at (hc _) F.entry_type_call ?_
  rw [Around.under_plain (weight_type_call_type "bytearray" [.int n t] []) rfl]
  show wpC _ _ (Builtin.«type.__call__» ⟨[.type "bytearray", .int n t], []⟩) _ _ _
  unfold Builtin.«type.__call__»
  refine wpC_if_false (by decide) ?_
  refine wpC_if_false (by decide +kernel) ?_
  refine wpC_then (wpAny_of_eq hct ?_)
  refine wpC_then (wpAny_of_eq hmro ?_)
  refine wpC_if_false rfl ?_
  refine wpC_then (wpAny_of_eq hmade ?_)
  refine wpC_then (wpAny_pure ?_)
  refine wpC_then (wpAny_holding (wpAny_call (codeAny_mono (code_ba_new (E := fun _ _ => False) (Q₁ := fun v s' => v = .ref s.heap.objs.size ∧ s' = { s with heap := s.heap.push { cls := .type "bytearray", data := .bytearray #[] } }) _ ⟨rfl, rfl⟩) fun r s' hr => ?_)))
  cases r with
  | error e => exact hr.elim
  | ok fl =>
    cases fl with
    | ret obj =>
      obtain ⟨rfl, rfl⟩ := hr
      have ho : (s.heap.push { cls := .type "bytearray", data := .bytearray #[] }).get? s.heap.objs.size = some { cls := .type "bytearray", data := .bytearray #[] } := Heap.get?_push_size _ rfl
      have hT : ({ s with heap := s.heap.push { cls := .type "bytearray", data := .bytearray #[] } } : Shared).TypeIs (.ref s.heap.objs.size) "bytearray" := ⟨_, ho, rfl⟩
      dsimp only
      refine wpC_then (wpAny_isInstance hT hsub ?_)
      refine wpC_if_false rfl ?_
      refine wpC_bind (wpC_holding ?_)
      unfold callSpecial?
      refine wpC_then (wpAny_specialOf hT ft.init.lookup ?_)
      refine wpC_holding ?_
      refine wpC_then (wpAny_of_eq (ft.init.bind _) ?_)
      refine wpC_bind (wpC_call ?_)
      refine ba_init_call hT hn hm ?_
      dsimp only
      refine wpC_pure ?_
      refine wpC_if_false rfl ?_
      exact wpC_pure h
    | _ => exact hr.elim
end
end Mine
end

section
open PySem PySem.W PyProof.Rows PySem.Calls
open PySem.Sem (wp)
set_option maxRecDepth 100000
namespace Mine
theorem ba_no_bytes : typeLookup (.type "bytearray") "__bytes__" = pure none := by rw [typeLookup_type, builtinLookup_eq_fast]; kernel_rfl
theorem ba_no_index : typeLookup (.type "bytearray") "__index__" = pure none := by rw [typeLookup_type, builtinLookup_eq_fast]; kernel_rfl
theorem ba_buffer : typeLookup (.type "bytearray") "__buffer__" = pure (some (.builtin "bytearray.__buffer__")) := by rw [typeLookup_type, builtinLookup_eq_fast]; kernel_rfl
theorem ba_args_setitem (a b c : Value) : argsOk "bytearray.__setitem__" ⟨[a, b, c], []⟩ := by unfold argsOk; first | rfl | kernel_rfl
abbrev baObj (b : Array UInt8) : Obj := { cls := .type "bytearray", data := .bytearray b }
section
variable {prog : Program} {w : World} {A : Around} {E : Value → Shared → Prop} {s : Shared}
theorem ba_setAt {l : Addr} {b : Array UInt8} {k x : Int} {t u : Tok} {Q : Unit → Shared → Prop} (ho : s.heap.get? l = some (baObj b)) (h0 : 0 ≤ k) (hk : k < b.size) (hb : b.size ≤ 16) (hx0 : 0 ≤ x) (hx : x < 256)
    (hQ : Q () { s with heap := s.heap.update l (Obj.mapBytearray (·.setIfInBounds k.toNat x.toNat.toUInt8)) }) : wpAny (model prog w) A (setItem (.ref l) (.int k t) (.int x u)) Q E s := by
  have hT : s.TypeIs (.ref l) "bytearray" := ⟨_, ho, rfl⟩
  unfold setItem
  try with_reducible refine wpAny_holding ?_
  first | refine wpAny_bind (wpAny_pure ?_) | skip
  refine wpAny_bind (wpAny_sequenceKey hT (by decide) ?_)
  refine wpAny_bind (wpAny_callSpecial?_slot (name := Str.ofString "__setitem__") hT ba_slot_setitem
    (wpAny_call_entry ba_slot_setitem hT ba_entry_setitem ?_ (ba_args_setitem _ _ _)))
  show wpAny _ _ (Builtin.Bytes.subscript? (.int k t) >>= _) _ _ s
  refine wpAny_bind ?_
  unfold Builtin.Bytes.subscript?
  refine wpAny_bind (wpAny_of_eq ba_int_index ?_)
  refine bm_if_false rfl ?_
  refine wpAny_bind (wpAny_of_eq (rfl : asIndex (.int k t) = pure k) ?_)
  refine bm_if_false ?_ ?_
  · unfold Builtin.Bytes.fitsIndex
    rw [decide_eq_true (by omega), decide_eq_true (by omega)]; rfl
  refine wpAny_pure ?_
  dsimp only
  refine wpAny_bind ?_
  unfold Builtin.Bytes.byteValue
  refine wpAny_bind (wpAny_of_eq (rfl : asIndex (.int x u) = pure x) ?_)
  refine bm_if_false (by simp only [Bool.or_eq_false_iff, decide_eq_false_iff_not]; omega) ?_
  refine wpAny_pure ?_
  refine wpAny_bind ?_
  unfold Builtin.Bytes.payload Builtin.Bytes.payload?
  refine wpAny_bind (wpAny_bind (wpAny_load ho ?_))
  refine wpAny_pure (wpAny_pure ?_)
  have hseq : seqIndex? k b.size = some k.toNat := by
    obtain ⟨j, rfl⟩ := Int.eq_ofNat_of_zero_le h0
    unfold seqIndex?
    simp; omega
  rw [hseq]
  dsimp only
  refine wpAny_bind (wpAny_ba_write ho ?_ ?_)
  · rw [Array.size_setIfInBounds]; have := sizeLine_eq; omega
  first
    | exact wpAny_bind (wpAny_pure (wpAny_pure ⟨.none, rfl, wpAny_pure hQ⟩))
    | exact wpAny_pure ⟨.none, rfl, wpAny_pure hQ⟩
    | trace_state
end
section
variable {prog : Program} {w : World} {A : Around} {E : Value → Shared → Prop} {s : Shared} {h₀ h : Heap} {L D : Addr} {m : Str → Option Value} {news news' pre post : List (Addr × Obj)}
theorem ba_turn {f : Array UInt8 → Array UInt8} {b b' : Array UInt8} (N : News h₀ L h (pre ++ (D, baObj b) :: post)) (a : ∀ p ∈ pre, p.1 ≠ D) (c : ∀ p ∈ post, p.1 ≠ D) (he : f b = b') :
    News h₀ L (h.update D (Obj.mapBytearray f)) (pre ++ (D, baObj b') :: post) := by
  refine news_set N a c (Heap.SameBut.update ..) ?_
  have q : (h.update D (Obj.mapBytearray f)).get? D = some (baObj (f b)) := Heap.get?_update_self (Obj.mapBytearray f) (N (D, baObj b) (List.mem_append.mpr (.inr (.head _)))).1 rfl
  rw [he] at q
  exact q
theorem ba_set {b b' : Array UInt8} {k x : Int} {t u : Tok} {Q : Unit → Shared → Prop} (F : Fr h₀ L s.heap m) (N : News h₀ L s.heap news) (h0 : 0 ≤ k) (hk : k < b.size) (hb : b.size ≤ 16) (hx0 : 0 ≤ x) (hx : x < 256)
    (e : b.setIfInBounds k.toNat x.toNat.toUInt8 = b') (U : Upd D (baObj b) (baObj b') news news')
    (h : ∀ h', Fr h₀ L h' m → News h₀ L h' news' → Q () { s with heap := h' }) : wpAny (model prog w) A (setItem (.ref D) (.int k t) (.int x u)) Q E s := by
  obtain ⟨pre, post, rfl, rfl, a, c⟩ := U.split
  have z := N (D, baObj b) (List.mem_append.mpr (.inr (.head _)))
  exact ba_setAt z.1 h0 hk hb hx0 hx (h _ (F.change (Heap.SameBut.update ..) z.2.1 z.2.2) (ba_turn N a c e))
theorem code_ba_bytes {l : Addr} {b : Array UInt8} {Q : Value → Shared → Prop} (ho : s.heap.get? l = some (baObj b)) (hb : b.size ≤ 16) (hQ : ∀ t k, Q (.bytes b t) { s with toks := k }) :
    codeAny (model prog w) A (.call (.builtin "bytes.__new__") ⟨[.type "bytes", .ref l], []⟩) (wants Q E) s := by
  refine codeAny_of_tree ?_
  show wpAny _ A.in1 (do checkBuiltinCall "bytes.__new__" ⟨[.type "bytes", .ref l], []⟩; again (.builtin "bytes.__new__" ⟨[.type "bytes", .ref l], []⟩)) _ _ s
  refine wpAny_bind (wpAny_of_eq (F.bm_newCall _) (wpAny_pure ⟨plainId_quiet F.bm_plain _, codeAny_builtin F.bm_entry ?_⟩))
  rw [Around.under_plainId F.bm_plain _]
  have hT : s.TypeIs (.ref l) "bytearray" := ⟨_, ho, rfl⟩
  unfold Builtin.«bytes.__new__»
  refine wpAny_bind (wpAny_of_eq (a := true) rfl ?_)
  refine bm_if_false rfl ?_
  refine wpAny_bind (wpAny_of_eq F.bm_sub ?_)
  refine bm_if_false rfl ?_
  refine wpAny_bind (wpAny_of_eq (F.bm_bind _) ?_)
  refine wpAny_bind (wpAny_of_eq (a := ()) rfl ?_)
  refine wpAny_bind (wpAny_of_eq (a := ()) rfl ?_)
  refine bm_if_false rfl ?_
  refine wpAny_bind (wpAny_specialOf hT ba_no_bytes ?_)
  refine wpAny_bind (wpAny_bind ?_)
  show wpAny _ _ (load l >>= _) _ _ _
  refine wpAny_bind (wpAny_load ho ?_)
  refine wpAny_pure (wpAny_pure ?_)
  refine bm_if_false rfl ?_
  refine wpAny_bind (wpAny_specialOf hT ba_no_index ?_)
  refine bm_if_true rfl ?_
  first
    | show wpAny _ _ (Builtin.Bytes.buffer? "bytes.__new__" (.ref l) true >>= _) _ _ _
    | (refine wpAny_bind ?_; show wpAny _ _ (Builtin.Bytes.buffer? "bytes.__new__" (.ref l) true >>= _) _ _ _)
  refine wpAny_bind ?_
  unfold Builtin.Bytes.buffer?
  refine wpAny_bind (wpAny_specialOf hT ba_buffer ?_)
  dsimp only
  refine wpAny_bind ?_
  unfold Builtin.Bytes.slotIsOwn
  refine wpAny_bind (wpAny_specialOf hT ba_buffer ?_)
  dsimp only
  refine bm_if_false (by decide +kernel) ?_
  rw [show ("bytearray.__buffer__" : String).dropRight (("__buffer__" : String).length + 1) = "bytearray" from by decide +kernel]
  refine wpAny_isInstance hT ba_sub ?_
  refine bm_if_false rfl ?_
  refine wpAny_bind (wpAny_specialOf hT ba_buffer ?_)
  refine wpAny_bind (wpAny_ownRelease hT ?_)
  refine bm_if_false rfl ?_
  refine wpAny_bind ?_
  unfold Builtin.Bytes.payload Builtin.Bytes.payload?
  refine wpAny_bind (wpAny_bind (wpAny_load ho ?_))
  refine wpAny_pure (wpAny_pure ?_)
  refine wpAny_pure ?_
  dsimp only
  refine wpAny_bind (wpAny_rule ?_)
  refine wpAny_bind (wpAny_mkBytes ?_ (by have := sizeLine_eq; omega))
  show wpAny _ _ (if (Value.type "bytes" == Value.type "bytes") = true then _ else _) _ _ _
  refine bm_if_true (by decide) ?_
  first
    | exact wpAny_pure (hQ _ _)
    | exact wpAny_bind (wpAny_pure (wpAny_pure (hQ _ _)))
theorem call_ba_bytes {l : Addr} {b : Array UInt8} {Q : Value → Shared → Prop} (ho : s.heap.get? l = some (baObj b)) (hb : b.size ≤ 16) (hQ : ∀ t k, Q (.bytes b t) { s with toks := k }) :
    wpAny (model prog w) A (call (.type "bytes") [.ref l]) Q E s := by
  refine callType_codes (Q₁ := fun obj s₁ => s₁.TypeIs obj "bytes" ∧ Q obj s₁) F.bm_called (F.bm_typeCall _) F.entry_object_init
    (code_ba_bytes ho hb fun t k => ⟨PySem.W.typeIs_bytes _ _ _, hQ t k⟩) fun obj s₁ h₁ => ?_
  exact ⟨h₁.1, F.args_object_init_2 obj _, object_init_meets F.bm_called.init.lookup F.bm_called.made (by decide) prog w A.in1 _ s₁ ⟨h₁.1, rfl, h₁.2⟩⟩
abbrev baO (l : List UInt8) : Obj := baObj l.toArray
theorem ba_setL {l l' : List UInt8} {k x : Int} {t u : Tok} {Q : Unit → Shared → Prop} (F : Fr h₀ L s.heap m) (N : News h₀ L s.heap news) (h0 : 0 ≤ k) (hk : k < l.length) (hb : l.length ≤ 16) (hx0 : 0 ≤ x) (hx : x < 256)
    (e : l.set k.toNat x.toNat.toUInt8 = l') (U : Upd D (baO l) (baO l') news news')
    (h : ∀ h', Fr h₀ L h' m → News h₀ L h' news' → Q () { s with heap := h' }) : wpAny (model prog w) A (setItem (.ref D) (.int k t) (.int x u)) Q E s := by
  subst e
  exact ba_set F N h0 hk hb hx0 hx (by rw [List.setIfInBounds_toArray]) U h
theorem call_ba_bytesL {l : List UInt8} {Q : Value → Shared → Prop} (_F : Fr h₀ L s.heap m) (N : News h₀ L s.heap news) (hm : (D, baO l) ∈ news) (hb : l.length ≤ 16) (hQ : ∀ t k, Q (.bytes l.toArray t) { s with toks := k }) :
    wpAny (model prog w) A (call (.type "bytes") [.ref D]) Q E s :=
  call_ba_bytes (N _ hm).1 hb hQ
end
end Mine
end

section
open PySem PySem.W PyProof.Rows PySem.Calls
open PySem.Sem (wp)
set_option maxRecDepth 100000
namespace Mine
section
variable {M : Model} {A : Around} {E : Value → Shared → Prop} {s : Shared} {env : Env}
theorem wpC_keep {α : Type} {vs : List Value} {m : Sem α} {Q : α → Shared → Prop} (h : wpC M A m Q E s) : wpC M A (m.keep vs) Q E s :=
  fun Γ p hΓ hc => by rw [Sem.wp_keep]; exact h Γ p hΓ hc
theorem wpC_execs_cons {st : Stmt} {rest : List Stmt} {Q : Flow → Shared → Prop} (h : wpC M A (exec st env) (fun f s' => match f with | .next => wpC M A (execs rest env) Q E s' | f => Q f s') E s) : wpC M A (execs (st :: rest) env) Q E s := by
  rw [execs_cons]
  refine wpC_bind (wpC_mono h (fun f s' h' => ?_) fun _ _ x => x)
  cases f <;> first | exact h' | exact wpC_pure h'
theorem wpC_execs_nil {Q : Flow → Shared → Prop} (h : Q .next s) : wpC M A (execs [] env) Q E s := wpC_any (wpAny_execs_nil h)
theorem wpC_Assign_Name {x : PySem.Str} {pos' pos : Pos} {value : Expr} {Q : Flow → Shared → Prop} (h : wpC M A (eval value env) (fun v s₁ => wpAny M A (storeName env x v) (fun _ => Q .next) E s₁) E s)
    (hs : swapsWith value (some (.Name x pos')) pos.line env = pure false := by rfl) : wpC M A (exec (.Assign [.Name x pos'] value pos) env) Q E s := fun Γ p hΓ hc => by
  simp only [exec_Assign_Name env x pos' value pos hs, Sem.wp_bind', Sem.wp_cmd_standAt, Sem.wp_bindName, Sem.wp_pure']
  exact Sem.wp_mono M Γ _ (fun v _ s₁ h₁ => h₁ Γ _ hΓ) (fun _ _ _ h' => h') _ _ (h Γ _ hΓ hc)
theorem wpC_Return_some {e : Expr} {pos : Pos} {Q : Flow → Shared → Prop} (h : wpC M A (eval e env) (fun v => Q (.ret v)) E s) : wpC M A (exec (.Return (some e) pos) env) Q E s := fun Γ p hΓ hc => by
  simp only [exec_Return_some, Sem.wp_bind', Sem.wp_cmd_standAt, Sem.wp_pure']; exact h Γ _ hΓ hc
theorem wpC_Call_Name {id : PySem.Str} {p pos : Pos} {args : List Expr} {Q : Value → Shared → Prop}
    (h : wpAny M A (eval (.Name id p) env) (fun f s₁ => wpC M A (callWith pos f [] (backTo pos (starEach args env)) []) Q E s₁) E s) : wpC M A (eval (.Call (.Name id p) args [] pos) env) Q E s := by
  show wpC M A (do callWith pos (← eval (.Name id p) env) [] (backTo pos (starEach args env)) (backToKw pos (keywordEach [] env))) Q E s
  exact wpC_then h
theorem callWithC_type {pos : Pos} {T : String} {first : List Value} {args : List (Bool × Sem Value)} {Q : Value → Shared → Prop} (hplain : args.any (·.1) = false)
    (h : wpAny M A (evalArgs (.type T) true args []) (fun a s₁ => wpC M A (call (.type T) (first ++ a.pos) a.kw) Q E s₁) E s) : wpC M A (callWith pos (.type T) first args []) Q E s := by
  unfold callWith
  refine wpC_then (wpAny_holding (wpAny_mono h (fun a s₁ h₁ => wpC_then (wpAny_standAt ?_)) fun _ _ x => x))
  simp only [hplain, List.any_nil, Bool.or_false]
  refine wpC_then (wpAny_pure ?_)
  exact wpC_bind (wpC_mono h₁ (fun r s₂ hr => wpC_then (wpAny_holding (wpAny_point (wpC_pure hr)))) fun _ _ x => x)
theorem callWithC_function {pos : Pos} {a : Addr} {o : Obj} {fd : FuncData} {first : List Value} {args : List (Bool × Sem Value)} {Q : Value → Shared → Prop} (hplain : args.any (·.1) = false)
    (h : wpAny M A (evalArgs (.ref a) true args []) (fun x s₁ => (s₁.heap.get? a = some o ∧ o.data = .func fd) ∧ wpC M A (call (.ref a) (first ++ x.pos) x.kw) Q E s₁) E s) : wpC M A (callWith pos (.ref a) first args []) Q E s := by
  unfold callWith
  refine wpC_then (wpAny_holding (wpAny_mono h (fun x s₁ h₁ => wpC_then (wpAny_standAt ?_)) fun _ _ x => x))
  have tail : ∀ {t : Sem Value}, wpC M A t Q E s₁ → wpC M A (t >>= fun r => holding [r] point >>= fun _ => pure r) Q E s₁ :=
    fun ht => wpC_bind (wpC_mono ht (fun r s₂ hr => wpC_then (wpAny_holding (wpAny_point (wpC_pure hr)))) fun _ _ x => x)
  simp only [hplain, List.any_nil, Bool.or_false]
  refine wpC_bind (m := keeperOf (.ref a)) (wpC_any ?_)
  unfold keeperOf
  refine wpAny_bind (wpAny_load h₁.1.1 ?_)
  rw [h₁.1.2]
  refine wpAny_pure ?_
  dsimp only
  split
  · exact tail h₁.2
  · exact tail (by unfold callMarked; exact wpC_keep h₁.2)
theorem callWithC_type1 {pos : Pos} {T : String} {e : Expr} {rest : List Expr} {Q : Value → Shared → Prop}
    (h : wpAny M A (spliced (backTo pos (starEach (e :: rest) env))) (fun vs s₁ => wpC M A (call (.type T) vs) Q E s₁) E s)
    (he : starEach (e :: rest) env = (false, eval e env) :: starEach rest env := by rfl) (hplain : (backTo pos (starEach rest env)).any (·.1) = false := by rfl) :
    wpC M A (callWith pos (.type T) [] (backTo pos (starEach (e :: rest) env)) []) Q E s := by
  rw [he] at h ⊢
  exact callWithC_type (by show (false || (backTo pos (starEach rest env)).any (·.1)) = false; rw [hplain]; rfl) (evalArgs_plain h)
theorem callWithC_function1 {pos : Pos} {a : Addr} {o : Obj} {fd : FuncData} {e : Expr} {rest : List Expr} {Q : Value → Shared → Prop}
    (h : wpAny M A (spliced (backTo pos (starEach (e :: rest) env))) (fun vs s₁ => (s₁.heap.get? a = some o ∧ o.data = .func fd) ∧ wpC M A (call (.ref a) vs) Q E s₁) E s)
    (he : starEach (e :: rest) env = (false, eval e env) :: starEach rest env := by rfl) (hplain : (backTo pos (starEach rest env)).any (·.1) = false := by rfl) :
    wpC M A (callWith pos (.ref a) [] (backTo pos (starEach (e :: rest) env)) []) Q E s := by
  rw [he] at h ⊢
  exact callWithC_function (by show (false || (backTo pos (starEach rest env)).any (·.1)) = false; rw [hplain]; rfl) (evalArgs_plain h)
theorem callWithC_K {K : Frag} {h₀ : Heap} {pos : Pos} {a : Addr} {oc : Value} {od : Option Addr} {osl : Array (Option Value)} {fd : FuncData} {e : Expr} {rest : List Expr} {Q : Value → Shared → Prop} (_X : K.In h₀) (ho : K.lookup a = some ⟨oc, od, .func fd, osl⟩)
    (h : wpAny M A (spliced (backTo pos (starEach (e :: rest) env))) (fun vs s₁ => K.In s₁.heap ∧ wpC M A (call (.ref a) vs) Q E s₁) E s)
    (he : starEach (e :: rest) env = (false, eval e env) :: starEach rest env := by rfl) (hplain : (backTo pos (starEach rest env)).any (·.1) = false := by rfl) :
    wpC M A (callWith pos (.ref a) [] (backTo pos (starEach (e :: rest) env)) []) Q E s :=
  callWithC_function1 (o := ⟨oc, od, .func fd, osl⟩) (fd := fd) (wpAny_mono h (fun _ _ h' => ⟨⟨h'.1 _ _ ho, rfl⟩, h'.2⟩) fun _ _ x => x) he hplain
end
section
variable {prog : Program} {w : World} {A : Around} {E : Value → Shared → Prop} {s : Shared} {R : Result → Shared → Prop}
theorem codeC_func {body : List Stmt} {env : Env} (h : wpC (model prog w) (A.deeper env) (execs body env) (fun f s' => R (.ok (.ret (match f with | .ret v => v | _ => .none))) s') (fun _ _ => False) s) : codeC (model prog w) A (.func body env) R s := by
  refine codeC_tree rfl ?_
  show wpC _ (A.deeper env) (do point; match ← (execs body env).onRaise (leaving env) with | .ret v => ret v | _ => ret .none) _ _ s
  refine wpC_then (wpAny_point (wpC_bind (wpC_onRaise (wpC_mono h (fun f s' h' => ?_) fun _ _ h' => h'.elim))))
  cases f <;> exact wpC_pure h'
theorem codeC_call_function {a : Addr} {args : Args} {o : Obj} {fd : FuncData} {body : List Stmt} (hroom : A.depth < recursionLimit)
    (ho : s.heap.get? a = some o) (hd' : o.data = .func fd) (hco : fd.scope.isCoroutine = false) (hgen : fd.scope.isGenerator = false) (hbody : fd.body = .stmts body) (hcd : s.heap.CodeRec fd.code fd.qualname)
    (h : wpAny (model prog w) A.in1 (bindArgs fd args) (fun binds s₁ =>
      wpAny (model prog w) A.in1 (newFunctionEnv fd.scope fd.globals fd.closure binds (fd.qualname ++ ".<locals>.") (some a) fd.code none fd.builtins)
        (fun env s₂ => s₂.heap.NoLimit ∧ codeC (model prog w) A (.func body env) R s₂) (fun e s' => R (.error e) s') s₁) (fun e s' => R (.error e) s') s) :
    codeC (model prog w) A (.call (.ref a) args) R s := by
  refine codeC_tree rfl ?_
  rw [Around.under_plain rfl rfl]
  show wpC _ A.in1 (callAny (.ref a) args) _ _ s
  simp only [callAny]
  refine wpC_then (wpAny_load ho ?_)
  obtain ⟨c, oc, vs, tq, hc, hoc, hdc, hq⟩ := hcd
  simp only [hd', callFunction, hco, hgen, hbody, hc]
  rw [hc] at h
  refine wpC_then (m := field (.ref c) 1) (wpAny_field hoc hdc hq (wpC_then (wpAny_pure ?_)))
  exact wpC_then (wpAny_mono h (fun binds s₁ h₁ => wpC_then (wpAny_mono h₁ (fun env s₂ h₂ => wpC_then (wpAny_enterFrame h₂.1 hroom
    (wpC_pure (And.intro rfl h₂.2)))) fun _ _ h' => h')) fun _ _ h' => h')
end
theorem allLt_ne {d : Addr} : ∀ {l : List (Addr × Obj)}, AllLt d l → ∀ p ∈ l, p.1 ≠ d
  | [], _, _, hp => nomatch hp
  | q :: r, h, p, hp => by
    rcases List.mem_cons.mp hp with rfl | hp
    · exact Nat.ne_of_lt h.1
    · exact allLt_ne h.2 p hp
section
variable {prog : Program} {w : World} {A₀ A : Around} {s : Shared} {base h₀ : Heap} {outer : List Env} {L : Addr} {m : PySem.Str → Option Value} {env : Env} {news : List (Addr × Obj)} {K : Frag}
  {p : Program} {loose : List PySem.Str} {mean : ExcName → Option Value} {mg mb : PySem.Str → Option Value} {R : Result → Shared → Prop} {name qual : PySem.Str} {params : Arguments} {body : List Stmt} {scope : Scope} {dV kV doc pm cdv ct oc : Value} {an od : Option Addr} {osl : Array (Option Value)} {f : Addr} {args : Args} {binds : List (PySem.Str × Value)}
/-- a def is entered, over a clean stack -/
theorem codeC_def (B : Below A₀ base outer h₀) (F : Fr h₀ L s.heap m) (X₀ : K.In h₀) (N : News h₀ L s.heap news) (T : Top p loose mean mg mb h₀) (hA : A.frames = some (env :: outer)) (hf : env.frame = some L) (hke : env.scope.kind = .function)
    (ho : K.lookup f = some ⟨oc, od, .func (fnOf name qual params body scope dV kV doc pm an cdv ct), osl⟩) (hcd : codeIn K cdv qual = true) (hroom : A.depth < recursionLimit)
    (hbind : BindsTo s (fnOf name qual params body scope dV kV doc pm an cdv ct) args binds) (hloc : ∀ y ∈ binds, scope.names.lookup y.1 = some .local)
    (h : ∀ g L' h₁, Fr h₀ L g m → Fr g L' h₁ (fun y => binds.reverse.lookup y) → News g L' h₁ news → Below A base (env :: outer) g → K.In g → Top p loose mean mg mb g →
      wpC (model prog w) (A.deeper (envOf qual scope L' f cdv)) (execs body (envOf qual scope L' f cdv))
        (fun fl s' => LeaveK h₀ L m g R (match fl with | .ret v => v | _ => .none) s') (fun _ _ => False) { s with heap := h₁, toks := s.toks + binds.length })
    (hco : scope.isCoroutine = false) (hgen : scope.isGenerator = false) (hk : scope.kind = .function)
    (hcell : ∀ x ∈ scope.names, x.2 ≠ .cell) : codeC (model prog w) A (.call (.ref f) args) R s := by
  obtain ⟨FG, BG, st, lv⟩ := groundX (R := R) B F N hA hf hke
  refine codeC_call_function (fd := fnOf name qual params body scope dV kV doc pm an cdv ct) hroom ((X₀.keeps F.keep) _ _ ho) rfl hco hgen rfl (codeRec_of (X₀.keeps F.keep) hcd) (hbind _ _ _ _ ?_)
  refine wpAny_newFunctionEnv hcell hloc (fun h₁ hns hsb => ⟨(T.nolimit.keeps F.keep).fresh _ hsb, codeC_func ?_⟩) hk
  have hk₁ : ∀ b o, s.heap.get? b = some o → h₁.get? b = some o := fun b o e => hsb.extBut b o (Nat.ne_of_lt (Heap.lt_size e)) (Heap.get?_push_of_some _ e)
  exact wpC_mono (h _ s.heap.objs.size h₁ FG ⟨hns, fun b o e => hk₁ b o (of_hideAll _ e), Nat.le_of_eq (hideAll_size _ _)⟩
    (fun p hp => ⟨hk₁ _ _ (N p hp).1, Nat.ne_of_lt (Heap.lt_size (N p hp).1), hideAll_none _ (List.mem_map_of_mem hp)⟩) BG (X₀.keeps st) (T.keeps st)) (fun fl s' hl => lv _ _ hl) fun _ _ y => y
theorem unrEnd_head {h₀ : Heap} {L I : Addr} {it : Obj} {rest : (PySem.Str → Option Value) → List (Addr × Obj) → Prop} {s₁ : Shared} {h' : Heap} {tk : Nat} {m' : PySem.Str → Option Value} {news' : List (Addr × Obj)} (F : Fr h₀ L h' m') (N : News h₀ L h' ((I, it) :: news'))
    (off : AllLt I news') (r : rest m' news') : UnrEnd h₀ L s₁ I it rest { s₁ with heap := h', toks := tk } :=
  UnrEnd.intro F N news' (fun _ hp => hp) (allLt_ne off) r
theorem callC_baL {l : List UInt8} {n : Int} {t : Tok} {Q E : Value → Shared → Prop} (F : Fr h₀ L s.heap m) (N : News h₀ L s.heap news) (hn : 0 < n) (hm : n ≤ 16) (hl : List.replicate n.toNat 0 = l)
    (h : ∀ (D : Nat) h', Fr h₀ L h' m → News h₀ L h' ((D, baO l) :: news) → AllLt D news → Q (.ref D) { s with heap := h' }) : wpC (model prog w) A (call (.type "bytearray") [.int n t]) Q E s := by
  refine callC_bytearray hn hm ?_
  subst hl
  rw [show Array.replicate n.toNat (0 : UInt8) = (List.replicate n.toNat 0).toArray from by simp]
  exact h _ _ (F.push _) (N.push F _) (allLt_of fun p hp => Heap.lt_size (N p hp).1)
end
end Mine
end

section
open PySem PySem.W PyProof.Rows PySem.Calls
set_option maxRecDepth 100000
namespace Mine
/-- the claim's own def is entered, over a clean stack -/
theorem codeC_cellsN {prog : Program} {w : World} {A : Around} {R : Result → Shared → Prop} {s : Shared} {name : PySem.Str} {params : Arguments} {body : List Stmt} {scope : Scope}
    {pm cd doc : Value} {a : Addr} {o : Obj} {args : List Value} {binds : List (PySem.Str × Value)}
    (hroom : A.depth < recursionLimit) (ho : s.heap.get? a = some o) (hdata : o.data = .func (Calls.docDef name params body scope pm cd doc)) (hlim : s.heap.NoLimit) (hcd : s.heap.CodeRec cd name)
    (hbind : bindArgs (Calls.docDef name params body scope pm cd doc) ⟨args, []⟩ = pure binds)
    (hkind : ∀ x ∈ binds, scope.names.lookup x.1 = some .local ∨ (scope.names.lookup x.1 = some .cell ∧ ((cellsFrom (s.heap.objs.size + 1) scope.names []).lookup x.1).isSome = true))
    (hnd : ((cellsFrom 0 scope.names []).map (·.1)).Nodup)
    (h : ∀ h₁ tk cells, Fr s.heap s.heap.objs.size h₁ (bindL (envOfC name scope s.heap.objs.size a cd).kindOf binds fun _ => none) → News s.heap s.heap.objs.size h₁ cells →
      CellsAre (bindC (envOfC name scope s.heap.objs.size a cd).kindOf binds fun _ => none) (cellsFrom (s.heap.objs.size + 1) scope.names []) cells →
      wpC (model prog w) (A.deeper (envOfC name scope s.heap.objs.size a cd)) (execs body (envOfC name scope s.heap.objs.size a cd))
        (fun f s' => R (.ok (.ret (match f with | .ret v => v | _ => .none))) s') (fun _ _ => False) { s with heap := h₁, toks := tk })
    (hco : scope.isCoroutine = false := by rfl) (hgen : scope.isGenerator = false := by rfl) (hk : scope.kind = .function := by rfl) :
    codeC (model prog w) A (.call (.ref a) ⟨args, []⟩) R s := by
  refine codeC_call_function hroom ho hdata hco hgen rfl hcd (wpAny_of_eq hbind ?_)
  refine wpAny_newFunctionEnv_cells hk hkind fun env' he s' x => ?_
  subst he
  refine ⟨hlim.keeps x.toInCall.keep, codeC_func ?_⟩
  obtain ⟨h₁, tk, rfl, _⟩ := x.done
  obtain ⟨cells, N, Y⟩ := Cl.news (h₀ := s.heap) (Nat.le_refl _) fun n c hm => ⟨x.cell n c (lookup_of_mem_nodup (cellsFrom_names scope.names 0 (s.heap.objs.size + 1) [] [] rfl ▸ hnd) hm), x.above n c hm⟩
  exact h h₁ tk cells ⟨x.toInCall.ns, x.toInCall.keep, Nat.le_refl _⟩ N Y
end Mine
end

section
open PySem PySem.W PyProof.Rows PySem.Calls PySem.Spec
set_option Elab.async false
set_option maxRecDepth 100000
set_option maxHeartbeats 8000000
namespace Mine
theorem anew16 : True := by
  w_top off
  exact trivial
abbrev CtrC (w : World) (f : Addr) (vs : List Value) (pre : Led) (post : Value → Led → Prop) : Prop :=
  ∀ (dp un : Nat) (gd : Option (List Code)) (cn : PySem.Str) (cs : Scope) (a : Addr) (ccd : Value) (cl : List (PySem.Str × Addr)) (outer : List Env) (A₀ : Around) (base h₀ : Heap) (L : Addr) (m : PySem.Str → Option Value) (s : Shared) (Q E : Value → Shared → Prop) (mean : ExcName → Option Value) (mg mb : PySem.Str → Option Value),
    Below A₀ base outer h₀ → Fr h₀ L s.heap m → (hd.heap_39 w.params).In h₀ → News h₀ L s.heap pre → Top hd.view_39 (looseW hd.view_39 []) mean mg mb h₀ → cs.kind = .function → dp + 3 < recursionLimit → un + 24 < cLine →
    (∀ (v : Value) (led : Led) (h' : Heap) (tk' : Nat), post v led → Fr h₀ L h' m → News h₀ L h' led → Q v { s with heap := h', toks := tk' }) →
    wpC (model PySem.Challenge.rw_no0046_01.row.prog w) (ktrTop dp un gd cn cs L a ccd cl outer) (call (.ref f) vs) Q E s
/-- the octets of n, the lowest last -/
def octF : Nat → Int → List Int
  | 0, _ => []
  | k + 1, n => octF k (n.fdiv 256) ++ [n.fmod 256]
theorem news_tail {h₀ h : Heap} {L : Addr} {p : Addr × Obj} {news : Led} (N : News h₀ L h (p :: news)) : News h₀ L h news := fun q hq => N q (List.mem_cons_of_mem _ hq)
local macro_rules | `(tactic| walk_at "setItem ref int") => `(tactic| (k_here; k_dflt (refine' ba_setL ?F ?N ?a ?b ?c ?x ?y ?e ?U ?_; (case F => k_asm); (case N => k_asm); (case U => k_upd); (case a => decide); (case b => (simp only [List.length_cons, List.length_nil]; omega)); (case c => (simp only [List.length_cons, List.length_nil]; omega)); (case x => exact Int.fmod_nonneg_of_pos _ (by decide)); (case y => exact Int.fmod_lt_of_pos _ (by decide)); (case e => (simp only [Int.reduceToNat, List.set_cons_succ, List.set_cons_zero]; rfl)); k_whole); intro h' F' N'; (try k_sweep)))
local macro_rules | `(tactic| walk_at "call type:bytes") => `(tactic| (k_here; k_dflt (refine' call_ba_bytesL ?F ?N ?m ?b ?_; (case F => k_asm); (case N => k_asm); (case m => k_mem); (case b => (simp only [List.length_cons, List.length_nil]; omega)); k_whole); intro t' tk'; (try k_sweep)))
local macro_rules | `(tactic| walk_at "UnrEnd") => `(tactic| (refine unrEnd_head (by assumption) (by assumption) ?_ ?_; (· (repeat (first | exact trivial | (refine And.intro ?_ ?_; (· (try dsimp only); omega)))))))
theorem pw1 (w : World) (n : Int) (t1 t2 : Tok) (d0 d1 d2 : Nat) (o0 o1 o2 : Obj) (h1 : 0 ≤ n) (h2 : n < 256) :
    CtrC w 41 [.int n t1, .int 1 t2] [(d0, o0), (d1, o1), (d2, o2)] (fun v led => led = [(d0, o0), (d1, o1), (d2, o2)] ∧ ∃ t, v = .bytes (byteArr (octF 1 n)) t) := by
  intro dp un gd cn cs a ccd cl outer A₀ base h₀ L m s Q E mean mg mb B F X N T hk hd hu hret
  (refine wpC_call ?_; k_dflt (refine' codeC_def ?k1 ?k2 ?k3 ?k4 ?k5 ?kA ?kF ?kK ?k6 ?k7 ?k8 ?k9 ?kB ?_ ?c2 ?c3 ?c4 ?c5; (case kA => exact rfl); (case kF => exact rfl); (case kK => assumption); (case k1 => k_asm); (case k2 => k_asm); (case k3 => k_asm); (case k4 => k_asm); (case k5 => k_asm); (case k6 => k_is); (case k7 => k_is); (case k8 => ktr_room); (case k9 => exact BindsTo.of_eq rfl); (case c5 => decide); (case kB => exact locs rfl); (case c2 => exact rfl); (case c3 => exact rfl); (case c4 => exact rfl); k_whole; intro g' L' h' FG' F' N' B' X' T'; (try dsimp only); (try k_lift B'); (try k_fold)))
  refine wpC_execs_cons (wpC_any ?_)
  k_steps
  · exfalso
    rename_i hz
    refine hz ?_
    show n.fdiv 256 = 0
    rw [Int.fdiv_eq_ediv_of_nonneg _ (by decide)]
    omega
  show wpC _ _ (execs _ _) _ _ _
  refine wpC_execs_cons (wpC_Assign_Name (wpC_Call_Name ?_) (by with_unfolding_all rfl))
  k_steps
  with_unfolding_all refine callWithC_type1 ?_
  k_steps
  refine callC_baL (l := [0]) (by assumption) (by assumption) (by decide) (by decide) rfl ?_
  intro D hD FD ND lD
  obtain ⟨q0, q1, q2, -⟩ := lD
  dsimp only at q0 q1 q2
  k_steps
  refine wpC_any ?_
  dsimp only
  k_steps
  (rename News h₀ L _ _ => N9)
  exact hret _ _ _ _ ⟨rfl, _, rfl⟩ (by assumption) (news_tail N9)
theorem pw2 (w : World) (n : Int) (t1 t2 : Tok) (d0 d1 d2 : Nat) (o0 o1 o2 : Obj) (h1 : 0 ≤ n) (h2 : n < 65536) :
    CtrC w 41 [.int n t1, .int 2 t2] [(d0, o0), (d1, o1), (d2, o2)] (fun v led => led = [(d0, o0), (d1, o1), (d2, o2)] ∧ ∃ t, v = .bytes (byteArr (octF 2 n)) t) := by
  intro dp un gd cn cs a ccd cl outer A₀ base h₀ L m s Q E mean mg mb B F X N T hk hd hu hret
  (refine wpC_call ?_; k_dflt (refine' codeC_def ?k1 ?k2 ?k3 ?k4 ?k5 ?kA ?kF ?kK ?k6 ?k7 ?k8 ?k9 ?kB ?_ ?c2 ?c3 ?c4 ?c5; (case kA => exact rfl); (case kF => exact rfl); (case kK => assumption); (case k1 => k_asm); (case k2 => k_asm); (case k3 => k_asm); (case k4 => k_asm); (case k5 => k_asm); (case k6 => k_is); (case k7 => k_is); (case k8 => ktr_room); (case k9 => exact BindsTo.of_eq rfl); (case c5 => decide); (case kB => exact locs rfl); (case c2 => exact rfl); (case c3 => exact rfl); (case c4 => exact rfl); k_whole; intro g' L' h' FG' F' N' B' X' T'; (try dsimp only); (try k_lift B'); (try k_fold)))
  refine wpC_execs_cons (wpC_any ?_)
  k_steps
  · exfalso
    rename_i hz
    refine hz ?_
    show n.fdiv 65536 = 0
    rw [Int.fdiv_eq_ediv_of_nonneg _ (by decide)]
    omega
  show wpC _ _ (execs _ _) _ _ _
  refine wpC_execs_cons (wpC_Assign_Name (wpC_Call_Name ?_) (by with_unfolding_all rfl))
  k_steps
  with_unfolding_all refine callWithC_type1 ?_
  k_steps
  refine callC_baL (l := [0, 0]) (by assumption) (by assumption) (by decide) (by decide) rfl ?_
  intro D hD FD ND lD
  obtain ⟨q0, q1, q2, -⟩ := lD
  dsimp only at q0 q1 q2
  k_steps
  refine wpC_any ?_
  dsimp only
  k_steps
  (rename News h₀ L _ _ => N9)
  exact hret _ _ _ _ ⟨rfl, _, rfl⟩ (by assumption) (news_tail N9)
theorem pw3 (w : World) (n : Int) (t1 t2 : Tok) (d0 d1 d2 : Nat) (o0 o1 o2 : Obj) (h1 : 0 ≤ n) (h2 : n < 16777216) :
    CtrC w 41 [.int n t1, .int 3 t2] [(d0, o0), (d1, o1), (d2, o2)] (fun v led => led = [(d0, o0), (d1, o1), (d2, o2)] ∧ ∃ t, v = .bytes (byteArr (octF 3 n)) t) := by
  intro dp un gd cn cs a ccd cl outer A₀ base h₀ L m s Q E mean mg mb B F X N T hk hd hu hret
  (refine wpC_call ?_; k_dflt (refine' codeC_def ?k1 ?k2 ?k3 ?k4 ?k5 ?kA ?kF ?kK ?k6 ?k7 ?k8 ?k9 ?kB ?_ ?c2 ?c3 ?c4 ?c5; (case kA => exact rfl); (case kF => exact rfl); (case kK => assumption); (case k1 => k_asm); (case k2 => k_asm); (case k3 => k_asm); (case k4 => k_asm); (case k5 => k_asm); (case k6 => k_is); (case k7 => k_is); (case k8 => ktr_room); (case k9 => exact BindsTo.of_eq rfl); (case c5 => decide); (case kB => exact locs rfl); (case c2 => exact rfl); (case c3 => exact rfl); (case c4 => exact rfl); k_whole; intro g' L' h' FG' F' N' B' X' T'; (try dsimp only); (try k_lift B'); (try k_fold)))
  refine wpC_execs_cons (wpC_any ?_)
  k_steps
  · exfalso
    rename_i hz
    refine hz ?_
    show n.fdiv 16777216 = 0
    rw [Int.fdiv_eq_ediv_of_nonneg _ (by decide)]
    omega
  show wpC _ _ (execs _ _) _ _ _
  refine wpC_execs_cons (wpC_Assign_Name (wpC_Call_Name ?_) (by with_unfolding_all rfl))
  k_steps
  with_unfolding_all refine callWithC_type1 ?_
  k_steps
  refine callC_baL (l := [0, 0, 0]) (by assumption) (by assumption) (by decide) (by decide) rfl ?_
  intro D hD FD ND lD
  obtain ⟨q0, q1, q2, -⟩ := lD
  dsimp only at q0 q1 q2
  k_steps
  refine wpC_any ?_
  dsimp only
  k_steps
  (rename News h₀ L _ _ => N9)
  exact hret _ _ _ _ ⟨rfl, _, rfl⟩ (by assumption) (news_tail N9)
theorem pw4 (w : World) (n : Int) (t1 t2 : Tok) (d0 d1 d2 : Nat) (o0 o1 o2 : Obj) (h1 : 0 ≤ n) (h2 : n < 4294967296) :
    CtrC w 41 [.int n t1, .int 4 t2] [(d0, o0), (d1, o1), (d2, o2)] (fun v led => led = [(d0, o0), (d1, o1), (d2, o2)] ∧ ∃ t, v = .bytes (byteArr (octF 4 n)) t) := by
  intro dp un gd cn cs a ccd cl outer A₀ base h₀ L m s Q E mean mg mb B F X N T hk hd hu hret
  (refine wpC_call ?_; k_dflt (refine' codeC_def ?k1 ?k2 ?k3 ?k4 ?k5 ?kA ?kF ?kK ?k6 ?k7 ?k8 ?k9 ?kB ?_ ?c2 ?c3 ?c4 ?c5; (case kA => exact rfl); (case kF => exact rfl); (case kK => assumption); (case k1 => k_asm); (case k2 => k_asm); (case k3 => k_asm); (case k4 => k_asm); (case k5 => k_asm); (case k6 => k_is); (case k7 => k_is); (case k8 => ktr_room); (case k9 => exact BindsTo.of_eq rfl); (case c5 => decide); (case kB => exact locs rfl); (case c2 => exact rfl); (case c3 => exact rfl); (case c4 => exact rfl); k_whole; intro g' L' h' FG' F' N' B' X' T'; (try dsimp only); (try k_lift B'); (try k_fold)))
  refine wpC_execs_cons (wpC_any ?_)
  k_steps
  · exfalso
    rename_i hz
    refine hz ?_
    show n.fdiv 4294967296 = 0
    rw [Int.fdiv_eq_ediv_of_nonneg _ (by decide)]
    omega
  show wpC _ _ (execs _ _) _ _ _
  refine wpC_execs_cons (wpC_Assign_Name (wpC_Call_Name ?_) (by with_unfolding_all rfl))
  k_steps
  with_unfolding_all refine callWithC_type1 ?_
  k_steps
  refine callC_baL (l := [0, 0, 0, 0]) (by assumption) (by assumption) (by decide) (by decide) rfl ?_
  intro D hD FD ND lD
  obtain ⟨q0, q1, q2, -⟩ := lD
  dsimp only at q0 q1 q2
  k_steps
  refine wpC_any ?_
  dsimp only
  k_steps
  (rename News h₀ L _ _ => N9)
  exact hret _ _ _ _ ⟨rfl, _, rfl⟩ (by assumption) (news_tail N9)
end Mine
end

section
open PySem PySem.W PyProof.Rows PySem.Calls PySem.Spec
set_option Elab.async false
set_option maxRecDepth 100000
set_option maxHeartbeats 8000000
namespace Mine
theorem anew17 : True := by
  w_top off
  exact trivial
theorem news_tail' {h₀ h : Heap} {L : Addr} {p : Addr × Obj} {news : Led} (N : News h₀ L h (p :: news)) : News h₀ L h news := fun q hq => N q (List.mem_cons_of_mem _ hq)
def SizeIs (g z : Int) : Prop := (z = 1 ∧ 2 * g ≤ 256) ∨ (z = 2 ∧ 256 < 2 * g ∧ 2 * g ≤ 65536) ∨ (z = 3 ∧ 65536 < 2 * g ∧ 2 * g ≤ 16777216) ∨ (z = 4 ∧ 16777216 < 2 * g ∧ 2 * g ≤ 4294967296)
local macro_rules | `(tactic| walk_at "call type:range") => `(tactic| (k_here; (fail_if_success (with_reducible show wpAny _ _ (call (Value.type "range") [Value.int 1 _, Value.int 5 _]) _ _ _)); (with_unfolding_all show wpAny _ _ (call (Value.type "range") [Value.int 1 _, Value.int 5 _]) _ _ _)))
theorem ns_none (w : World) (full : Int) (t1 : Tok) (d0 d1 d2 : Nat) (o0 o1 o2 : Obj) (h1 : 0 ≤ full) (h2 : full < 2147483648) :
    Ctr w 48 [.int full t1, .none] [(d0, o0), (d1, o1), (d2, o2)] (fun v led => led = [(d0, o0), (d1, o1), (d2, o2)] ∧ ∃ z t, v = .int z t ∧ SizeIs (full + 1) z) := by
  intro dp un gd cn cs a ccd cl outer A₀ base h₀ L m s Q E mean mg mb B F X N T hk hd hu hret
  (refine wpAny_call ?_; k_dflt (first
    | cell_enter
    | (refine' code_defC ?k1 ?k2 ?k3 ?k4 ?k5 ?kA ?kF ?kK ?k6 ?k7 ?k8 ?k9 ?kB ?kD ?_ ?c2 ?c3 ?c4; (case kA => exact rfl); (case kF => exact rfl); (case kK => first | exact rfl | assumption); (case k1 => k_asm); (case k2 => k_asm); (case k3 => k_asm); (case k4 => k_asm); (case k5 => k_asm); (case k6 => k_is); (case k7 => k_is); (case k8 => ktr_room); (case k9 => first | exact BindsTo.of_eq rfl | exact binds_K (by k_in) rfl (by k_is) rfl rfl rfl); (case kB => exact rfl); (case kD => decide +kernel); (case c2 => exact rfl); (case c3 => exact rfl); (case c4 => exact rfl); k_whole; intro g' L' h' tk' cells' FG' F' N' Y' B' X' T' lq1; (try k_lt lq1); k_cells Y'; (try simp only [List.cons_append, List.nil_append] at N'); (try dsimp only); (try k_lift B'); (try k_fold))))
  k_steps
  · (rename News h₀ L _ _ => N9)
    exact hret _ _ _ _ ⟨rfl, 1, _, rfl, .inl ⟨rfl, (by assumption : 2 * (full + 1) ≤ 256)⟩⟩ (by assumption) (news_tail' N9)
  · (rename News h₀ L _ _ => N9)
    exact hret _ _ _ _ ⟨rfl, 2, _, rfl, .inr (.inl ⟨rfl, Int.not_le.mp (by assumption : ¬ 2 * (full + 1) ≤ 256), (by assumption : 2 * (full + 1) ≤ 65536)⟩)⟩ (by assumption) (news_tail' N9)
  · (rename News h₀ L _ _ => N9)
    exact hret _ _ _ _ ⟨rfl, 3, _, rfl, .inr (.inr (.inl ⟨rfl, Int.not_le.mp (by assumption : ¬ 2 * (full + 1) ≤ 65536), (by assumption : 2 * (full + 1) ≤ 16777216)⟩))⟩ (by assumption) (news_tail' N9)
  · (rename News h₀ L _ _ => N9)
    exact hret _ _ _ _ ⟨rfl, 4, _, rfl, .inr (.inr (.inr ⟨rfl, Int.not_le.mp (by assumption : ¬ 2 * (full + 1) ≤ 16777216), (by assumption : 2 * (full + 1) ≤ 4294967296)⟩))⟩ (by assumption) (news_tail' N9)
  · exact absurd (by omega : 2 * (full + 1) ≤ 4294967296) (by assumption : ¬ 2 * (full + 1) ≤ 4294967296)
theorem ns_some (w : World) (full acked : Int) (t1 t2 : Tok) (d0 d1 d2 : Nat) (o0 o1 o2 : Obj) (h1 : 0 ≤ full) (h2 : acked + 1 ≤ full) (h3 : full ≤ acked + 2147483648) :
    Ctr w 48 [.int full t1, .int acked t2] [(d0, o0), (d1, o1), (d2, o2)] (fun v led => led = [(d0, o0), (d1, o1), (d2, o2)] ∧ ∃ z t, v = .int z t ∧ SizeIs (full - acked) z) := by
  intro dp un gd cn cs a ccd cl outer A₀ base h₀ L m s Q E mean mg mb B F X N T hk hd hu hret
  (refine wpAny_call ?_; k_dflt (first
    | cell_enter
    | (refine' code_defC ?k1 ?k2 ?k3 ?k4 ?k5 ?kA ?kF ?kK ?k6 ?k7 ?k8 ?k9 ?kB ?kD ?_ ?c2 ?c3 ?c4; (case kA => exact rfl); (case kF => exact rfl); (case kK => first | exact rfl | assumption); (case k1 => k_asm); (case k2 => k_asm); (case k3 => k_asm); (case k4 => k_asm); (case k5 => k_asm); (case k6 => k_is); (case k7 => k_is); (case k8 => ktr_room); (case k9 => first | exact BindsTo.of_eq rfl | exact binds_K (by k_in) rfl (by k_is) rfl rfl rfl); (case kB => exact rfl); (case kD => decide +kernel); (case c2 => exact rfl); (case c3 => exact rfl); (case c4 => exact rfl); k_whole; intro g' L' h' tk' cells' FG' F' N' Y' B' X' T' lq1; (try k_lt lq1); k_cells Y'; (try simp only [List.cons_append, List.nil_append] at N'); (try dsimp only); (try k_lift B'); (try k_fold))))
  k_steps
  · (rename News h₀ L _ _ => N9)
    exact hret _ _ _ _ ⟨rfl, 1, _, rfl, .inl ⟨rfl, (by assumption : 2 * (full - acked) ≤ 256)⟩⟩ (by assumption) (news_tail' N9)
  · (rename News h₀ L _ _ => N9)
    exact hret _ _ _ _ ⟨rfl, 2, _, rfl, .inr (.inl ⟨rfl, Int.not_le.mp (by assumption : ¬ 2 * (full - acked) ≤ 256), (by assumption : 2 * (full - acked) ≤ 65536)⟩)⟩ (by assumption) (news_tail' N9)
  · (rename News h₀ L _ _ => N9)
    exact hret _ _ _ _ ⟨rfl, 3, _, rfl, .inr (.inr (.inl ⟨rfl, Int.not_le.mp (by assumption : ¬ 2 * (full - acked) ≤ 65536), (by assumption : 2 * (full - acked) ≤ 16777216)⟩))⟩ (by assumption) (news_tail' N9)
  · (rename News h₀ L _ _ => N9)
    exact hret _ _ _ _ ⟨rfl, 4, _, rfl, .inr (.inr (.inr ⟨rfl, Int.not_le.mp (by assumption : ¬ 2 * (full - acked) ≤ 16777216), (by assumption : 2 * (full - acked) ≤ 4294967296)⟩))⟩ (by assumption) (news_tail' N9)
  · exact absurd (by omega : 2 * (full - acked) ≤ 4294967296) (by assumption : ¬ 2 * (full - acked) ≤ 4294967296)
end Mine
end

section
open PySem PySem.W PyProof.Rows PySem.Calls PySem.Spec
set_option Elab.async false
set_option maxRecDepth 100000
set_option maxHeartbeats 8000000
set_option linter.unusedVariables false
namespace Mine
/-- what is asked of the window -/
structure Win (z W h : Int) : Prop where
  lo : 1 ≤ z
  hi : z ≤ 4
  pow : (256 : Int) ^ z.toNat = W
  two : W = 2 * h
  big : 256 ≤ W
  small : W ≤ 4294967296
theorem Win.py {z W h : Int} (x : Win z W h) (a : Int) : Builtin.divisionGoesByPylong a W = false := by
  refine PyProof.noPylong_of_log2 ?_
  have h1 := x.big
  have h2 := x.small
  have h3 : W.natAbs ≠ 0 := by omega
  have h4 : W.natAbs.log2 < 40 := (Nat.log2_lt h3).mpr (by omega)
  omega
theorem Win.all {z : Int} (h1 : 1 ≤ z) (h2 : z ≤ 4) : ∃ W h, Win z W h ∧ ((z = 1 ∧ W = 256 ∧ h = 128) ∨ (z = 2 ∧ W = 65536 ∧ h = 32768) ∨ (z = 3 ∧ W = 16777216 ∧ h = 8388608) ∨ (z = 4 ∧ W = 4294967296 ∧ h = 2147483648)) := by
  have : z = 1 ∨ z = 2 ∨ z = 3 ∨ z = 4 := by omega
  rcases this with rfl | rfl | rfl | rfl
  · exact ⟨256, 128, ⟨by decide, by decide, by decide, by decide, by decide, by decide⟩, .inl ⟨rfl, rfl, rfl⟩⟩
  · exact ⟨65536, 32768, ⟨by decide, by decide, by decide, by decide, by decide, by decide⟩, .inr (.inl ⟨rfl, rfl, rfl⟩)⟩
  · exact ⟨16777216, 8388608, ⟨by decide, by decide, by decide, by decide, by decide, by decide⟩, .inr (.inr (.inl ⟨rfl, rfl, rfl⟩))⟩
  · exact ⟨4294967296, 2147483648, ⟨by decide, by decide, by decide, by decide, by decide, by decide⟩, .inr (.inr (.inr ⟨rfl, rfl, rfl⟩))⟩
theorem pow_62 {prog : Program} {w : World} {A : Around} {E : Value → Shared → Prop} {s : Shared} {t u : Tok} {Q : Value → Shared → Prop} (h : Q (.int 4611686018427387904 s.toks) { s with toks := s.toks + 1 }) : wpAny (model prog w) A (binaryOp .Pow (.int 2 t) (.int 62 u)) Q E s :=
  pow_int (by decide) (by decide +kernel) ((by decide : (2 : Int) ^ (62 : Int).toNat = 4611686018427387904).symm ▸ h)
theorem pow_W {prog : Program} {w : World} {A : Around} {E : Value → Shared → Prop} {s : Shared} {z W h : Int} {t u : Tok} {Q : Value → Shared → Prop} (x : Win z W h) (hq : Q (.int W s.toks) { s with toks := s.toks + 1 }) : wpAny (model prog w) A (binaryOp .Pow (.int 256 t) (.int z u)) Q E s := by
  have h1 := x.lo
  have h2 := x.hi
  refine pow_int (by omega) ?_ (x.pow.symm ▸ hq)
  have : Builtin.Int.intBits 256 = 9 := by decide +kernel
  rw [this]; omega
theorem Win.shl {z W h : Int} (x : Win z W h) : 1 * (2 : Int) ^ (8 * z).toNat = W := by
  have h1 := x.lo
  have h2 := x.hi
  rw [← x.pow]
  have : z = 1 ∨ z = 2 ∨ z = 3 ∨ z = 4 := by omega
  rcases this with rfl | rfl | rfl | rfl <;> decide
theorem Win.half {z W h : Int} (x : Win z W h) : W.fdiv 2 = h := by
  have := x.two
  rw [Int.fdiv_eq_ediv_of_nonneg _ (by decide)]; omega
section
variable {prog : Program} {w : World} {A : Around} {E : Value → Shared → Prop} {s : Shared} {t u : Tok} {Q : Value → Shared → Prop}
theorem shl_W {z W h : Int} (x : Win z W h) (hq : Q (.int W s.toks) { s with toks := s.toks + 1 }) : wpAny (model prog w) A (binaryOp .LShift (.int 1 t) (.int (8 * z) u)) Q E s := by
  have h1 := x.lo
  have h2 := x.hi
  refine lshift_int (by omega) ?_ (x.shl.symm ▸ hq)
  have : Builtin.Int.intBits 1 = 1 := by decide +kernel
  rw [this]; omega
theorem shl_62 (hq : Q (.int 4611686018427387904 s.toks) { s with toks := s.toks + 1 }) : wpAny (model prog w) A (binaryOp .LShift (.int 1 t) (.int 62 u)) Q E s :=
  lshift_int (by decide) (by decide +kernel) ((by decide : 1 * (2 : Int) ^ (62 : Int).toNat = 4611686018427387904).symm ▸ hq)
theorem half_W {z W h : Int} (x : Win z W h) (hq : Q (.int h s.toks) { s with toks := s.toks + 1 }) : wpAny (model prog w) A (binaryOp .FloorDiv (.int W t) (.int 2 u)) Q E s :=
  floordiv_int (by decide) (x.half.symm ▸ hq) (Or.inl (PyProof.noPylong_of_log2 (by decide +kernel)))
end
end Mine
end

section
open PySem PySem.W PyProof.Rows PySem.Calls PySem.Spec
set_option Elab.async false
set_option maxRecDepth 100000
set_option maxHeartbeats 8000000
set_option linter.unusedVariables false
namespace Mine
theorem anew19 : True := by
  w_top off
  exact trivial
/-- what restore_number gives, of the window W, its half h, the expected number e -/
def restF (W h e told : Int) : Int :=
  if e.fdiv W * W + told ≤ e - h ∧ e.fdiv W * W + told < 4611686018427387904 - W then e.fdiv W * W + told + W else if e + h < e.fdiv W * W + told ∧ W ≤ e.fdiv W * W + told then e.fdiv W * W + told - W else e.fdiv W * W + told
section
variable {W h e told : Int}
theorem restA (a : e.fdiv W * W + told ≤ e - h) (b : e.fdiv W * W + told < 4611686018427387904 - W) : e.fdiv W * W + told + W = restF W h e told := by
  unfold restF; rw [if_pos ⟨a, b⟩]
theorem restB {x : Int} (a : e.fdiv W * W + told ≤ e - h) (b : e + h < e.fdiv W * W + told) (hh : 0 < h) : x = restF W h e told := absurd a (by omega)
theorem restC (a : ¬ e.fdiv W * W + told < 4611686018427387904 - W) (b : ¬ e + h < e.fdiv W * W + told) : e.fdiv W * W + told = restF W h e told := by
  unfold restF; rw [if_neg fun q => a q.2, if_neg fun q => b q.1]
theorem restD (a : ¬ e.fdiv W * W + told ≤ e - h) (b : e + h < e.fdiv W * W + told) (c : W ≤ e.fdiv W * W + told) : e.fdiv W * W + told - W = restF W h e told := by
  unfold restF; rw [if_neg fun q => a q.1, if_pos ⟨b, c⟩]
theorem restE (a : ¬ e.fdiv W * W + told ≤ e - h) (c : ¬ W ≤ e.fdiv W * W + told) : e.fdiv W * W + told = restF W h e told := by
  unfold restF; rw [if_neg fun q => a q.1, if_neg fun q => c q.2]
theorem restG (a : ¬ e.fdiv W * W + told ≤ e - h) (b : ¬ e + h < e.fdiv W * W + told) : e.fdiv W * W + told = restF W h e told := by
  unfold restF; rw [if_neg fun q => a q.1, if_neg fun q => b q.1]
end
local macro_rules | `(tactic| walk_at "binaryOp LShift int int") => `(tactic| (k_here; (with_reducible refine shl_62 ?_)))
local macro_rules | `(tactic| walk_at "binaryOp LShift int int") => `(tactic| (k_here; (with_reducible refine shl_W (by assumption) ?_)))
local macro_rules | `(tactic| walk_at "binaryOp FloorDiv int int") => `(tactic| (k_here; (rename Win _ _ _ => wi9); (with_reducible refine floordiv_int ?kbe ?_ (Or.inl (Win.py wi9 _))); (case kbe => omega)))
local macro_rules | `(tactic| walk_at "binaryOp FloorDiv int int") => `(tactic| (k_here; (rename Win _ _ _ => wi9); (with_reducible refine half_W wi9 ?_)))
theorem rs_some (w : World) (told z seen W h : Int) (t1 t2 t3 : Tok) (pre : Led) (x : Win z W h) (h1 : 0 ≤ told) (h2 : told < W) (h3 : 0 ≤ seen) (h4 : seen < 4611686018427387904) :
    Ctr w 62 [.int told t1, .int z t2, .int seen t3] pre (fun v led => led = pre ∧ ∃ t, v = .int (restF W h (seen + 1) told) t) := by
  intro dp un gd cn cs a ccd cl outer A₀ base h₀ L m s Q E mean mg mb B F X N T hk hd hu hret
  have w1 := x.two
  have w2 := x.big
  have w3 := x.small
  (refine wpAny_call ?_; k_dflt (first
    | cell_enter
    | (refine' code_defC ?k1 ?k2 ?k3 ?k4 ?k5 ?kA ?kF ?kK ?k6 ?k7 ?k8 ?k9 ?kB ?kD ?_ ?c2 ?c3 ?c4; (case kA => exact rfl); (case kF => exact rfl); (case kK => first | exact rfl | assumption); (case k1 => k_asm); (case k2 => k_asm); (case k3 => k_asm); (case k4 => k_asm); (case k5 => k_asm); (case k6 => k_is); (case k7 => k_is); (case k8 => ktr_room); (case k9 => first | exact BindsTo.of_eq rfl | exact binds_K (by k_in) rfl (by k_is) rfl rfl rfl); (case kB => exact rfl); (case kD => decide +kernel); (case c2 => exact rfl); (case c3 => exact rfl); (case c4 => exact rfl); k_whole; intro g' L' h' tk' cells' FG' F' N' Y' B' X' T' lq1; (try k_lt lq1); k_cells Y'; (try simp only [List.cons_append, List.nil_append] at N'); (try dsimp only); (try k_lift B'); (try k_fold))))
  k_steps
  all_goals (refine hret _ _ _ _ ⟨rfl, _, congrArg (fun x => Value.int x _) ?_⟩ (by assumption) (by assumption))
  all_goals (first
    | exact restA (by assumption) (by assumption)
    | exact restB (by assumption) (by assumption) (by omega)
    | exact restC (by assumption) (by assumption)
    | exact restD (by assumption) (by assumption) (by assumption)
    | exact restE (by assumption) (by assumption)
    | exact restG (by assumption) (by assumption)
    | (unfold restF; (repeat' split) <;> omega))
theorem rs_none (w : World) (told z W h : Int) (t1 t2 : Tok) (pre : Led) (x : Win z W h) (h1 : 0 ≤ told) (h2 : told < W) :
    Ctr w 62 [.int told t1, .int z t2, .none] pre (fun v led => led = pre ∧ ∃ t, v = .int (restF W h 0 told) t) := by
  intro dp un gd cn cs a ccd cl outer A₀ base h₀ L m s Q E mean mg mb B F X N T hk hd hu hret
  have w1 := x.two
  have w2 := x.big
  have w3 := x.small
  (refine wpAny_call ?_; k_dflt (first
    | cell_enter
    | (refine' code_defC ?k1 ?k2 ?k3 ?k4 ?k5 ?kA ?kF ?kK ?k6 ?k7 ?k8 ?k9 ?kB ?kD ?_ ?c2 ?c3 ?c4; (case kA => exact rfl); (case kF => exact rfl); (case kK => first | exact rfl | assumption); (case k1 => k_asm); (case k2 => k_asm); (case k3 => k_asm); (case k4 => k_asm); (case k5 => k_asm); (case k6 => k_is); (case k7 => k_is); (case k8 => ktr_room); (case k9 => first | exact BindsTo.of_eq rfl | exact binds_K (by k_in) rfl (by k_is) rfl rfl rfl); (case kB => exact rfl); (case kD => decide +kernel); (case c2 => exact rfl); (case c3 => exact rfl); (case c4 => exact rfl); k_whole; intro g' L' h' tk' cells' FG' F' N' Y' B' X' T' lq1; (try k_lt lq1); k_cells Y'; (try simp only [List.cons_append, List.nil_append] at N'); (try dsimp only); (try k_lift B'); (try k_fold))))
  k_steps
  all_goals (refine hret _ _ _ _ ⟨rfl, _, congrArg (fun x => Value.int x _) ?_⟩ (by assumption) (by assumption))
  all_goals (first
    | exact restA (by assumption) (by assumption)
    | exact restB (by assumption) (by assumption) (by omega)
    | exact restC (by assumption) (by assumption)
    | exact restD (by assumption) (by assumption) (by assumption)
    | exact restE (by assumption) (by assumption)
    | exact restG (by assumption) (by assumption)
    | (unfold restF; (repeat' split) <;> omega))
end Mine
end

section
open PySem PySem.W PyProof.Rows PySem.Calls PySem.Spec
set_option Elab.async false
set_option maxRecDepth 100000
set_option maxHeartbeats 8000000
set_option linter.unusedSimpArgs false
set_option linter.unusedVariables false
namespace Mine
theorem anew20 : True := by
  w_top off
  exact trivial
theorem noPy256 {x : Int} {j : Nat} (h : j ≤ 1000) : Builtin.divisionGoesByPylong x ((256 : Int) ^ j) = false := by
  refine PyProof.noPylong_of_log2 ?_
  rw [Int.natAbs_pow]
  show (256 ^ j : Nat).log2 < 9000
  rw [Nat.log2_lt (Nat.ne_of_gt (Nat.pow_pos (by decide))), show (256 : Nat) = 2 ^ 8 from rfl, ← Nat.pow_mul]
  exact Nat.pow_lt_pow_right (by decide) (by omega)
theorem oc_pow0 {k c : Int} (hc : 0 ≤ c) (h : k < 0 + ((c - 0).toNat : Int)) : 0 ≤ c - 1 - k := by omega
theorem oc_pow1 {k c : Int} (hk : 0 ≤ k) (hc : c ≤ 4) : (Builtin.Int.intBits 256 : Int) * (c - 1 - k) ≤ 2 ^ 27 := by
  rw [show Builtin.Int.intBits 256 = 9 from by decide +kernel]; omega
theorem oc_pow2 {k c : Int} (hk : 0 ≤ k) (hc : c ≤ 4) : (c - 1 - k).toNat ≤ 1000 := by omega
local macro_rules | `(tactic| walk_at "binaryOp Pow int int") => `(tactic| (k_here; (with_reducible refine pow_int ?kb1 ?kb2 ?_); (case kb1 => exact oc_pow0 (by decide) (by assumption)); (case kb2 => exact oc_pow1 (by assumption) (by decide))))
local macro_rules | `(tactic| walk_at "binaryOp FloorDiv int int") => `(tactic| (k_here; (with_reducible refine floordiv_int ?kbe ?_ (Or.inl (noPy256 ?kbp))); (case kbe => exact Int.ne_of_gt (Int.pow_pos (by decide))); (case kbp => exact oc_pow2 (by assumption) (by decide))))
theorem oc_eq1 (n : Int) (h : 0 ≤ n) : [(n.fdiv 1).fmod 256] = octF 1 n := by
  show _ = [n.fmod 256]
  simp only [Int.fdiv_eq_ediv_of_nonneg _ (by decide : (0 : Int) ≤ 256), Int.fdiv_eq_ediv_of_nonneg _ (by decide : (0 : Int) ≤ 65536), Int.fdiv_eq_ediv_of_nonneg _ (by decide : (0 : Int) ≤ 16777216), Int.fdiv_eq_ediv_of_nonneg _ (by decide : (0 : Int) ≤ 1), Int.ediv_one, Int.ediv_ediv_of_nonneg (by decide : (0 : Int) ≤ 256), Int.ediv_ediv_of_nonneg (by decide : (0 : Int) ≤ 65536), Int.reduceMul]
theorem oc1 (w : World) (n : Int) (t1 t2 : Tok) (d0 d1 d2 : Nat) (o0 o1 o2 : Obj) (h1 : 0 ≤ n) :
    Ctr w 79 [.int n t1, .int 1 t2] [(d0, o0), (d1, o1), (d2, o2)] (fun v led => led = [(d0, o0), (d1, o1), (d2, o2)] ∧ ∃ t, v = .bytes (byteArr (octF 1 n)) t) := by
  intro dp un gd cn cs a ccd cl outer A₀ base h₀ L m s Q E mean mg mb B F X N T hk hd hu hret
  (refine wpAny_call ?_; k_dflt (first
    | cell_enter
    | (refine' code_defC ?k1 ?k2 ?k3 ?k4 ?k5 ?kA ?kF ?kK ?k6 ?k7 ?k8 ?k9 ?kB ?kD ?_ ?c2 ?c3 ?c4; (case kA => exact rfl); (case kF => exact rfl); (case kK => first | exact rfl | assumption); (case k1 => k_asm); (case k2 => k_asm); (case k3 => k_asm); (case k4 => k_asm); (case k5 => k_asm); (case k6 => k_is); (case k7 => k_is); (case k8 => ktr_room); (case k9 => first | exact BindsTo.of_eq rfl | exact binds_K (by k_in) rfl (by k_is) rfl rfl rfl); (case kB => exact rfl); (case kD => decide +kernel); (case c2 => exact rfl); (case c3 => exact rfl); (case c4 => exact rfl); k_whole; intro g' L' h' tk' cells' FG' F' N' Y' B' X' T' lq1; (try k_lt lq1); k_cells Y'; (try simp only [List.cons_append, List.nil_append] at N'); (try dsimp only); (try k_lift B'); (try k_fold))))
  k_steps
  (rename News h₀ L _ _ => N9)
  refine hret _ _ _ _ ⟨rfl, _, congrArg (fun x => Value.bytes (byteArr x) _) ?_⟩ (by assumption) (news_tail (news_tail (news_tail N9)))
  exact oc_eq1 n h1
theorem oc_eq2 (n : Int) (h : 0 ≤ n) : [(n.fdiv 256).fmod 256, (n.fdiv 1).fmod 256] = octF 2 n := by
  show _ = [(n.fdiv 256).fmod 256, n.fmod 256]
  simp only [Int.fdiv_eq_ediv_of_nonneg _ (by decide : (0 : Int) ≤ 256), Int.fdiv_eq_ediv_of_nonneg _ (by decide : (0 : Int) ≤ 65536), Int.fdiv_eq_ediv_of_nonneg _ (by decide : (0 : Int) ≤ 16777216), Int.fdiv_eq_ediv_of_nonneg _ (by decide : (0 : Int) ≤ 1), Int.ediv_one, Int.ediv_ediv_of_nonneg (by decide : (0 : Int) ≤ 256), Int.ediv_ediv_of_nonneg (by decide : (0 : Int) ≤ 65536), Int.reduceMul]
theorem oc2 (w : World) (n : Int) (t1 t2 : Tok) (d0 d1 d2 : Nat) (o0 o1 o2 : Obj) (h1 : 0 ≤ n) :
    Ctr w 79 [.int n t1, .int 2 t2] [(d0, o0), (d1, o1), (d2, o2)] (fun v led => led = [(d0, o0), (d1, o1), (d2, o2)] ∧ ∃ t, v = .bytes (byteArr (octF 2 n)) t) := by
  intro dp un gd cn cs a ccd cl outer A₀ base h₀ L m s Q E mean mg mb B F X N T hk hd hu hret
  (refine wpAny_call ?_; k_dflt (first
    | cell_enter
    | (refine' code_defC ?k1 ?k2 ?k3 ?k4 ?k5 ?kA ?kF ?kK ?k6 ?k7 ?k8 ?k9 ?kB ?kD ?_ ?c2 ?c3 ?c4; (case kA => exact rfl); (case kF => exact rfl); (case kK => first | exact rfl | assumption); (case k1 => k_asm); (case k2 => k_asm); (case k3 => k_asm); (case k4 => k_asm); (case k5 => k_asm); (case k6 => k_is); (case k7 => k_is); (case k8 => ktr_room); (case k9 => first | exact BindsTo.of_eq rfl | exact binds_K (by k_in) rfl (by k_is) rfl rfl rfl); (case kB => exact rfl); (case kD => decide +kernel); (case c2 => exact rfl); (case c3 => exact rfl); (case c4 => exact rfl); k_whole; intro g' L' h' tk' cells' FG' F' N' Y' B' X' T' lq1; (try k_lt lq1); k_cells Y'; (try simp only [List.cons_append, List.nil_append] at N'); (try dsimp only); (try k_lift B'); (try k_fold))))
  k_steps
  (rename News h₀ L _ _ => N9)
  refine hret _ _ _ _ ⟨rfl, _, congrArg (fun x => Value.bytes (byteArr x) _) ?_⟩ (by assumption) (news_tail (news_tail (news_tail N9)))
  exact oc_eq2 n h1
theorem oc_eq3 (n : Int) (h : 0 ≤ n) : [(n.fdiv 65536).fmod 256, (n.fdiv 256).fmod 256, (n.fdiv 1).fmod 256] = octF 3 n := by
  show _ = [((n.fdiv 256).fdiv 256).fmod 256, (n.fdiv 256).fmod 256, n.fmod 256]
  simp only [Int.fdiv_eq_ediv_of_nonneg _ (by decide : (0 : Int) ≤ 256), Int.fdiv_eq_ediv_of_nonneg _ (by decide : (0 : Int) ≤ 65536), Int.fdiv_eq_ediv_of_nonneg _ (by decide : (0 : Int) ≤ 16777216), Int.fdiv_eq_ediv_of_nonneg _ (by decide : (0 : Int) ≤ 1), Int.ediv_one, Int.ediv_ediv_of_nonneg (by decide : (0 : Int) ≤ 256), Int.ediv_ediv_of_nonneg (by decide : (0 : Int) ≤ 65536), Int.reduceMul]
theorem oc3 (w : World) (n : Int) (t1 t2 : Tok) (d0 d1 d2 : Nat) (o0 o1 o2 : Obj) (h1 : 0 ≤ n) :
    Ctr w 79 [.int n t1, .int 3 t2] [(d0, o0), (d1, o1), (d2, o2)] (fun v led => led = [(d0, o0), (d1, o1), (d2, o2)] ∧ ∃ t, v = .bytes (byteArr (octF 3 n)) t) := by
  intro dp un gd cn cs a ccd cl outer A₀ base h₀ L m s Q E mean mg mb B F X N T hk hd hu hret
  (refine wpAny_call ?_; k_dflt (first
    | cell_enter
    | (refine' code_defC ?k1 ?k2 ?k3 ?k4 ?k5 ?kA ?kF ?kK ?k6 ?k7 ?k8 ?k9 ?kB ?kD ?_ ?c2 ?c3 ?c4; (case kA => exact rfl); (case kF => exact rfl); (case kK => first | exact rfl | assumption); (case k1 => k_asm); (case k2 => k_asm); (case k3 => k_asm); (case k4 => k_asm); (case k5 => k_asm); (case k6 => k_is); (case k7 => k_is); (case k8 => ktr_room); (case k9 => first | exact BindsTo.of_eq rfl | exact binds_K (by k_in) rfl (by k_is) rfl rfl rfl); (case kB => exact rfl); (case kD => decide +kernel); (case c2 => exact rfl); (case c3 => exact rfl); (case c4 => exact rfl); k_whole; intro g' L' h' tk' cells' FG' F' N' Y' B' X' T' lq1; (try k_lt lq1); k_cells Y'; (try simp only [List.cons_append, List.nil_append] at N'); (try dsimp only); (try k_lift B'); (try k_fold))))
  k_steps
  (rename News h₀ L _ _ => N9)
  refine hret _ _ _ _ ⟨rfl, _, congrArg (fun x => Value.bytes (byteArr x) _) ?_⟩ (by assumption) (news_tail (news_tail (news_tail N9)))
  exact oc_eq3 n h1
theorem oc_eq4 (n : Int) (h : 0 ≤ n) : [(n.fdiv 16777216).fmod 256, (n.fdiv 65536).fmod 256, (n.fdiv 256).fmod 256, (n.fdiv 1).fmod 256] = octF 4 n := by
  show _ = [(((n.fdiv 256).fdiv 256).fdiv 256).fmod 256, ((n.fdiv 256).fdiv 256).fmod 256, (n.fdiv 256).fmod 256, n.fmod 256]
  simp only [Int.fdiv_eq_ediv_of_nonneg _ (by decide : (0 : Int) ≤ 256), Int.fdiv_eq_ediv_of_nonneg _ (by decide : (0 : Int) ≤ 65536), Int.fdiv_eq_ediv_of_nonneg _ (by decide : (0 : Int) ≤ 16777216), Int.fdiv_eq_ediv_of_nonneg _ (by decide : (0 : Int) ≤ 1), Int.ediv_one, Int.ediv_ediv_of_nonneg (by decide : (0 : Int) ≤ 256), Int.ediv_ediv_of_nonneg (by decide : (0 : Int) ≤ 65536), Int.reduceMul]
theorem oc4 (w : World) (n : Int) (t1 t2 : Tok) (d0 d1 d2 : Nat) (o0 o1 o2 : Obj) (h1 : 0 ≤ n) :
    Ctr w 79 [.int n t1, .int 4 t2] [(d0, o0), (d1, o1), (d2, o2)] (fun v led => led = [(d0, o0), (d1, o1), (d2, o2)] ∧ ∃ t, v = .bytes (byteArr (octF 4 n)) t) := by
  intro dp un gd cn cs a ccd cl outer A₀ base h₀ L m s Q E mean mg mb B F X N T hk hd hu hret
  (refine wpAny_call ?_; k_dflt (first
    | cell_enter
    | (refine' code_defC ?k1 ?k2 ?k3 ?k4 ?k5 ?kA ?kF ?kK ?k6 ?k7 ?k8 ?k9 ?kB ?kD ?_ ?c2 ?c3 ?c4; (case kA => exact rfl); (case kF => exact rfl); (case kK => first | exact rfl | assumption); (case k1 => k_asm); (case k2 => k_asm); (case k3 => k_asm); (case k4 => k_asm); (case k5 => k_asm); (case k6 => k_is); (case k7 => k_is); (case k8 => ktr_room); (case k9 => first | exact BindsTo.of_eq rfl | exact binds_K (by k_in) rfl (by k_is) rfl rfl rfl); (case kB => exact rfl); (case kD => decide +kernel); (case c2 => exact rfl); (case c3 => exact rfl); (case c4 => exact rfl); k_whole; intro g' L' h' tk' cells' FG' F' N' Y' B' X' T' lq1; (try k_lt lq1); k_cells Y'; (try simp only [List.cons_append, List.nil_append] at N'); (try dsimp only); (try k_lift B'); (try k_fold))))
  k_steps
  (rename News h₀ L _ _ => N9)
  refine hret _ _ _ _ ⟨rfl, _, congrArg (fun x => Value.bytes (byteArr x) _) ?_⟩ (by assumption) (news_tail (news_tail (news_tail N9)))
  exact oc_eq4 n h1
end Mine
end

section
open PySem PySem.W PyProof.Rows PySem.Calls PySem.Spec
set_option Elab.async false
set_option maxRecDepth 100000
set_option maxHeartbeats 8000000
namespace Mine
theorem anew21 : True := by
  w_top off
  exact trivial
theorem CtrC.use {w : World} {f : Addr} {vs : List Value} {pre : Led} {post : Value → Led → Prop} (C : CtrC w f vs pre post) {dp un : Nat} {gd : Option (List Code)} {cn : PySem.Str} {cs : Scope} {a : Addr} {ccd : Value} {cl : List (PySem.Str × Addr)} {outer : List Env} {A₀ : Around} {base h₀ : Heap} {L : Addr} {m : PySem.Str → Option Value} {s : Shared} {Q E : Value → Shared → Prop} {mean : ExcName → Option Value} {mg mb : PySem.Str → Option Value}
    (B : Below A₀ base outer h₀) (F : Fr h₀ L s.heap m) (X : (hd.heap_39 w.params).In h₀) (N : News h₀ L s.heap pre) (T : Top hd.view_39 (looseW hd.view_39 []) mean mg mb h₀) (hk : cs.kind = .function) (hd : dp + 3 < recursionLimit) (hu : un + 24 < cLine)
    (hret : ∀ (v : Value) (led : Led) (h' : Heap) (tk' : Nat), post v led → Fr h₀ L h' m → News h₀ L h' led → Q v { s with heap := h', toks := tk' }) :
    wpC (model PySem.Challenge.rw_no0046_01.row.prog w) (ktrTop dp un gd cn cs L a ccd cl outer) (call (.ref f) vs) Q E s := C _ _ _ _ _ _ _ _ _ _ _ _ _ _ _ _ _ _ _ _ B F X N T hk hd hu hret
abbrev CtrC2 (w : World) (f : Addr) (vs : List Value) (pre : Led) (post : Value → Led → Prop) : Prop :=
  ∀ (dp un : Nat) (gd : Option (List Code)) (cn : PySem.Str) (cs : Scope) (a : Addr) (ccd : Value) (cl : List (PySem.Str × Addr)) (outer : List Env) (A₀ : Around) (base h₀ : Heap) (L : Addr) (m : PySem.Str → Option Value) (s : Shared) (Q E : Value → Shared → Prop) (mean : ExcName → Option Value) (mg mb : PySem.Str → Option Value),
    Below A₀ base outer h₀ → Fr h₀ L s.heap m → (hd.heap_39 w.params).In h₀ → News h₀ L s.heap pre → Top hd.view_39 (looseW hd.view_39 []) mean mg mb h₀ → cs.kind = .function → dp + 9 < recursionLimit → un + 60 < cLine →
    (∀ (v : Value) (led : Led) (h' : Heap) (tk' : Nat), post v led → Fr h₀ L h' m → News h₀ L h' led → Q v { s with heap := h', toks := tk' }) →
    wpC (model PySem.Challenge.rw_no0046_01.row.prog w) (ktrTop dp un gd cn cs L a ccd cl outer) (call (.ref f) vs) Q E s
theorem cn_none (w : World) (full : Int) (t1 : Tok) (d0 d1 d2 : Nat) (o0 o1 o2 : Obj) (h1 : 0 ≤ full) (h2 : full < 2147483648) :
    CtrC2 w 55 [.int full t1, .none] [(d0, o0), (d1, o1), (d2, o2)] (fun v led => led = [(d0, o0), (d1, o1), (d2, o2)] ∧ ∃ z t, v = .bytes (byteArr (octF z.toNat (full.fmod (256 ^ z.toNat)))) t ∧ SizeIs (full + 1) z) := by
  intro dp un gd cn cs a ccd cl outer A₀ base h₀ L m s Q E mean mg mb B F X N T hk hd hu hret
  (refine wpC_call ?_; k_dflt (refine' codeC_def ?k1 ?k2 ?k3 ?k4 ?k5 ?kA ?kF ?kK ?k6 ?k7 ?k8 ?k9 ?kB ?_ ?c2 ?c3 ?c4 ?c5; (case kA => exact rfl); (case kF => exact rfl); (case kK => assumption); (case k1 => k_asm); (case k2 => k_asm); (case k3 => k_asm); (case k4 => k_asm); (case k5 => k_asm); (case k6 => k_is); (case k7 => k_is); (case k8 => ktr_room); (case k9 => exact BindsTo.of_eq rfl); (case c5 => decide); (case kB => exact locs rfl); (case c2 => exact rfl); (case c3 => exact rfl); (case c4 => exact rfl); k_whole; intro g' L' h' FG' F' N' B' X' T'; (try dsimp only); (try k_lift B'); (try k_fold)))
  refine wpC_execs_cons (wpC_any ?_)
  (repeat' (first | (with_reducible (k_here; (with_reducible show wpAny _ _ (call (Value.ref 48) _) _ _ _); k_dflt (first | refine Ctr.use' (by k_asm) (by k_asm) (by k_asm) (by k_asm) (by k_asm) rfl (by ktr_room) (by ktr_units) (ns_none _ _ _ _ _ _ _ _ _ (by assumption) (by assumption)) ?_ | refine Ctr.use' (by k_asm) (by k_asm) (by k_asm) (by k_asm) (by k_asm) rfl (by ktr_room) (by ktr_units) (ns_some _ _ _ _ _ _ _ _ _ _ _ (by assumption) (by assumption) (by assumption)) ?_); intro v' led' h' tk' hp' F' N'; obtain ⟨e1', z', t', e2', hz'⟩ := hp'; subst e1'; subst e2'; (try k_sweep))) | (k_unfold; (try dsimp only)) | (k_end; kc_close) | walk1 | (dsimp only; walk1) | (leave1; (try dsimp only)) | fail "no step"))
  show wpC _ _ (execs _ _) _ _ _
  (rename SizeIs _ _ => hz)
  have hz0 := hz
  rcases hz with ⟨rfl, -⟩ | ⟨rfl, -, -⟩ | ⟨rfl, -, -⟩ | ⟨rfl, -, -⟩
  · refine wpC_execs_cons (wpC_Return_some (wpC_Call_Name ?_))
    (repeat' (first | (with_reducible (k_here; (with_reducible show wpAny _ _ (call (Value.ref 48) _) _ _ _); k_dflt (first | refine Ctr.use' (by k_asm) (by k_asm) (by k_asm) (by k_asm) (by k_asm) rfl (by ktr_room) (by ktr_units) (ns_none _ _ _ _ _ _ _ _ _ (by assumption) (by assumption)) ?_ | refine Ctr.use' (by k_asm) (by k_asm) (by k_asm) (by k_asm) (by k_asm) rfl (by ktr_room) (by ktr_units) (ns_some _ _ _ _ _ _ _ _ _ _ _ (by assumption) (by assumption) (by assumption)) ?_); intro v' led' h' tk' hp' F' N'; obtain ⟨e1', z', t', e2', hz'⟩ := hp'; subst e1'; subst e2'; (try k_sweep))) | (k_unfold; (try dsimp only)) | (k_end; kc_close) | walk1 | (dsimp only; walk1) | (leave1; (try dsimp only)) | fail "no step"))
    k_dflt (refine' callWithC_K ?k1 ?k2 ?_; (case k1 => k_asm); (case k2 => k_is); k_whole)
    (repeat' (first | (with_reducible (k_here; (with_reducible show wpAny _ _ (call (Value.ref 48) _) _ _ _); k_dflt (first | refine Ctr.use' (by k_asm) (by k_asm) (by k_asm) (by k_asm) (by k_asm) rfl (by ktr_room) (by ktr_units) (ns_none _ _ _ _ _ _ _ _ _ (by assumption) (by assumption)) ?_ | refine Ctr.use' (by k_asm) (by k_asm) (by k_asm) (by k_asm) (by k_asm) rfl (by ktr_room) (by ktr_units) (ns_some _ _ _ _ _ _ _ _ _ _ _ (by assumption) (by assumption) (by assumption)) ?_); intro v' led' h' tk' hp' F' N'; obtain ⟨e1', z', t', e2', hz'⟩ := hp'; subst e1'; subst e2'; (try k_sweep))) | (k_unfold; (try dsimp only)) | (k_end; kc_close) | walk1 | (dsimp only; walk1) | (leave1; (try dsimp only)) | fail "no step"))
    k_dflt (refine' CtrC.use (pw1 w _ _ _ _ _ _ _ _ _ ?a ?b) ?B ?F ?X ?N ?T ?k ?d ?u ?_; (case a => exact Int.fmod_nonneg_of_pos _ (by decide)); (case b => exact Int.fmod_lt_of_pos _ (by decide)); (case B => k_asm); (case F => k_asm); (case X => k_asm); (case N => k_asm); (case T => k_asm); (case k => exact rfl); (case d => ktr_room); (case u => ktr_units); k_whole)
    intro v' led' h' tk' hp' F' N'
    obtain ⟨rfl, t', rfl⟩ := hp'
    (repeat' (first | (with_reducible (k_here; (with_reducible show wpAny _ _ (call (Value.ref 48) _) _ _ _); k_dflt (first | refine Ctr.use' (by k_asm) (by k_asm) (by k_asm) (by k_asm) (by k_asm) rfl (by ktr_room) (by ktr_units) (ns_none _ _ _ _ _ _ _ _ _ (by assumption) (by assumption)) ?_ | refine Ctr.use' (by k_asm) (by k_asm) (by k_asm) (by k_asm) (by k_asm) rfl (by ktr_room) (by ktr_units) (ns_some _ _ _ _ _ _ _ _ _ _ _ (by assumption) (by assumption) (by assumption)) ?_); intro v' led' h' tk' hp' F' N'; obtain ⟨e1', z', t', e2', hz'⟩ := hp'; subst e1'; subst e2'; (try k_sweep))) | (k_unfold; (try dsimp only)) | (k_end; kc_close) | walk1 | (dsimp only; walk1) | (leave1; (try dsimp only)) | fail "no step"))
    exact hret _ _ _ _ ⟨rfl, 1, _, rfl, hz0⟩ (by assumption) (by assumption)
  · refine wpC_execs_cons (wpC_Return_some (wpC_Call_Name ?_))
    (repeat' (first | (with_reducible (k_here; (with_reducible show wpAny _ _ (call (Value.ref 48) _) _ _ _); k_dflt (first | refine Ctr.use' (by k_asm) (by k_asm) (by k_asm) (by k_asm) (by k_asm) rfl (by ktr_room) (by ktr_units) (ns_none _ _ _ _ _ _ _ _ _ (by assumption) (by assumption)) ?_ | refine Ctr.use' (by k_asm) (by k_asm) (by k_asm) (by k_asm) (by k_asm) rfl (by ktr_room) (by ktr_units) (ns_some _ _ _ _ _ _ _ _ _ _ _ (by assumption) (by assumption) (by assumption)) ?_); intro v' led' h' tk' hp' F' N'; obtain ⟨e1', z', t', e2', hz'⟩ := hp'; subst e1'; subst e2'; (try k_sweep))) | (k_unfold; (try dsimp only)) | (k_end; kc_close) | walk1 | (dsimp only; walk1) | (leave1; (try dsimp only)) | fail "no step"))
    k_dflt (refine' callWithC_K ?k1 ?k2 ?_; (case k1 => k_asm); (case k2 => k_is); k_whole)
    (repeat' (first | (with_reducible (k_here; (with_reducible show wpAny _ _ (call (Value.ref 48) _) _ _ _); k_dflt (first | refine Ctr.use' (by k_asm) (by k_asm) (by k_asm) (by k_asm) (by k_asm) rfl (by ktr_room) (by ktr_units) (ns_none _ _ _ _ _ _ _ _ _ (by assumption) (by assumption)) ?_ | refine Ctr.use' (by k_asm) (by k_asm) (by k_asm) (by k_asm) (by k_asm) rfl (by ktr_room) (by ktr_units) (ns_some _ _ _ _ _ _ _ _ _ _ _ (by assumption) (by assumption) (by assumption)) ?_); intro v' led' h' tk' hp' F' N'; obtain ⟨e1', z', t', e2', hz'⟩ := hp'; subst e1'; subst e2'; (try k_sweep))) | (k_unfold; (try dsimp only)) | (k_end; kc_close) | walk1 | (dsimp only; walk1) | (leave1; (try dsimp only)) | fail "no step"))
    k_dflt (refine' CtrC.use (pw2 w _ _ _ _ _ _ _ _ _ ?a ?b) ?B ?F ?X ?N ?T ?k ?d ?u ?_; (case a => exact Int.fmod_nonneg_of_pos _ (by decide)); (case b => exact Int.fmod_lt_of_pos _ (by decide)); (case B => k_asm); (case F => k_asm); (case X => k_asm); (case N => k_asm); (case T => k_asm); (case k => exact rfl); (case d => ktr_room); (case u => ktr_units); k_whole)
    intro v' led' h' tk' hp' F' N'
    obtain ⟨rfl, t', rfl⟩ := hp'
    (repeat' (first | (with_reducible (k_here; (with_reducible show wpAny _ _ (call (Value.ref 48) _) _ _ _); k_dflt (first | refine Ctr.use' (by k_asm) (by k_asm) (by k_asm) (by k_asm) (by k_asm) rfl (by ktr_room) (by ktr_units) (ns_none _ _ _ _ _ _ _ _ _ (by assumption) (by assumption)) ?_ | refine Ctr.use' (by k_asm) (by k_asm) (by k_asm) (by k_asm) (by k_asm) rfl (by ktr_room) (by ktr_units) (ns_some _ _ _ _ _ _ _ _ _ _ _ (by assumption) (by assumption) (by assumption)) ?_); intro v' led' h' tk' hp' F' N'; obtain ⟨e1', z', t', e2', hz'⟩ := hp'; subst e1'; subst e2'; (try k_sweep))) | (k_unfold; (try dsimp only)) | (k_end; kc_close) | walk1 | (dsimp only; walk1) | (leave1; (try dsimp only)) | fail "no step"))
    exact hret _ _ _ _ ⟨rfl, 2, _, rfl, hz0⟩ (by assumption) (by assumption)
  · refine wpC_execs_cons (wpC_Return_some (wpC_Call_Name ?_))
    (repeat' (first | (with_reducible (k_here; (with_reducible show wpAny _ _ (call (Value.ref 48) _) _ _ _); k_dflt (first | refine Ctr.use' (by k_asm) (by k_asm) (by k_asm) (by k_asm) (by k_asm) rfl (by ktr_room) (by ktr_units) (ns_none _ _ _ _ _ _ _ _ _ (by assumption) (by assumption)) ?_ | refine Ctr.use' (by k_asm) (by k_asm) (by k_asm) (by k_asm) (by k_asm) rfl (by ktr_room) (by ktr_units) (ns_some _ _ _ _ _ _ _ _ _ _ _ (by assumption) (by assumption) (by assumption)) ?_); intro v' led' h' tk' hp' F' N'; obtain ⟨e1', z', t', e2', hz'⟩ := hp'; subst e1'; subst e2'; (try k_sweep))) | (k_unfold; (try dsimp only)) | (k_end; kc_close) | walk1 | (dsimp only; walk1) | (leave1; (try dsimp only)) | fail "no step"))
    k_dflt (refine' callWithC_K ?k1 ?k2 ?_; (case k1 => k_asm); (case k2 => k_is); k_whole)
    (repeat' (first | (with_reducible (k_here; (with_reducible show wpAny _ _ (call (Value.ref 48) _) _ _ _); k_dflt (first | refine Ctr.use' (by k_asm) (by k_asm) (by k_asm) (by k_asm) (by k_asm) rfl (by ktr_room) (by ktr_units) (ns_none _ _ _ _ _ _ _ _ _ (by assumption) (by assumption)) ?_ | refine Ctr.use' (by k_asm) (by k_asm) (by k_asm) (by k_asm) (by k_asm) rfl (by ktr_room) (by ktr_units) (ns_some _ _ _ _ _ _ _ _ _ _ _ (by assumption) (by assumption) (by assumption)) ?_); intro v' led' h' tk' hp' F' N'; obtain ⟨e1', z', t', e2', hz'⟩ := hp'; subst e1'; subst e2'; (try k_sweep))) | (k_unfold; (try dsimp only)) | (k_end; kc_close) | walk1 | (dsimp only; walk1) | (leave1; (try dsimp only)) | fail "no step"))
    k_dflt (refine' CtrC.use (pw3 w _ _ _ _ _ _ _ _ _ ?a ?b) ?B ?F ?X ?N ?T ?k ?d ?u ?_; (case a => exact Int.fmod_nonneg_of_pos _ (by decide)); (case b => exact Int.fmod_lt_of_pos _ (by decide)); (case B => k_asm); (case F => k_asm); (case X => k_asm); (case N => k_asm); (case T => k_asm); (case k => exact rfl); (case d => ktr_room); (case u => ktr_units); k_whole)
    intro v' led' h' tk' hp' F' N'
    obtain ⟨rfl, t', rfl⟩ := hp'
    (repeat' (first | (with_reducible (k_here; (with_reducible show wpAny _ _ (call (Value.ref 48) _) _ _ _); k_dflt (first | refine Ctr.use' (by k_asm) (by k_asm) (by k_asm) (by k_asm) (by k_asm) rfl (by ktr_room) (by ktr_units) (ns_none _ _ _ _ _ _ _ _ _ (by assumption) (by assumption)) ?_ | refine Ctr.use' (by k_asm) (by k_asm) (by k_asm) (by k_asm) (by k_asm) rfl (by ktr_room) (by ktr_units) (ns_some _ _ _ _ _ _ _ _ _ _ _ (by assumption) (by assumption) (by assumption)) ?_); intro v' led' h' tk' hp' F' N'; obtain ⟨e1', z', t', e2', hz'⟩ := hp'; subst e1'; subst e2'; (try k_sweep))) | (k_unfold; (try dsimp only)) | (k_end; kc_close) | walk1 | (dsimp only; walk1) | (leave1; (try dsimp only)) | fail "no step"))
    exact hret _ _ _ _ ⟨rfl, 3, _, rfl, hz0⟩ (by assumption) (by assumption)
  · refine wpC_execs_cons (wpC_Return_some (wpC_Call_Name ?_))
    (repeat' (first | (with_reducible (k_here; (with_reducible show wpAny _ _ (call (Value.ref 48) _) _ _ _); k_dflt (first | refine Ctr.use' (by k_asm) (by k_asm) (by k_asm) (by k_asm) (by k_asm) rfl (by ktr_room) (by ktr_units) (ns_none _ _ _ _ _ _ _ _ _ (by assumption) (by assumption)) ?_ | refine Ctr.use' (by k_asm) (by k_asm) (by k_asm) (by k_asm) (by k_asm) rfl (by ktr_room) (by ktr_units) (ns_some _ _ _ _ _ _ _ _ _ _ _ (by assumption) (by assumption) (by assumption)) ?_); intro v' led' h' tk' hp' F' N'; obtain ⟨e1', z', t', e2', hz'⟩ := hp'; subst e1'; subst e2'; (try k_sweep))) | (k_unfold; (try dsimp only)) | (k_end; kc_close) | walk1 | (dsimp only; walk1) | (leave1; (try dsimp only)) | fail "no step"))
    k_dflt (refine' callWithC_K ?k1 ?k2 ?_; (case k1 => k_asm); (case k2 => k_is); k_whole)
    (repeat' (first | (with_reducible (k_here; (with_reducible show wpAny _ _ (call (Value.ref 48) _) _ _ _); k_dflt (first | refine Ctr.use' (by k_asm) (by k_asm) (by k_asm) (by k_asm) (by k_asm) rfl (by ktr_room) (by ktr_units) (ns_none _ _ _ _ _ _ _ _ _ (by assumption) (by assumption)) ?_ | refine Ctr.use' (by k_asm) (by k_asm) (by k_asm) (by k_asm) (by k_asm) rfl (by ktr_room) (by ktr_units) (ns_some _ _ _ _ _ _ _ _ _ _ _ (by assumption) (by assumption) (by assumption)) ?_); intro v' led' h' tk' hp' F' N'; obtain ⟨e1', z', t', e2', hz'⟩ := hp'; subst e1'; subst e2'; (try k_sweep))) | (k_unfold; (try dsimp only)) | (k_end; kc_close) | walk1 | (dsimp only; walk1) | (leave1; (try dsimp only)) | fail "no step"))
    k_dflt (refine' CtrC.use (pw4 w _ _ _ _ _ _ _ _ _ ?a ?b) ?B ?F ?X ?N ?T ?k ?d ?u ?_; (case a => exact Int.fmod_nonneg_of_pos _ (by decide)); (case b => exact Int.fmod_lt_of_pos _ (by decide)); (case B => k_asm); (case F => k_asm); (case X => k_asm); (case N => k_asm); (case T => k_asm); (case k => exact rfl); (case d => ktr_room); (case u => ktr_units); k_whole)
    intro v' led' h' tk' hp' F' N'
    obtain ⟨rfl, t', rfl⟩ := hp'
    (repeat' (first | (with_reducible (k_here; (with_reducible show wpAny _ _ (call (Value.ref 48) _) _ _ _); k_dflt (first | refine Ctr.use' (by k_asm) (by k_asm) (by k_asm) (by k_asm) (by k_asm) rfl (by ktr_room) (by ktr_units) (ns_none _ _ _ _ _ _ _ _ _ (by assumption) (by assumption)) ?_ | refine Ctr.use' (by k_asm) (by k_asm) (by k_asm) (by k_asm) (by k_asm) rfl (by ktr_room) (by ktr_units) (ns_some _ _ _ _ _ _ _ _ _ _ _ (by assumption) (by assumption) (by assumption)) ?_); intro v' led' h' tk' hp' F' N'; obtain ⟨e1', z', t', e2', hz'⟩ := hp'; subst e1'; subst e2'; (try k_sweep))) | (k_unfold; (try dsimp only)) | (k_end; kc_close) | walk1 | (dsimp only; walk1) | (leave1; (try dsimp only)) | fail "no step"))
    exact hret _ _ _ _ ⟨rfl, 4, _, rfl, hz0⟩ (by assumption) (by assumption)
theorem cn_some (w : World) (full acked : Int) (t1 t2 : Tok) (d0 d1 d2 : Nat) (o0 o1 o2 : Obj) (h1 : 0 ≤ full) (h2 : acked + 1 ≤ full) (h3 : full ≤ acked + 2147483648) :
    CtrC2 w 55 [.int full t1, .int acked t2] [(d0, o0), (d1, o1), (d2, o2)] (fun v led => led = [(d0, o0), (d1, o1), (d2, o2)] ∧ ∃ z t, v = .bytes (byteArr (octF z.toNat (full.fmod (256 ^ z.toNat)))) t ∧ SizeIs (full - acked) z) := by
  intro dp un gd cn cs a ccd cl outer A₀ base h₀ L m s Q E mean mg mb B F X N T hk hd hu hret
  (refine wpC_call ?_; k_dflt (refine' codeC_def ?k1 ?k2 ?k3 ?k4 ?k5 ?kA ?kF ?kK ?k6 ?k7 ?k8 ?k9 ?kB ?_ ?c2 ?c3 ?c4 ?c5; (case kA => exact rfl); (case kF => exact rfl); (case kK => assumption); (case k1 => k_asm); (case k2 => k_asm); (case k3 => k_asm); (case k4 => k_asm); (case k5 => k_asm); (case k6 => k_is); (case k7 => k_is); (case k8 => ktr_room); (case k9 => exact BindsTo.of_eq rfl); (case c5 => decide); (case kB => exact locs rfl); (case c2 => exact rfl); (case c3 => exact rfl); (case c4 => exact rfl); k_whole; intro g' L' h' FG' F' N' B' X' T'; (try dsimp only); (try k_lift B'); (try k_fold)))
  refine wpC_execs_cons (wpC_any ?_)
  (repeat' (first | (with_reducible (k_here; (with_reducible show wpAny _ _ (call (Value.ref 48) _) _ _ _); k_dflt (first | refine Ctr.use' (by k_asm) (by k_asm) (by k_asm) (by k_asm) (by k_asm) rfl (by ktr_room) (by ktr_units) (ns_none _ _ _ _ _ _ _ _ _ (by assumption) (by assumption)) ?_ | refine Ctr.use' (by k_asm) (by k_asm) (by k_asm) (by k_asm) (by k_asm) rfl (by ktr_room) (by ktr_units) (ns_some _ _ _ _ _ _ _ _ _ _ _ (by assumption) (by assumption) (by assumption)) ?_); intro v' led' h' tk' hp' F' N'; obtain ⟨e1', z', t', e2', hz'⟩ := hp'; subst e1'; subst e2'; (try k_sweep))) | (k_unfold; (try dsimp only)) | (k_end; kc_close) | walk1 | (dsimp only; walk1) | (leave1; (try dsimp only)) | fail "no step"))
  show wpC _ _ (execs _ _) _ _ _
  (rename SizeIs _ _ => hz)
  have hz0 := hz
  rcases hz with ⟨rfl, -⟩ | ⟨rfl, -, -⟩ | ⟨rfl, -, -⟩ | ⟨rfl, -, -⟩
  · refine wpC_execs_cons (wpC_Return_some (wpC_Call_Name ?_))
    (repeat' (first | (with_reducible (k_here; (with_reducible show wpAny _ _ (call (Value.ref 48) _) _ _ _); k_dflt (first | refine Ctr.use' (by k_asm) (by k_asm) (by k_asm) (by k_asm) (by k_asm) rfl (by ktr_room) (by ktr_units) (ns_none _ _ _ _ _ _ _ _ _ (by assumption) (by assumption)) ?_ | refine Ctr.use' (by k_asm) (by k_asm) (by k_asm) (by k_asm) (by k_asm) rfl (by ktr_room) (by ktr_units) (ns_some _ _ _ _ _ _ _ _ _ _ _ (by assumption) (by assumption) (by assumption)) ?_); intro v' led' h' tk' hp' F' N'; obtain ⟨e1', z', t', e2', hz'⟩ := hp'; subst e1'; subst e2'; (try k_sweep))) | (k_unfold; (try dsimp only)) | (k_end; kc_close) | walk1 | (dsimp only; walk1) | (leave1; (try dsimp only)) | fail "no step"))
    k_dflt (refine' callWithC_K ?k1 ?k2 ?_; (case k1 => k_asm); (case k2 => k_is); k_whole)
    (repeat' (first | (with_reducible (k_here; (with_reducible show wpAny _ _ (call (Value.ref 48) _) _ _ _); k_dflt (first | refine Ctr.use' (by k_asm) (by k_asm) (by k_asm) (by k_asm) (by k_asm) rfl (by ktr_room) (by ktr_units) (ns_none _ _ _ _ _ _ _ _ _ (by assumption) (by assumption)) ?_ | refine Ctr.use' (by k_asm) (by k_asm) (by k_asm) (by k_asm) (by k_asm) rfl (by ktr_room) (by ktr_units) (ns_some _ _ _ _ _ _ _ _ _ _ _ (by assumption) (by assumption) (by assumption)) ?_); intro v' led' h' tk' hp' F' N'; obtain ⟨e1', z', t', e2', hz'⟩ := hp'; subst e1'; subst e2'; (try k_sweep))) | (k_unfold; (try dsimp only)) | (k_end; kc_close) | walk1 | (dsimp only; walk1) | (leave1; (try dsimp only)) | fail "no step"))
    k_dflt (refine' CtrC.use (pw1 w _ _ _ _ _ _ _ _ _ ?a ?b) ?B ?F ?X ?N ?T ?k ?d ?u ?_; (case a => exact Int.fmod_nonneg_of_pos _ (by decide)); (case b => exact Int.fmod_lt_of_pos _ (by decide)); (case B => k_asm); (case F => k_asm); (case X => k_asm); (case N => k_asm); (case T => k_asm); (case k => exact rfl); (case d => ktr_room); (case u => ktr_units); k_whole)
    intro v' led' h' tk' hp' F' N'
    obtain ⟨rfl, t', rfl⟩ := hp'
    (repeat' (first | (with_reducible (k_here; (with_reducible show wpAny _ _ (call (Value.ref 48) _) _ _ _); k_dflt (first | refine Ctr.use' (by k_asm) (by k_asm) (by k_asm) (by k_asm) (by k_asm) rfl (by ktr_room) (by ktr_units) (ns_none _ _ _ _ _ _ _ _ _ (by assumption) (by assumption)) ?_ | refine Ctr.use' (by k_asm) (by k_asm) (by k_asm) (by k_asm) (by k_asm) rfl (by ktr_room) (by ktr_units) (ns_some _ _ _ _ _ _ _ _ _ _ _ (by assumption) (by assumption) (by assumption)) ?_); intro v' led' h' tk' hp' F' N'; obtain ⟨e1', z', t', e2', hz'⟩ := hp'; subst e1'; subst e2'; (try k_sweep))) | (k_unfold; (try dsimp only)) | (k_end; kc_close) | walk1 | (dsimp only; walk1) | (leave1; (try dsimp only)) | fail "no step"))
    exact hret _ _ _ _ ⟨rfl, 1, _, rfl, hz0⟩ (by assumption) (by assumption)
  · refine wpC_execs_cons (wpC_Return_some (wpC_Call_Name ?_))
    (repeat' (first | (with_reducible (k_here; (with_reducible show wpAny _ _ (call (Value.ref 48) _) _ _ _); k_dflt (first | refine Ctr.use' (by k_asm) (by k_asm) (by k_asm) (by k_asm) (by k_asm) rfl (by ktr_room) (by ktr_units) (ns_none _ _ _ _ _ _ _ _ _ (by assumption) (by assumption)) ?_ | refine Ctr.use' (by k_asm) (by k_asm) (by k_asm) (by k_asm) (by k_asm) rfl (by ktr_room) (by ktr_units) (ns_some _ _ _ _ _ _ _ _ _ _ _ (by assumption) (by assumption) (by assumption)) ?_); intro v' led' h' tk' hp' F' N'; obtain ⟨e1', z', t', e2', hz'⟩ := hp'; subst e1'; subst e2'; (try k_sweep))) | (k_unfold; (try dsimp only)) | (k_end; kc_close) | walk1 | (dsimp only; walk1) | (leave1; (try dsimp only)) | fail "no step"))
    k_dflt (refine' callWithC_K ?k1 ?k2 ?_; (case k1 => k_asm); (case k2 => k_is); k_whole)
    (repeat' (first | (with_reducible (k_here; (with_reducible show wpAny _ _ (call (Value.ref 48) _) _ _ _); k_dflt (first | refine Ctr.use' (by k_asm) (by k_asm) (by k_asm) (by k_asm) (by k_asm) rfl (by ktr_room) (by ktr_units) (ns_none _ _ _ _ _ _ _ _ _ (by assumption) (by assumption)) ?_ | refine Ctr.use' (by k_asm) (by k_asm) (by k_asm) (by k_asm) (by k_asm) rfl (by ktr_room) (by ktr_units) (ns_some _ _ _ _ _ _ _ _ _ _ _ (by assumption) (by assumption) (by assumption)) ?_); intro v' led' h' tk' hp' F' N'; obtain ⟨e1', z', t', e2', hz'⟩ := hp'; subst e1'; subst e2'; (try k_sweep))) | (k_unfold; (try dsimp only)) | (k_end; kc_close) | walk1 | (dsimp only; walk1) | (leave1; (try dsimp only)) | fail "no step"))
    k_dflt (refine' CtrC.use (pw2 w _ _ _ _ _ _ _ _ _ ?a ?b) ?B ?F ?X ?N ?T ?k ?d ?u ?_; (case a => exact Int.fmod_nonneg_of_pos _ (by decide)); (case b => exact Int.fmod_lt_of_pos _ (by decide)); (case B => k_asm); (case F => k_asm); (case X => k_asm); (case N => k_asm); (case T => k_asm); (case k => exact rfl); (case d => ktr_room); (case u => ktr_units); k_whole)
    intro v' led' h' tk' hp' F' N'
    obtain ⟨rfl, t', rfl⟩ := hp'
    (repeat' (first | (with_reducible (k_here; (with_reducible show wpAny _ _ (call (Value.ref 48) _) _ _ _); k_dflt (first | refine Ctr.use' (by k_asm) (by k_asm) (by k_asm) (by k_asm) (by k_asm) rfl (by ktr_room) (by ktr_units) (ns_none _ _ _ _ _ _ _ _ _ (by assumption) (by assumption)) ?_ | refine Ctr.use' (by k_asm) (by k_asm) (by k_asm) (by k_asm) (by k_asm) rfl (by ktr_room) (by ktr_units) (ns_some _ _ _ _ _ _ _ _ _ _ _ (by assumption) (by assumption) (by assumption)) ?_); intro v' led' h' tk' hp' F' N'; obtain ⟨e1', z', t', e2', hz'⟩ := hp'; subst e1'; subst e2'; (try k_sweep))) | (k_unfold; (try dsimp only)) | (k_end; kc_close) | walk1 | (dsimp only; walk1) | (leave1; (try dsimp only)) | fail "no step"))
    exact hret _ _ _ _ ⟨rfl, 2, _, rfl, hz0⟩ (by assumption) (by assumption)
  · refine wpC_execs_cons (wpC_Return_some (wpC_Call_Name ?_))
    (repeat' (first | (with_reducible (k_here; (with_reducible show wpAny _ _ (call (Value.ref 48) _) _ _ _); k_dflt (first | refine Ctr.use' (by k_asm) (by k_asm) (by k_asm) (by k_asm) (by k_asm) rfl (by ktr_room) (by ktr_units) (ns_none _ _ _ _ _ _ _ _ _ (by assumption) (by assumption)) ?_ | refine Ctr.use' (by k_asm) (by k_asm) (by k_asm) (by k_asm) (by k_asm) rfl (by ktr_room) (by ktr_units) (ns_some _ _ _ _ _ _ _ _ _ _ _ (by assumption) (by assumption) (by assumption)) ?_); intro v' led' h' tk' hp' F' N'; obtain ⟨e1', z', t', e2', hz'⟩ := hp'; subst e1'; subst e2'; (try k_sweep))) | (k_unfold; (try dsimp only)) | (k_end; kc_close) | walk1 | (dsimp only; walk1) | (leave1; (try dsimp only)) | fail "no step"))
    k_dflt (refine' callWithC_K ?k1 ?k2 ?_; (case k1 => k_asm); (case k2 => k_is); k_whole)
    (repeat' (first | (with_reducible (k_here; (with_reducible show wpAny _ _ (call (Value.ref 48) _) _ _ _); k_dflt (first | refine Ctr.use' (by k_asm) (by k_asm) (by k_asm) (by k_asm) (by k_asm) rfl (by ktr_room) (by ktr_units) (ns_none _ _ _ _ _ _ _ _ _ (by assumption) (by assumption)) ?_ | refine Ctr.use' (by k_asm) (by k_asm) (by k_asm) (by k_asm) (by k_asm) rfl (by ktr_room) (by ktr_units) (ns_some _ _ _ _ _ _ _ _ _ _ _ (by assumption) (by assumption) (by assumption)) ?_); intro v' led' h' tk' hp' F' N'; obtain ⟨e1', z', t', e2', hz'⟩ := hp'; subst e1'; subst e2'; (try k_sweep))) | (k_unfold; (try dsimp only)) | (k_end; kc_close) | walk1 | (dsimp only; walk1) | (leave1; (try dsimp only)) | fail "no step"))
    k_dflt (refine' CtrC.use (pw3 w _ _ _ _ _ _ _ _ _ ?a ?b) ?B ?F ?X ?N ?T ?k ?d ?u ?_; (case a => exact Int.fmod_nonneg_of_pos _ (by decide)); (case b => exact Int.fmod_lt_of_pos _ (by decide)); (case B => k_asm); (case F => k_asm); (case X => k_asm); (case N => k_asm); (case T => k_asm); (case k => exact rfl); (case d => ktr_room); (case u => ktr_units); k_whole)
    intro v' led' h' tk' hp' F' N'
    obtain ⟨rfl, t', rfl⟩ := hp'
    (repeat' (first | (with_reducible (k_here; (with_reducible show wpAny _ _ (call (Value.ref 48) _) _ _ _); k_dflt (first | refine Ctr.use' (by k_asm) (by k_asm) (by k_asm) (by k_asm) (by k_asm) rfl (by ktr_room) (by ktr_units) (ns_none _ _ _ _ _ _ _ _ _ (by assumption) (by assumption)) ?_ | refine Ctr.use' (by k_asm) (by k_asm) (by k_asm) (by k_asm) (by k_asm) rfl (by ktr_room) (by ktr_units) (ns_some _ _ _ _ _ _ _ _ _ _ _ (by assumption) (by assumption) (by assumption)) ?_); intro v' led' h' tk' hp' F' N'; obtain ⟨e1', z', t', e2', hz'⟩ := hp'; subst e1'; subst e2'; (try k_sweep))) | (k_unfold; (try dsimp only)) | (k_end; kc_close) | walk1 | (dsimp only; walk1) | (leave1; (try dsimp only)) | fail "no step"))
    exact hret _ _ _ _ ⟨rfl, 3, _, rfl, hz0⟩ (by assumption) (by assumption)
  · refine wpC_execs_cons (wpC_Return_some (wpC_Call_Name ?_))
    (repeat' (first | (with_reducible (k_here; (with_reducible show wpAny _ _ (call (Value.ref 48) _) _ _ _); k_dflt (first | refine Ctr.use' (by k_asm) (by k_asm) (by k_asm) (by k_asm) (by k_asm) rfl (by ktr_room) (by ktr_units) (ns_none _ _ _ _ _ _ _ _ _ (by assumption) (by assumption)) ?_ | refine Ctr.use' (by k_asm) (by k_asm) (by k_asm) (by k_asm) (by k_asm) rfl (by ktr_room) (by ktr_units) (ns_some _ _ _ _ _ _ _ _ _ _ _ (by assumption) (by assumption) (by assumption)) ?_); intro v' led' h' tk' hp' F' N'; obtain ⟨e1', z', t', e2', hz'⟩ := hp'; subst e1'; subst e2'; (try k_sweep))) | (k_unfold; (try dsimp only)) | (k_end; kc_close) | walk1 | (dsimp only; walk1) | (leave1; (try dsimp only)) | fail "no step"))
    k_dflt (refine' callWithC_K ?k1 ?k2 ?_; (case k1 => k_asm); (case k2 => k_is); k_whole)
    (repeat' (first | (with_reducible (k_here; (with_reducible show wpAny _ _ (call (Value.ref 48) _) _ _ _); k_dflt (first | refine Ctr.use' (by k_asm) (by k_asm) (by k_asm) (by k_asm) (by k_asm) rfl (by ktr_room) (by ktr_units) (ns_none _ _ _ _ _ _ _ _ _ (by assumption) (by assumption)) ?_ | refine Ctr.use' (by k_asm) (by k_asm) (by k_asm) (by k_asm) (by k_asm) rfl (by ktr_room) (by ktr_units) (ns_some _ _ _ _ _ _ _ _ _ _ _ (by assumption) (by assumption) (by assumption)) ?_); intro v' led' h' tk' hp' F' N'; obtain ⟨e1', z', t', e2', hz'⟩ := hp'; subst e1'; subst e2'; (try k_sweep))) | (k_unfold; (try dsimp only)) | (k_end; kc_close) | walk1 | (dsimp only; walk1) | (leave1; (try dsimp only)) | fail "no step"))
    k_dflt (refine' CtrC.use (pw4 w _ _ _ _ _ _ _ _ _ ?a ?b) ?B ?F ?X ?N ?T ?k ?d ?u ?_; (case a => exact Int.fmod_nonneg_of_pos _ (by decide)); (case b => exact Int.fmod_lt_of_pos _ (by decide)); (case B => k_asm); (case F => k_asm); (case X => k_asm); (case N => k_asm); (case T => k_asm); (case k => exact rfl); (case d => ktr_room); (case u => ktr_units); k_whole)
    intro v' led' h' tk' hp' F' N'
    obtain ⟨rfl, t', rfl⟩ := hp'
    (repeat' (first | (with_reducible (k_here; (with_reducible show wpAny _ _ (call (Value.ref 48) _) _ _ _); k_dflt (first | refine Ctr.use' (by k_asm) (by k_asm) (by k_asm) (by k_asm) (by k_asm) rfl (by ktr_room) (by ktr_units) (ns_none _ _ _ _ _ _ _ _ _ (by assumption) (by assumption)) ?_ | refine Ctr.use' (by k_asm) (by k_asm) (by k_asm) (by k_asm) (by k_asm) rfl (by ktr_room) (by ktr_units) (ns_some _ _ _ _ _ _ _ _ _ _ _ (by assumption) (by assumption) (by assumption)) ?_); intro v' led' h' tk' hp' F' N'; obtain ⟨e1', z', t', e2', hz'⟩ := hp'; subst e1'; subst e2'; (try k_sweep))) | (k_unfold; (try dsimp only)) | (k_end; kc_close) | walk1 | (dsimp only; walk1) | (leave1; (try dsimp only)) | fail "no step"))
    exact hret _ _ _ _ ⟨rfl, 4, _, rfl, hz0⟩ (by assumption) (by assumption)
end Mine
end

section
open PySem PySem.W PyProof.Rows PySem.Calls PySem.Spec
set_option Elab.async false
set_option maxRecDepth 100000
set_option maxHeartbeats 8000000
namespace Mine
def lay : List (PySem.Str × Value) → (PySem.Str → Option Value) → PySem.Str → Option Value
  | [], m => m
  | (x, v) :: r, m => fun y => if y = x then some v else lay r m y
theorem lay_eq : ∀ {xs : List (PySem.Str × Value)} {m : PySem.Str → Option Value}, (∀ p ∈ xs, m p.1 = some p.2) → lay xs m = m
  | [], _, _ => rfl
  | (x, v) :: r, m, h => by
    funext y
    show (if y = x then some v else lay r m y) = m y
    rw [lay_eq fun p hp => h p (.tail _ hp)]
    split
    · rename_i e; rw [e]; exact (h _ (.head _)).symm
    · rfl
theorem fr_lay {h₀ h : Heap} {L : Addr} {m : PySem.Str → Option Value} (xs : List (PySem.Str × Value)) (F : Fr h₀ L h m) (hx : ∀ p ∈ xs, m p.1 = some p.2) : Fr h₀ L h (lay xs m) := by
  rw [lay_eq hx]; exact F
theorem news_rot4 {h₀ h : Heap} {L : Addr} {p1 p2 p3 p4 : Addr × Obj} (N : News h₀ L h [p1, p2, p3, p4]) : News h₀ L h [p2, p3, p4, p1] := fun q hq => N q (by simp only [List.mem_cons] at hq ⊢; rcases hq with h | h | h | h <;> simp_all)
theorem news_tl {h₀ h : Heap} {L : Addr} {p : Addr × Obj} {news : Led} (N : News h₀ L h (p :: news)) : News h₀ L h news := fun q hq => N q (List.mem_cons_of_mem _ hq)
theorem news_hd3 {h₀ h : Heap} {L : Addr} {p1 p2 p3 p4 : Addr × Obj} (N : News h₀ L h [p1, p2, p3, p4]) : News h₀ L h [p1, p2, p3] := fun q hq => N q (by simp only [List.mem_cons] at hq ⊢; rcases hq with h | h | h | h <;> simp_all)
end Mine
end

section
open PySem PySem.W PyProof.Rows PySem.Calls PySem.Spec
set_option Elab.async false
set_option maxRecDepth 100000
set_option maxHeartbeats 8000000
namespace Mine
local macro_rules | `(tactic| walk_at "pad") => `(tactic| skip)
theorem anew23 : True := by
  w_top off
  exact trivial
theorem take4 (w : World) (k S many : Int) (t1 t2 t3 : Tok) (b c d2 d3 : Nat) (n1 n2 : Nat) (cvs : List Value) (ns : List Int) (o2 o3 : Obj) (hk0 : 0 ≤ k) (hk1 : k < 1000) (hS : 0 ≤ S) (hS1 : S < 89) (hm : 1 ≤ many) (hm2 : many < 4611686018427387904) (hi : IntsAre cvs ns) (hl : ns.length ≤ 24) (hbc : b ≠ c) (hb2 : b ≠ d2) (hc2 : c ≠ d2) (hb3 : b ≠ d3) (hc3 : c ≠ d3) :
    Ctr w 74 [.ref b, .int many t3] [(b, listOf #[.ref c, .int k t1, .int S t2] n1), (c, listOf cvs.toArray n2), (d2, o2), (d3, o3)] (fun v led => ∃ r t t1' n1', v = .int r t ∧ 0 ≤ r ∧ r < many ∧ led = [(b, listOf #[.ref c, .int (k+1) t1', .int S t2] n1'), (c, listOf cvs.toArray n2), (d2, o2), (d3, o3)]) := by
  intro dp un gd cn cs a ccd cl outer A₀ base h₀ L m s Q E mean mg mb B F X N T hk hd hu hret
  (refine wpAny_call ?_; k_dflt (first
    | cell_enter
    | (refine' code_defC ?k1 ?k2 ?k3 ?k4 ?k5 ?kA ?kF ?kK ?k6 ?k7 ?k8 ?k9 ?kB ?kD ?_ ?c2 ?c3 ?c4; (case kA => exact rfl); (case kF => exact rfl); (case kK => first | exact rfl | assumption); (case k1 => k_asm); (case k2 => k_asm); (case k3 => k_asm); (case k4 => k_asm); (case k5 => k_asm); (case k6 => k_is); (case k7 => k_is); (case k8 => ktr_room); (case k9 => first | exact BindsTo.of_eq rfl | exact binds_K (by k_in) rfl (by k_is) rfl rfl rfl); (case kB => exact rfl); (case kD => decide +kernel); (case c2 => exact rfl); (case c3 => exact rfl); (case c4 => exact rfl); k_whole; intro g' L' h' tk' cells' FG' F' N' Y' B' X' T' lq1; (try k_lt lq1); k_cells Y'; (try simp only [List.cons_append, List.nil_append] at N'); (try dsimp only); (try k_lift B'); (try k_fold))))
  k_steps
  all_goals (refine hret _ _ _ _ ⟨_, _, _, _, rfl, ?_, ?_, rfl⟩ (by assumption) (by assumption))
  · exact Int.fmod_nonneg_of_pos _ (by omega)
  · exact Int.fmod_lt_of_pos _ (by omega)
  · exact Int.fmod_nonneg_of_pos _ (by omega)
  · exact Int.fmod_lt_of_pos _ (by omega)
end Mine
end

section
open PySem PySem.W PyProof.Rows PySem.Calls PySem.Spec
set_option Elab.async false
set_option maxRecDepth 100000
set_option maxHeartbeats 8000000
namespace Mine
theorem anew24 : True := by
  w_top off
  exact trivial
theorem news_no3 {h₀ h : Heap} {L : Addr} {p1 p2 p3 p4 : Addr × Obj} (N : News h₀ L h [p1, p2, p3, p4]) : News h₀ L h [p1, p2, p4] := fun q hq => N q (by simp only [List.mem_cons] at hq ⊢; rcases hq with h | h | h | h <;> simp_all)
theorem st0 (w : World) (fa cdA : Nat) (g L ls : Nat) (h₀ : Heap) (m0 : PySem.Str → Option Value) (s : Shared) (og : Obj) (vs : List Value) (ns : List Int) (Q : Flow → Shared → Prop) (mean : ExcName → Option Value) (mg mb : PySem.Str → Option Value)
  (B : Below callerA h₀ [] h₀) (F0 : Fr h₀ L s.heap m0) (X : (hd.heap_39 w.params).In h₀) (N : News h₀ L s.heap [(g, og)]) (T : Top hd.view_39 (looseW hd.view_39 []) mean mg mb h₀)
  (hl : h₀.IsList ls vs.toArray) (hi : IntsAre vs ns) (hlen : ns.length ≤ 63) (e0 : m0 (PySem.Str.ofString "script") = some (.ref ls))
  (hret : ∀ h' tk' m' (b c : Nat) t1 t2 n1 n2 cvs cns S, Fr h₀ L h' m' → News h₀ L h' [(b, W.listOf #[.ref c, .int 0 t1, .int S t2] n1), (c, W.listOf cvs.toArray n2), (g, og)] → IntsAre cvs cns → cns.length ≤ 24 → 0 ≤ S → S < 89 → b ≠ c → b ≠ g → c ≠ g → m' (PySem.Str.ofString "box") = some (.ref b) → Q .next { s with heap := h', toks := tk' }) :
  wpAny (model PySem.Challenge.rw_no0046_01.row.prog w) (callerA.deeper (envOfC lawName lawScope L fa (.ref cdA))) (exec (lawSt 0) (envOfC lawName lawScope L fa (.ref cdA))) Q (fun _ _ => False) s := by
  have F := fr_lay [(PySem.Str.ofString "script", .ref ls)] F0 (by simpa using e0)
  clear F0 e0
  simp only [lay] at F
  unfold lawName
  conv in (occs := *) lawScope => all_goals whnf
  conv in lawSt 0 => whnf
  k_steps
  (rename Fr h₀ L _ _ => F9)
  (rename News h₀ L _ _ => N9)
  refine hret _ _ _ _ _ _ _ _ _ _ _ _ F9 (news_no3 N9) (by assumption) ?_ (Int.fmod_nonneg_of_pos _ (by decide)) (Int.fmod_lt_of_pos _ (by decide)) (by k_ne) (by k_ne) (by k_ne) rfl
  rw [List.length_map, List.length_take]
  omega
end Mine
end

section
open PySem PySem.W PyProof.Rows PySem.Calls PySem.Spec
set_option Elab.async false
set_option maxRecDepth 100000
set_option maxHeartbeats 8000000
set_option linter.unusedVariables false
namespace Mine
theorem anew25 : True := by
  w_top off
  exact trivial
local macro_rules | `(tactic| walk_at "binaryOp Pow int int") => `(tactic| (k_here; (with_reducible refine pow_int ?kb1 ?kb2 ?_); (case kb1 => decide); (case kb2 => decide +kernel)))
theorem st1 (w : World) (fa cdA : Nat) (L : Nat) (h₀ : Heap) (m0 : PySem.Str → Option Value) (s : Shared) (b c : Nat) (og : Obj) (cvs : List Value) (cns : List Int) (k S : Int) (t1 t2 : Tok) (n1 n2 : Nat) (Q : Flow → Shared → Prop) (mean : ExcName → Option Value) (mg mb : PySem.Str → Option Value)
  (B : Below callerA h₀ [] h₀) (F0 : Fr h₀ L s.heap m0) (X : (hd.heap_39 w.params).In h₀) (N : News h₀ L s.heap [(b, W.listOf #[.ref c, .int k t1, .int S t2] n1), (c, W.listOf cvs.toArray n2), (L + 1, og)]) (T : Top hd.view_39 (looseW hd.view_39 []) mean mg mb h₀)
  (hi : IntsAre cvs cns) (hl : cns.length ≤ 24) (hS : 0 ≤ S) (hS1 : S < 89) (hbc : b ≠ c) (hbg : b ≠ L + 1) (hcg : c ≠ L + 1) (e0 : m0 (PySem.Str.ofString "box") = some (.ref b))
  (hret : ∀ h' tk' m' (ap : Nat) avs n3, Fr h₀ L h' m' → News h₀ L h' [(b, W.listOf #[.ref c, .int k t1, .int S t2] n1), (c, W.listOf cvs.toArray n2), (L + 1, og), (ap, W.listOf avs.toArray n3)] → IntsAre avs [1, 127, 128, 129, 32767, 32768, 32769, 8388608, 8388609, 2147483647, 2147483648, 5, 300, 29519, 65611] → b ≠ ap → c ≠ ap → L + 1 ≠ ap → m' (PySem.Str.ofString "box") = some (.ref b) → m' (PySem.Str.ofString "apart") = some (.ref ap) → Q .next { s with heap := h', toks := tk' }) :
  wpAny (model PySem.Challenge.rw_no0046_01.row.prog w) (callerA.deeper (envOfC lawName lawScope L fa (.ref cdA))) (exec (lawSt 1) (envOfC lawName lawScope L fa (.ref cdA))) Q (fun _ _ => False) s := by
  have F := fr_lay [((PySem.Str.ofString "box"), .ref b)] F0 (by simpa using e0)
  clear F0 e0
  simp only [lay] at F
  unfold lawName
  conv in (occs := *) lawScope => all_goals whnf
  conv in lawSt 1 => whnf
  k_steps
  (rename Fr h₀ L _ _ => F9)
  (rename News h₀ L _ _ => N9)
  refine hret _ _ _ _ _ _ F9 (news_rot4 N9) ?_ (by k_ne) (by k_ne) (by k_ne) rfl rfl
  repeat (first | exact IntsAre.nil | refine IntsAre.cons _ _ ?_)
end Mine
end

section
open PySem PySem.W PyProof.Rows PySem.Calls PySem.Spec
set_option Elab.async false
set_option maxRecDepth 100000
set_option maxHeartbeats 8000000
set_option linter.unusedVariables false
namespace Mine
local macro_rules | `(tactic| walk_at "pad") => `(tactic| skip)
theorem anew26 : True := by
  w_top off
  exact trivial
local macro_rules | `(tactic| walk_at "binaryOp Pow int int") => `(tactic| (k_here; (with_reducible refine pow_int ?kb1 ?kb2 ?_); (case kb1 => decide); (case kb2 => decide +kernel)))
theorem st2 (w : World) (fa cdA : Nat) (L : Nat) (h₀ : Heap) (m0 : PySem.Str → Option Value) (s : Shared) (b c : Nat) (og : Obj) (cvs : List Value) (cns : List Int) (k S : Int) (t1 t2 : Tok) (n1 n2 : Nat)(ap : Nat) (avs : List Value) (n3 : Nat) (Q : Flow → Shared → Prop) (mean : ExcName → Option Value) (mg mb : PySem.Str → Option Value)
  (B : Below callerA h₀ [] h₀) (F0 : Fr h₀ L s.heap m0) (X : (hd.heap_39 w.params).In h₀) (N : News h₀ L s.heap [(b, W.listOf #[.ref c, .int k t1, .int S t2] n1), (c, W.listOf cvs.toArray n2), (L + 1, og), (ap, W.listOf avs.toArray n3)]) (T : Top hd.view_39 (looseW hd.view_39 []) mean mg mb h₀)
  (hi : IntsAre cvs cns) (hk0 : 0 ≤ k) (hk1 : k < 500) (hl : cns.length ≤ 24) (hS : 0 ≤ S) (hS1 : S < 89) (hbc : b ≠ c) (hbg : b ≠ L + 1) (hcg : c ≠ L + 1)(hg : og.data = .cell none) (hia : IntsAre avs [1, 127, 128, 129, 32767, 32768, 32769, 8388608, 8388609, 2147483647, 2147483648, 5, 300, 29519, 65611]) (hba : b ≠ ap) (hca : c ≠ ap) (hga : L + 1 ≠ ap) (e0 : m0 (PySem.Str.ofString "box") = some (.ref b)) (e1 : m0 (PySem.Str.ofString "apart") = some (.ref ap))
  (hret : ∀ h' tk' m' (k' : Int) t1' t2' n1' n2' (gap : Int) tg og', Fr h₀ L h' m' → News h₀ L h' [(b, W.listOf #[.ref c, .int k' t1', .int S t2'] n1'), (c, W.listOf cvs.toArray n2'), (L + 1, og')] → og'.data = .cell (some (.int gap tg)) → 1 ≤ gap → gap ≤ 2147483648 → 0 ≤ k' → k' ≤ k + 1 → m' (PySem.Str.ofString "box") = some (.ref b) → Q .next { s with heap := h', toks := tk' }) :
  wpAny (model PySem.Challenge.rw_no0046_01.row.prog w) (callerA.deeper (envOfC lawName lawScope L fa (.ref cdA))) (exec (lawSt 2) (envOfC lawName lawScope L fa (.ref cdA))) Q (fun _ _ => False) s := by
  have F := fr_lay [((PySem.Str.ofString "box"), .ref b), ((PySem.Str.ofString "apart"), .ref ap)] F0 (by simpa using ⟨e0, e1⟩)
  clear F0 e0 e1
  simp only [lay] at F
  unfold lawName
  conv in (occs := *) lawScope => all_goals whnf
  conv in lawSt 2 => whnf
  cases hi with
  | nil =>
    have hi9 : IntsAre [] [] := .nil
    (repeat' (first | (with_reducible (k_here; (with_reducible show wpAny _ _ (call (Value.ref 74) _) _ _ _); k_dflt (refine' Ctr.use' (by k_asm) (by k_asm) (by k_asm) (by first | k_asm | exact news_tl (by k_asm) | exact news_rot4 (by k_asm)) (by k_asm) rfl (by ktr_room) (by ktr_units) (take4 _ _ _ _ _ _ _ _ _ _ _ _ _ _ _ _ _ _ _ _ _ _ _ (by assumption) _ _ _ _ _ _) ?_; iterate 12 (first | assumption | omega | k_ne)); intro v' led' h' tk' hp' F' N'; obtain ⟨r', t', t1', n1', e1', lo', hi', e2'⟩ := hp'; subst e1'; subst e2'; (try k_sweep))) | (k_unfold; (try dsimp only)) | (k_end; kc_close) | walk1 | (dsimp only; walk1) | (leave1; (try dsimp only)) | fail "no step"))
    all_goals (
      (rename Fr h₀ L _ _ => F9)
      (rename News h₀ L _ _ => N9)
      (rename _ = Data.cell (some _) => d9)
      first
        | exact hret _ _ _ _ _ _ _ _ _ _ _ F9 (news_hd3 N9) d9 (kmn_in (lo := 1) (hi := 2147483648) (by show _ < 15; omega) (by decide)).1 (kmn_in (lo := 1) (hi := 2147483648) (by show _ < 15; omega) (by decide)).2 (by omega) (by omega) rfl
        | exact hret _ _ _ _ _ _ _ _ _ _ _ F9 (news_hd3 (news_tl N9)) d9 (Int.le_add_of_nonneg_left (Int.fmod_nonneg_of_pos _ (by decide))) (Int.add_one_le_of_lt (Int.fmod_lt_of_pos _ (by decide))) (by omega) (by omega) rfl)
  | cons n0 t0 hi0 =>
    have hi9 := IntsAre.cons n0 t0 hi0
    (repeat' (first | (with_reducible (k_here; (with_reducible show wpAny _ _ (call (Value.ref 74) _) _ _ _); k_dflt (refine' Ctr.use' (by k_asm) (by k_asm) (by k_asm) (by first | k_asm | exact news_tl (by k_asm) | exact news_rot4 (by k_asm)) (by k_asm) rfl (by ktr_room) (by ktr_units) (take4 _ _ _ _ _ _ _ _ _ _ _ _ _ _ _ _ _ _ _ _ _ _ _ (by assumption) _ _ _ _ _ _) ?_; iterate 12 (first | assumption | omega | k_ne)); intro v' led' h' tk' hp' F' N'; obtain ⟨r', t', t1', n1', e1', lo', hi', e2'⟩ := hp'; subst e1'; subst e2'; (try k_sweep))) | (k_unfold; (try dsimp only)) | (k_end; kc_close) | walk1 | (dsimp only; walk1) | (leave1; (try dsimp only)) | fail "no step"))
    all_goals (
      (rename Fr h₀ L _ _ => F9)
      (rename News h₀ L _ _ => N9)
      (rename _ = Data.cell (some _) => d9)
      first
        | exact hret _ _ _ _ _ _ _ _ _ _ _ F9 (news_hd3 N9) d9 (kmn_in (lo := 1) (hi := 2147483648) (by show _ < 15; omega) (by decide)).1 (kmn_in (lo := 1) (hi := 2147483648) (by show _ < 15; omega) (by decide)).2 (by omega) (by omega) rfl
        | exact hret _ _ _ _ _ _ _ _ _ _ _ F9 (news_hd3 (news_tl N9)) d9 (Int.le_add_of_nonneg_left (Int.fmod_nonneg_of_pos _ (by decide))) (Int.add_one_le_of_lt (Int.fmod_lt_of_pos _ (by decide))) (by omega) (by omega) rfl)
end Mine
end

section
open PySem PySem.W PyProof.Rows PySem.Calls PySem.Spec PyProof.Rows.LCg PyProof.Rows.LCt
set_option maxRecDepth 100000
set_option maxHeartbeats 2000000
namespace Mine
def tupO (its : Array Value) (n : Nat) : Obj := { cls := .type "tuple", data := .seq its n }
/-- a tuple of the ledger -/
def InTup (ax : Addr) (its : Array Value) (news : List (Addr × Obj)) : Prop := False ∨ ∃ o, (ax, o) ∈ news ∧ o.cls = .type "tuple" ∧ ∃ n, o.data = .seq its n
section
variable {prog : Program} {w : World} {A : Around} {E : Value → Shared → Prop} {s : Shared} {h₀ : Heap} {L : Addr} {m : PySem.Str → Option Value} {env : Env}
theorem InTup.tuple {h : Heap} {ax : Addr} {its : Array Value} {news : List (Addr × Obj)} (x : InTup ax its news) (N : News h₀ L h news) : h.IsTuple ax its := by
  rcases x with x | ⟨o, hm, r⟩
  · exact x.elim
  · exact ⟨o, (N _ hm).1, r⟩
theorem tuple_st {ax I : Addr} {its : Array Value} : ∀ i (h h' : Heap) (o : Obj) (nw : List (Addr × Obj)), (h.IsTupleIter I ax i ∧ h.IsTuple ax its) → h.get? I = some o → h'.get? I = some o → (∀ b o, h₀.get? b = some o → h'.get? b = some o) → News h₀ L h' nw → InTup ax its nw → (h'.IsTupleIter I ax i ∧ h'.IsTuple ax its) :=
  fun i h h' o nw st e e' k N S => ⟨by obtain ⟨o', q, r⟩ := st.1; rw [e] at q; cases q; exact ⟨o, e', r⟩, S.tuple N⟩
def SrcTup (prog : Program) (w : World) (A : Around) (h₀ : Heap) (L : Addr) (m : PySem.Str → Option Value) (env : Env) (elt : Expr) (x : PySem.Str) (scope : Scope) (cl : List (PySem.Str × Addr)) (Fin : Shared → List Value → List (Addr × Obj) → Prop) (xv : Value) (s₁ : Shared) : Prop :=
  ∃ ax its news, xv = .ref ax ∧ A.handled = none ∧ Fr h₀ L s₁.heap m ∧ News h₀ L s₁.heap news ∧ InTup ax its news ∧ its.size ≤ sizeLine ∧
    ∀ s₂ : Shared, (∃ h, s₂ = { s₁ with heap := h }) → CompRest prog w A h₀ L m env elt x scope cl s₂ (InTup ax its) (fun i v => its[i]? = some v) (Fin s₂) its.size 0 [] news
theorem SrcTup.intro {elt : Expr} {x : PySem.Str} {scope : Scope} {cl : List (PySem.Str × Addr)} {Fin : Shared → List Value → List (Addr × Obj) → Prop} {ax : Addr} {its : Array Value} {k : Nat} {news : List (Addr × Obj)} {s₁ : Shared}
    (hh : A.handled = none) (F : Fr h₀ L s₁.heap m) (N : News h₀ L s₁.heap news) (hm : (ax, ({ cls := .type "tuple", data := .seq its k } : Obj)) ∈ news) (hsz : its.size ≤ sizeLine)
    (h : ∀ g, CompRest prog w A h₀ L m env elt x scope cl { s₁ with heap := g } (InTup ax its) (fun i v => its[i]? = some v) (Fin { s₁ with heap := g }) its.size 0 [] news) :
    SrcTup prog w A h₀ L m env elt x scope cl Fin (.ref ax) s₁ := ⟨ax, its, news, rfl, hh, F, N, .inr ⟨_, hm, rfl, _, rfl⟩, hsz, fun _ ⟨g, e⟩ => e ▸ h g⟩
def SrcTupT (prog : Program) (w : World) (A : Around) (h₀ : Heap) (L : Addr) (m : PySem.Str → Option Value) (env : Env) (ct elt : Expr) (x : PySem.Str) (scope : Scope) (cl : List (PySem.Str × Addr)) (Fin : Shared → List Value → List (Addr × Obj) → Prop) (xv : Value) (s₁ : Shared) : Prop :=
  ∃ ax its news, xv = .ref ax ∧ A.handled = none ∧ Fr h₀ L s₁.heap m ∧ News h₀ L s₁.heap news ∧ InTup ax its news ∧ its.size ≤ sizeLine ∧
    ∀ s₂ : Shared, (∃ h, s₂ = { s₁ with heap := h }) → CompRestT prog w A h₀ L m env ct elt x scope cl s₂ (InTup ax its) (fun i v => its[i]? = some v) (Fin s₂) its.size 0 [] news
theorem SrcTupT.intro {ct elt : Expr} {x : PySem.Str} {scope : Scope} {cl : List (PySem.Str × Addr)} {Fin : Shared → List Value → List (Addr × Obj) → Prop} {ax : Addr} {its : Array Value} {k : Nat} {news : List (Addr × Obj)} {s₁ : Shared}
    (hh : A.handled = none) (F : Fr h₀ L s₁.heap m) (N : News h₀ L s₁.heap news) (hm : (ax, ({ cls := .type "tuple", data := .seq its k } : Obj)) ∈ news) (hsz : its.size ≤ sizeLine)
    (h : ∀ g, CompRestT prog w A h₀ L m env ct elt x scope cl { s₁ with heap := g } (InTup ax its) (fun i v => its[i]? = some v) (Fin { s₁ with heap := g }) its.size 0 [] news) :
    SrcTupT prog w A h₀ L m env ct elt x scope cl Fin (.ref ax) s₁ := ⟨ax, its, news, rfl, hh, F, N, .inr ⟨_, hm, rfl, _, rfl⟩, hsz, fun _ ⟨g, e⟩ => e ▸ h g⟩
theorem compEnd_head {I C D : Addr} {s₁ : Shared} {oI oC oD : Obj} {S : List (Addr × Obj) → Prop} {rest : Value → List (Addr × Obj) → Prop} {y : Value} {h' : Heap} {tk : Nat} {news' : List (Addr × Obj)}
    (F : Fr h₀ L h' m) (N : News h₀ L h' ((I, oI) :: (C, oC) :: (D, oD) :: news')) (off : Off3 I C D news') (hS : S news') (r : rest y news') : CompEnd h₀ L m s₁ I oI C oC D oD S rest y { s₁ with heap := h', toks := tk } :=
  CompEnd.intro F N news' (fun _ hp => hp) off hS r
theorem inTup_of {ax : Addr} {its : Array Value} {news : List (Addr × Obj)} {o : Obj} (hm : (ax, o) ∈ news) (hc : o.cls = .type "tuple") (n : Nat) (hd : o.data = .seq its n) : InTup ax its news := .inr ⟨o, hm, hc, n, hd⟩
/-- [elt for x in (..) if ct]: the tuple is one of the ledger -/
theorem ListComp_TupT {ct elt iter : Expr} {x : PySem.Str} {px : Pos} {scope : Scope} {cl : List (PySem.Str × Addr)} {pos : Pos} {Q : Value → Shared → Prop} (F₀ : Fr h₀ L s.heap m)
    (hclos : closureFor scope env = pure cl) (hcell : ∀ y ∈ scope.names, y.2 ≠ .cell) (hkind : scope.kind = .function)
    (hnames : ∀ y ∈ scope.names, y.2 = .local → scope.names.lookup y.1 = some .local) (hx : scope.names.lookup x = some .local)
    (h : wpAny (model prog w) A (eval iter env) (SrcTupT prog w A h₀ L m env ct elt x scope cl (fun s₂ => FinE h₀ L m s₂ Q)) E s)
    (hs : ∀ x, foldedSetIterable iter env x = pure x := by intro _; rfl) :
    wpAny (model prog w) A (eval (.ListComp elt [⟨.Name x px, iter, [ct], 0⟩] scope pos) env) Q E s := by
  rw [eval_ListComp]
  refine wpAny_comprehension_free (use := none) rfl hs hclos hkind hnames (wpAny_mono h (fun xv s₁ h₁ => ?_) fun _ _ e => e)
  obtain ⟨ax, its, news, rfl, hh, F, N, S, hsz, R⟩ := h₁
  have ht := S.tuple N
  have hlt : ax < s₁.heap.objs.size := by obtain ⟨_, e, _⟩ := ht; exact Heap.lt_size e
  refine wpAny_pyIter_tuple ht ?_
  have up : ∀ b o, s₁.heap.get? b = some o → (s₁.heap.push { cls := .type "tuple_iterator", data := .fields #[.ref ax, .int 0 0] }).get? b = some o := fun b o e => Heap.get?_push_of_some _ e
  refine block_T (Walks.tuple hh s₁.heap.objs.size ax (Nat.ne_of_lt hlt) its) hsz (fun i h st => by obtain ⟨o, e, _⟩ := st.1; exact ⟨o, e⟩) tuple_st hcell hkind hx ⟨⟨_, Heap.get?_push_size _ rfl, rfl, rfl⟩, ht.at (up ax)⟩ (fun b hb => ?_)
    (F.keeps up) (N.grown up) (Nat.ne_of_lt F.ns.lt) (next_is_new F) (fun p hp => Nat.ne_of_lt (Heap.lt_size (N p hp).1)) S (R _ ⟨_, rfl⟩) ?_
  · rw [Heap.size_push]
    rcases List.mem_cons.mp hb with rfl | hb
    · exact Nat.lt_succ_self _
    · rw [List.mem_singleton.mp hb]; exact Nat.lt_succ_of_lt hlt
  · intro D C h tk m' ys news' F' N' o1 hn hC₀ hD₀ hCL hDL hCD offC fin
    refine ⟨m', hn, fun h'' hs'' => fin D h'' tk (F'.change hs'' hCL hC₀) (fun p hp => ⟨hs''.extBut _ _ ?_ (N' p hp).1, (N' p hp).2⟩) o1⟩
    rcases List.mem_cons.mp hp with rfl | hp
    · exact Ne.symm hCD
    · exact offC p hp
/-- y = [elt for x in (..)]: the tuple is one of the ledger -/
theorem Assign_ListComp_Tup {elt iter : Expr} {x y : PySem.Str} {px py : Pos} {scope : Scope} {cl : List (PySem.Str × Addr)} {pos spos : Pos} {Q : Flow → Shared → Prop} (F₀ : Fr h₀ L s.heap m) (hLe : env.locals = L)
    (hsw : swapsWith (.ListComp elt [⟨.Name x px, iter, [], 0⟩] scope pos) (some (.Name y py)) spos.line env = pure true)
    (hclos : closureFor scope env = pure cl) (hcell : ∀ z ∈ scope.names, z.2 ≠ .cell) (hkind : scope.kind = .function)
    (hnames : ∀ z ∈ scope.names, z.2 = .local → scope.names.lookup z.1 = some .local) (hx : scope.names.lookup x = some .local)
    (hy : env.kindOf y = some .local) (hp : (env.scope.kind == .class || (env.scope.kind == .module && env.locals != env.globals)) = false)
    (h : wpAny (model prog w) A (eval iter env) (SrcTup prog w A h₀ L m env elt x scope cl (fun s₂ => FinA h₀ L m s₂ y Q)) E s)
    (hs : ∀ x, foldedSetIterable iter env x = pure x := by intro _; rfl) :
    wpAny (model prog w) A (exec (.Assign [.Name y py] (.ListComp elt [⟨.Name x px, iter, [], 0⟩] scope pos) spos) env) Q E s := by
  subst hLe
  rw [exec_Assign_Name_used _ _ _ _ hsw]
  refine wpAny_bind (wpAny_standAt (wpAny_bind ?_))
  show wpAny _ A (do let _ ← comprehension (.ListComp elt [⟨.Name x px, iter, [], 0⟩] scope pos) scope env _ (newList []) false (eval iter env) (some (assign (.Name y py) env))) _ _ s
  refine wpAny_bind (wpAny_mono (wpAny_comprehension_free (use := some (assign (.Name y py) env)) (Q := fun _ s' => Q .next s') rfl hs hclos hkind hnames
    (wpAny_mono h (fun xv s₁ h₁ => ?_) fun _ _ e => e)) (fun _ s' hq => wpAny_pure (wpAny_pure hq)) fun _ _ e => e)
  obtain ⟨ax, its, news, rfl, hh, F, N, S, hsz, R⟩ := h₁
  have ht := S.tuple N
  have hlt : ax < s₁.heap.objs.size := by obtain ⟨_, e, _⟩ := ht; exact Heap.lt_size e
  refine wpAny_pyIter_tuple ht ?_
  have up : ∀ b o, s₁.heap.get? b = some o → (s₁.heap.push { cls := .type "tuple_iterator", data := .fields #[.ref ax, .int 0 0] }).get? b = some o := fun b o e => Heap.get?_push_of_some _ e
  refine block_U (Walks.tuple hh s₁.heap.objs.size ax (Nat.ne_of_lt hlt) its) hsz (fun i h st => by obtain ⟨o, e, _⟩ := st.1; exact ⟨o, e⟩) tuple_st hcell hkind hx ⟨⟨_, Heap.get?_push_size _ rfl, rfl, rfl⟩, ht.at (up ax)⟩ (fun b hb => ?_)
    (F.keeps up) (N.grown up) (Nat.ne_of_lt F.ns.lt) (next_is_new F) (fun p hp => Nat.ne_of_lt (Heap.lt_size (N p hp).1)) S (R _ ⟨_, rfl⟩) ?_
  · rw [Heap.size_push]
    rcases List.mem_cons.mp hb with rfl | hb
    · exact Nat.lt_succ_self _
    · rw [List.mem_singleton.mp hb]; exact Nat.lt_succ_of_lt hlt
  · intro D C h' tk m' ys news' F' N' o1 hn hC₀ hD₀ hCL hDL hCD offC fin
    show wpAny _ A (assign (.Name y py) env (.ref D)) _ _ _
    refine wpAny_assign_Name (wpAny_storeName_local hy F'.ns (fun h₂ hn₂ hs₂ => ?_) hp)
    have hL₀ : h₀.get? env.locals = none := Heap.get?_none_of_le F'.above
    have F₂ : Fr h₀ env.locals h₂ (fun z => if z = y then some (.ref D) else m z) := ⟨hn₂, fun b o e => hs₂.extBut b o (fun q => by rw [q, hL₀] at e; cases e) (F'.keep b o e), F'.above⟩
    refine ⟨m', hn.sameBut hs₂ hCL, fun h'' hs'' => fin D h'' _ (F₂.change hs'' hCL hC₀) (fun p hp => ?_) o1⟩
    have z : h₂.get? p.1 = some p.2 := hs₂.extBut _ _ (N' p hp).2.1 (N' p hp).1
    refine ⟨hs''.extBut _ _ ?_ z, (N' p hp).2⟩
    rcases List.mem_cons.mp hp with rfl | hp
    · exact Ne.symm hCD
    · exact offC p hp
end
end Mine
end

section
open PySem PySem.W PyProof.Rows PySem.Calls PySem.Spec
set_option Elab.async false
set_option maxRecDepth 100000
set_option maxHeartbeats 8000000
set_option linter.unusedVariables false
namespace Mine
theorem anew28 : True := by
  w_top off
  exact trivial
theorem pow_61 {prog : Program} {w : World} {A : Around} {E : Value → Shared → Prop} {s : Shared} {t u : Tok} {Q : Value → Shared → Prop} (h : Q (.int 2305843009213693952 s.toks) { s with toks := s.toks + 1 }) : wpAny (model prog w) A (binaryOp .Pow (.int 2 t) (.int 61 u)) Q E s :=
  pow_int (by decide) (by decide +kernel) ((by decide : (2 : Int) ^ (61 : Int).toNat = 2305843009213693952).symm ▸ h)
local macro_rules | `(tactic| walk_at "binaryOp Pow int int") => `(tactic| (k_here; (with_reducible refine pow_61 ?_)))
/-- what acked is; a is the number below -/
def AckIs (v : Value) (a : Int) : Prop := (v = .none ∧ a = -1) ∨ (∃ t, v = .int a t ∧ 0 ≤ a ∧ a ≤ 2305843009213693952)
theorem st3 (w : World) (fa cdA : Nat) (L : Nat) (h₀ : Heap) (m0 : PySem.Str → Option Value) (s : Shared) (b c : Nat) (og : Obj) (cvs : List Value) (cns : List Int) (k S : Int) (t1 t2 : Tok) (n1 n2 : Nat)(gap : Int) (tg : Tok) (Q : Flow → Shared → Prop) (mean : ExcName → Option Value) (mg mb : PySem.Str → Option Value)
  (B : Below callerA h₀ [] h₀) (F0 : Fr h₀ L s.heap m0) (X : (hd.heap_39 w.params).In h₀) (N : News h₀ L s.heap [(b, W.listOf #[.ref c, .int k t1, .int S t2] n1), (c, W.listOf cvs.toArray n2), (L + 1, og)]) (T : Top hd.view_39 (looseW hd.view_39 []) mean mg mb h₀)
  (hi : IntsAre cvs cns) (hl : cns.length ≤ 24) (hS : 0 ≤ S) (hS1 : S < 89) (hbc : b ≠ c) (hbg : b ≠ L + 1) (hcg : c ≠ L + 1)(hk0 : 0 ≤ k) (hk1 : k < 500) (hg : og.data = .cell (some (.int gap tg))) (hgap : 1 ≤ gap) (hgap2 : gap ≤ 2147483648)  (e0 : m0 (PySem.Str.ofString "box") = some (.ref b))
  (hret : ∀ h' tk' m' (k' : Int) t1' t2' n1' n2' av a, Fr h₀ L h' m' → News h₀ L h' [(b, W.listOf #[.ref c, .int k' t1', .int S t2'] n1'), (c, W.listOf cvs.toArray n2'), (L + 1, og)] → AckIs av a → 0 ≤ k' → k' ≤ k + 1 → m' (PySem.Str.ofString "box") = some (.ref b) → m' (PySem.Str.ofString "acked") = some av → Q .next { s with heap := h', toks := tk' }) :
  wpAny (model PySem.Challenge.rw_no0046_01.row.prog w) (callerA.deeper (envOfC lawName lawScope L fa (.ref cdA))) (exec (lawSt 3) (envOfC lawName lawScope L fa (.ref cdA))) Q (fun _ _ => False) s := by
  have F := fr_lay [((PySem.Str.ofString "box"), .ref b)] F0 (by simpa using e0)
  clear F0 e0
  simp only [lay] at F
  unfold lawName
  conv in (occs := *) lawScope => all_goals whnf
  conv in lawSt 3 => whnf
  cases hi with
  | nil =>
    have hi9 : IntsAre [] [] := .nil
    (repeat' (first | (with_reducible (k_here; (with_reducible show wpAny _ _ (call (Value.ref 74) [Value.ref _, Value.int 6 _]) _ _ _); k_dflt (refine' Ctr.use' (by k_asm) (by k_asm) (by k_asm) (news_rot4 (by k_asm)) (by k_asm) rfl (by ktr_room) (by ktr_units) (take4 _ _ _ _ _ _ _ _ _ _ _ _ _ _ _ _ _ _ _ _ _ _ _ (by assumption) _ _ _ _ _ _) ?_; iterate 12 (first | assumption | omega | k_ne)); intro v' led' h' tk' hp' F' N'; obtain ⟨r', t', t1', n1', e1', lo', hi', e2'⟩ := hp'; subst e1'; subst e2'; (try k_sweep); (obtain r0 | r0 | r0 | r0 | r0 | r0 : r' = 0 ∨ r' = 1 ∨ r' = 2 ∨ r' = 3 ∨ r' = 4 ∨ r' = 5 := (by omega)); all_goals (subst r0))) | (k_unfold; (try dsimp only)) | (k_end; kc_close) | walk1 | (dsimp only; walk1) | (leave1; (try dsimp only)) | fail "no step"))
    all_goals (
      (rename Fr h₀ L _ _ => F9)
      (rename News h₀ L _ _ => N9)
      first
        | exact hret _ _ _ _ _ _ _ _ _ (-1) F9 (news_hd3 N9) (.inl ⟨rfl, rfl⟩) (by omega) (by omega) rfl rfl
        | exact hret _ _ _ _ _ _ _ _ _ _ F9 (news_hd3 N9) (.inr ⟨_, rfl, by decide, by decide⟩) (by omega) (by omega) rfl rfl)
  | cons n0 t0 hi0 =>
    have hi9 := IntsAre.cons n0 t0 hi0
    (repeat' (first | (with_reducible (k_here; (with_reducible show wpAny _ _ (call (Value.ref 74) [Value.ref _, Value.int 6 _]) _ _ _); k_dflt (refine' Ctr.use' (by k_asm) (by k_asm) (by k_asm) (news_rot4 (by k_asm)) (by k_asm) rfl (by ktr_room) (by ktr_units) (take4 _ _ _ _ _ _ _ _ _ _ _ _ _ _ _ _ _ _ _ _ _ _ _ (by assumption) _ _ _ _ _ _) ?_; iterate 12 (first | assumption | omega | k_ne)); intro v' led' h' tk' hp' F' N'; obtain ⟨r', t', t1', n1', e1', lo', hi', e2'⟩ := hp'; subst e1'; subst e2'; (try k_sweep); (obtain r0 | r0 | r0 | r0 | r0 | r0 : r' = 0 ∨ r' = 1 ∨ r' = 2 ∨ r' = 3 ∨ r' = 4 ∨ r' = 5 := (by omega)); all_goals (subst r0))) | (k_unfold; (try dsimp only)) | (k_end; kc_close) | walk1 | (dsimp only; walk1) | (leave1; (try dsimp only)) | fail "no step"))
    all_goals (
      (rename Fr h₀ L _ _ => F9)
      (rename News h₀ L _ _ => N9)
      first
        | exact hret _ _ _ _ _ _ _ _ _ (-1) F9 (news_hd3 N9) (.inl ⟨rfl, rfl⟩) (by omega) (by omega) rfl rfl
        | exact hret _ _ _ _ _ _ _ _ _ _ F9 (news_hd3 N9) (.inr ⟨_, rfl, by decide, by decide⟩) (by omega) (by omega) rfl rfl)
end Mine
end

section
open PySem PySem.W PyProof.Rows PySem.Calls PySem.Spec
set_option Elab.async false
set_option maxRecDepth 100000
set_option maxHeartbeats 8000000
set_option linter.unusedVariables false
namespace Mine
theorem anew29 : True := by
  w_top off
  exact trivial
theorem st4 (w : World) (fa cdA : Nat) (L : Nat) (h₀ : Heap) (m0 : PySem.Str → Option Value) (s : Shared) (b c : Nat) (og : Obj) (cvs : List Value) (cns : List Int) (k S : Int) (t1 t2 : Tok) (n1 n2 : Nat)(gap : Int) (tg : Tok)(a : Int) (av : Value) (Q : Flow → Shared → Prop) (mean : ExcName → Option Value) (mg mb : PySem.Str → Option Value)
  (B : Below callerA h₀ [] h₀) (F0 : Fr h₀ L s.heap m0) (X : (hd.heap_39 w.params).In h₀) (N : News h₀ L s.heap [(b, W.listOf #[.ref c, .int k t1, .int S t2] n1), (c, W.listOf cvs.toArray n2), (L + 1, og)]) (T : Top hd.view_39 (looseW hd.view_39 []) mean mg mb h₀)
  (hi : IntsAre cvs cns) (hl : cns.length ≤ 24) (hS : 0 ≤ S) (hS1 : S < 89) (hbc : b ≠ c) (hbg : b ≠ L + 1) (hcg : c ≠ L + 1)(hk0 : 0 ≤ k) (hk1 : k < 500) (hg : og.data = .cell (some (.int gap tg))) (hgap : 1 ≤ gap) (hgap2 : gap ≤ 2147483648) (hA : AckIs av a) (e0 : m0 (PySem.Str.ofString "box") = some (.ref b)) (e1 : m0 (PySem.Str.ofString "acked") = some (av))
  (hret : ∀ h' tk' m' (f : Int) tf, Fr h₀ L h' m' → News h₀ L h' [(b, W.listOf #[.ref c, .int k t1, .int S t2] n1), (c, W.listOf cvs.toArray n2), (L + 1, og)] → f = a + gap → m' (PySem.Str.ofString "box") = some (.ref b) → m' (PySem.Str.ofString "acked") = some (av) → m' (PySem.Str.ofString "full") = some (.int f tf) → Q .next { s with heap := h', toks := tk' }) :
  wpAny (model PySem.Challenge.rw_no0046_01.row.prog w) (callerA.deeper (envOfC lawName lawScope L fa (.ref cdA))) (exec (lawSt 4) (envOfC lawName lawScope L fa (.ref cdA))) Q (fun _ _ => False) s := by
  have F := fr_lay [((PySem.Str.ofString "box"), .ref b), ((PySem.Str.ofString "acked"), av)] F0 (by simpa using ⟨e0, e1⟩)
  clear F0 e0 e1
  simp only [lay] at F
  unfold lawName
  conv in (occs := *) lawScope => all_goals whnf
  conv in lawSt 4 => whnf
  rcases hA with ⟨rfl, rfl⟩ | ⟨ta, rfl, ha1, ha2⟩
  · k_steps
    all_goals (
      (rename Fr h₀ L _ _ => F9)
      (rename News h₀ L _ _ => N9)
      exact hret _ _ _ _ _ F9 N9 (by omega) rfl rfl rfl)
  · k_steps
    all_goals (
      (rename Fr h₀ L _ _ => F9)
      (rename News h₀ L _ _ => N9)
      exact hret _ _ _ _ _ F9 N9 (by omega) rfl rfl rfl)
end Mine
end

section
open PySem PySem.W PyProof.Rows PySem.Calls PySem.Spec
set_option Elab.async false
set_option maxRecDepth 100000
set_option maxHeartbeats 8000000
set_option linter.unusedVariables false
namespace Mine
local macro_rules | `(tactic| walk_at "pad") => `(tactic| skip)
theorem anew30 : True := by
  w_top off
  exact trivial
theorem st5 (w : World) (fa cdA : Nat) (L : Nat) (h₀ : Heap) (m0 : PySem.Str → Option Value) (s : Shared) (b c : Nat) (og : Obj) (cvs : List Value) (cns : List Int) (k S : Int) (t1 t2 : Tok) (n1 n2 : Nat)(gap : Int) (tg : Tok)(a : Int) (av : Value)(f : Int) (tf : Tok) (Q : Flow → Shared → Prop) (mean : ExcName → Option Value) (mg mb : PySem.Str → Option Value)
  (B : Below callerA h₀ [] h₀) (F0 : Fr h₀ L s.heap m0) (X : (hd.heap_39 w.params).In h₀) (N : News h₀ L s.heap [(b, W.listOf #[.ref c, .int k t1, .int S t2] n1), (c, W.listOf cvs.toArray n2), (L + 1, og)]) (T : Top hd.view_39 (looseW hd.view_39 []) mean mg mb h₀)
  (hi : IntsAre cvs cns) (hl : cns.length ≤ 24) (hS : 0 ≤ S) (hS1 : S < 89) (hbc : b ≠ c) (hbg : b ≠ L + 1) (hcg : c ≠ L + 1)(hk0 : 0 ≤ k) (hk1 : k < 500) (hg : og.data = .cell (some (.int gap tg))) (hgap : 1 ≤ gap) (hgap2 : gap ≤ 2147483648) (hA : AckIs av a) (hf : f = a + gap)  (e0 : m0 (PySem.Str.ofString "box") = some (.ref b)) (e1 : m0 (PySem.Str.ofString "acked") = some (av)) (e2 : m0 (PySem.Str.ofString "full") = some (.int f tf))
  (hret : ∀ h' tk' m' (z : Int) tz, Fr h₀ L h' m' → News h₀ L h' [(b, W.listOf #[.ref c, .int k t1, .int S t2] n1), (c, W.listOf cvs.toArray n2), (L + 1, og)] → SizeIs gap z → m' (PySem.Str.ofString "box") = some (.ref b) → m' (PySem.Str.ofString "acked") = some (av) → m' (PySem.Str.ofString "full") = some (.int f tf) → m' (PySem.Str.ofString "size") = some (.int z tz) → Q .next { s with heap := h', toks := tk' }) :
  wpAny (model PySem.Challenge.rw_no0046_01.row.prog w) (callerA.deeper (envOfC lawName lawScope L fa (.ref cdA))) (exec (lawSt 5) (envOfC lawName lawScope L fa (.ref cdA))) Q (fun _ _ => False) s := by
  have F := fr_lay [((PySem.Str.ofString "box"), .ref b), ((PySem.Str.ofString "acked"), av), ((PySem.Str.ofString "full"), .int f tf)] F0 (by simpa using ⟨e0, e1, e2⟩)
  clear F0 e0 e1 e2
  simp only [lay] at F
  unfold lawName
  conv in (occs := *) lawScope => all_goals whnf
  conv in lawSt 5 => whnf
  rcases hA with ⟨rfl, rfl⟩ | ⟨ta, rfl, ha1, ha2⟩
  · (repeat' (first | (with_reducible (k_here; (with_reducible show wpAny _ _ (call (Value.ref 48) _) _ _ _); k_dflt (first | refine Ctr.use' (by k_asm) (by k_asm) (by k_asm) (by k_asm) (by k_asm) rfl (by ktr_room) (by ktr_units) (ns_none _ _ _ _ _ _ _ _ _ (by omega) (by omega)) ?_ | refine Ctr.use' (by k_asm) (by k_asm) (by k_asm) (by k_asm) (by k_asm) rfl (by ktr_room) (by ktr_units) (ns_some _ _ _ _ _ _ _ _ _ _ _ (by omega) (by omega) (by omega)) ?_); intro v' led' h' tk' hp' F' N'; obtain ⟨e1', z', t', e2', hz'⟩ := hp'; subst e1'; subst e2'; (try k_sweep))) | (k_unfold; (try dsimp only)) | (k_end; kc_close) | walk1 | (dsimp only; walk1) | (leave1; (try dsimp only)) | fail "no step"))
    all_goals (
      (rename Fr h₀ L _ _ => F9)
      (rename News h₀ L _ _ => N9)
      (rename SizeIs _ _ => z9)
      exact hret _ _ _ _ _ F9 N9 (by rw [show gap = f + 1 from by omega]; exact z9) rfl rfl rfl rfl)
  · (repeat' (first | (with_reducible (k_here; (with_reducible show wpAny _ _ (call (Value.ref 48) _) _ _ _); k_dflt (first | refine Ctr.use' (by k_asm) (by k_asm) (by k_asm) (by k_asm) (by k_asm) rfl (by ktr_room) (by ktr_units) (ns_none _ _ _ _ _ _ _ _ _ (by omega) (by omega)) ?_ | refine Ctr.use' (by k_asm) (by k_asm) (by k_asm) (by k_asm) (by k_asm) rfl (by ktr_room) (by ktr_units) (ns_some _ _ _ _ _ _ _ _ _ _ _ (by omega) (by omega) (by omega)) ?_); intro v' led' h' tk' hp' F' N'; obtain ⟨e1', z', t', e2', hz'⟩ := hp'; subst e1'; subst e2'; (try k_sweep))) | (k_unfold; (try dsimp only)) | (k_end; kc_close) | walk1 | (dsimp only; walk1) | (leave1; (try dsimp only)) | fail "no step"))
    all_goals (
      (rename Fr h₀ L _ _ => F9)
      (rename News h₀ L _ _ => N9)
      (rename SizeIs _ _ => z9)
      exact hret _ _ _ _ _ F9 N9 (by rw [show gap = f - a from by omega]; exact z9) rfl rfl rfl rfl)
end Mine
end

section
open PySem PySem.W PyProof.Rows PySem.Calls PySem.Spec
set_option Elab.async false
set_option maxRecDepth 100000
set_option maxHeartbeats 8000000
set_option linter.unusedVariables false
namespace Mine
theorem anew31 : True := by
  w_top off
  exact trivial
local macro_rules | `(tactic| walk_at "binaryOp Pow int int") => `(tactic| (k_here; (with_reducible refine pow_62 ?_)))
local macro_rules | `(tactic| walk_at "binaryOp Pow int int") => `(tactic| (k_here; (with_reducible refine pow_W (by assumption) ?_)))
local macro_rules | `(tactic| walk_at "binaryOp FloorDiv int int") => `(tactic| (k_here; (rename Win _ _ _ => wi9); (with_reducible refine floordiv_int ?kbe ?_ (Or.inl (Win.py wi9 _))); (case kbe => omega)))
local macro_rules | `(tactic| walk_at "exec Assign cons ListComp") => `(tactic| (k_here; (with_reducible show wpAny _ _ (exec (Stmt.Assign _ (PySem.Expr.ListComp _ [PySem.Comprehension.mk _ (PySem.Expr.Tuple _ _ _) _ _] _ _) _) _) _ _ _); k_dflt (refine Assign_ListComp_Tup (F₀ := by k_asm) (by rfl) (by with_unfolding_all rfl) (by rfl) (by decide) (by rfl) (by decide) (by rfl) (by rfl) (by rfl) ?_)))
local macro_rules | `(tactic| walk_at "exec Assign cons ListComp") => `(tactic| (k_here; (with_reducible show wpAny _ _ (exec (Stmt.Assign _ (PySem.Expr.ListComp _ [PySem.Comprehension.mk _ (PySem.Expr.Name _ _) (_ :: _) _] _ _) _) _) _ _ _); k_dflt (refine LCt.Assign_ListComp_T (F₀ := by k_asm) (by rfl) (by with_unfolding_all rfl) (by with_unfolding_all rfl) (by decide) (by rfl) (by decide) (by rfl) (by rfl) (by rfl) ?_)))
local macro_rules | `(tactic| walk_at "CompSrcT") => `(tactic| (k_here; k_dflt (refine LCt.CompSrcT.ledger (by rfl) (by k_asm) (by k_asm) (by k_mem) (by first | size_fits | exact Nat.le_of_ble_eq_true rfl) ?_; intro g'; (show LCt.CompRestT _ _ _ _ _ _ _ _ _ _ _ _ _ _ _ _ 3 _ _ _))))
local macro_rules | `(tactic| walk_at "SrcTup") => `(tactic| (k_here; k_dflt (refine SrcTup.intro (by rfl) (by k_asm) (by k_asm) (by k_mem) (by first | size_fits | exact Nat.le_of_ble_eq_true rfl) ?_; intro g'; (show LCg.CompRest _ _ _ _ _ _ _ _ _ _ _ _ _ _ _ 3 _ _ _))))
local macro_rules | `(tactic| walk_at "CompRest") => `(tactic| (with_unfolding_all (refine LCg.CompRest.succ ?_; intro v' I' oI' C' oC' D' m' h' tk' E' hv' hC' hx' F' N' off' ne'; have off0' := off'; (first | lcg_open hv' | (obtain ⟨t9', hv9'⟩ := hv'; subst hv9')); (try simp only [LCg.Off3, and_true] at off'))))
local macro_rules | `(tactic| walk_at "CompRestT") => `(tactic| (with_unfolding_all (refine LCt.CompRestT.succ ?_; intro v' I' oI' C' oC' D' m' h' tk' E' hv' hC' hx' F' N' off' ne'; have off0' := off'; (first | lcg_open hv' | (obtain ⟨t9', hv9'⟩ := hv'; subst hv9')); (try simp only [LCg.Off3, and_true] at off'))))
local macro_rules | `(tactic| walk_at "CompEnd") => `(tactic| (refine' compEnd_head ?F ?N ?o ?S ?_; (case F => assumption); (case N => assumption); (case o => assumption); (case S => first | (refine' inTup_of ?m rfl _ rfl; (case m => k_mem)) | exact Or.inr ⟨_, by k_mem, rfl, _, rfl⟩)))
/-- what is known of the restored number -/
def RestIs (W h e told r : Int) : Prop := (e.fdiv W * W + told ≤ e - h → e.fdiv W * W + told < 4611686018427387904 - W → r = e.fdiv W * W + told + W) ∧ (e + h < e.fdiv W * W + told → W ≤ e.fdiv W * W + told → r = e.fdiv W * W + told - W) ∧ (e - h < e.fdiv W * W + told → e.fdiv W * W + told ≤ e + h → r = e.fdiv W * W + told)
theorem restIs_F (W h e told : Int) (hh : 0 < h) : RestIs W h e told (restF W h e told) :=
  ⟨fun a b => (restA a b).symm, fun a b => (restD (by omega) a b).symm, fun a b => (restG (by omega) (by omega)).symm⟩
theorem Ctr.weaken {w : World} {f : Addr} {vs : List Value} {pre : Led} {post post' : Value → Led → Prop} (C : Ctr w f vs pre post) (k : ∀ v led, post v led → post' v led) : Ctr w f vs pre post' :=
  fun dp un gd cn cs a ccd cl outer A₀ base h₀ L m s Q E mean mg mb B F X N T hk hd hu hret => C dp un gd cn cs a ccd cl outer A₀ base h₀ L m s Q E mean mg mb B F X N T hk hd hu fun v led h' tk' p => hret v led h' tk' (k v led p)
theorem rsG_some (w : World) (told z seen W h : Int) (t1 t2 t3 : Tok) (pre : Led) (x : Win z W h) (h1 : 0 ≤ told) (h2 : told < W) (h3 : 0 ≤ seen) (h4 : seen < 4611686018427387904) :
    Ctr w 62 [.int told t1, .int z t2, .int seen t3] pre (fun v led => led = pre ∧ ∃ r t, v = .int r t ∧ RestIs W h (seen + 1) told r) :=
  (rs_some w told z seen W h t1 t2 t3 pre x h1 h2 h3 h4).weaken fun v led q => ⟨q.1, _, q.2.choose, q.2.choose_spec, restIs_F _ _ _ _ (by have := x.two; have := x.big; omega)⟩
theorem rsG_none (w : World) (told z W h : Int) (t1 t2 : Tok) (pre : Led) (x : Win z W h) (h1 : 0 ≤ told) (h2 : told < W) :
    Ctr w 62 [.int told t1, .int z t2, .none] pre (fun v led => led = pre ∧ ∃ r t, v = .int r t ∧ RestIs W h 0 told r) :=
  (rs_none w told z W h t1 t2 pre x h1 h2).weaken fun v led q => ⟨q.1, _, q.2.choose, q.2.choose_spec, restIs_F _ _ _ _ (by have := x.two; have := x.big; omega)⟩
abbrev CtrW (w : World) (f : Addr) (vs : List Value) (pre : Led) (post : Value → Led → Prop) : Prop :=
  ∀ (dp un : Nat) (gd : Option (List Code)) (cn : PySem.Str) (cs : Scope) (a : Addr) (ccd : Value) (cl : List (PySem.Str × Addr)) (outer : List Env) (A₀ : Around) (base h₀ : Heap) (L : Addr) (m : PySem.Str → Option Value) (s : Shared) (Q E : Value → Shared → Prop) (mean : ExcName → Option Value) (mg mb : PySem.Str → Option Value),
    Below A₀ base outer h₀ → Fr h₀ L s.heap m → (hd.heap_39 w.params).In h₀ → News h₀ L s.heap pre → Top hd.view_39 (looseW hd.view_39 []) mean mg mb h₀ → cs.kind = .function → dp + 20 < recursionLimit → un + 300 < cLine →
    (∀ (v : Value) (led : Led) (h' : Heap) (tk' : Nat), post v led → Fr h₀ L h' m → News h₀ L h' led → Q v { s with heap := h', toks := tk' }) →
    wpAny (model PySem.Challenge.rw_no0046_01.row.prog w) (ktrTop dp un gd cn cs L a ccd cl outer) (call (.ref f) vs) Q E s
theorem nil_no {x : Int} {l : List Int} {i : Decidable (x :: l = [])} (h : @decide (x :: l = []) i = true) : False := absurd (of_decide_eq_true h) (List.cons_ne_nil _ _)
theorem news_end4 {h₀ h : Heap} {L : Addr} {p1 p2 p3 p4 : Addr × Obj} : ∀ {l : Led}, News h₀ L h (l ++ [p1, p2, p3, p4]) → News h₀ L h [p1, p2, p3, p4] := fun N q hq => N q (List.mem_append_right _ hq)
local macro_rules | `(tactic| walk_at "compareOp Eq ref ref") => `(tactic| (k_here; (with_reducible show wpAny _ _ (compareOp CmpOp.Eq (Value.ref _) (Value.ref _)) _ _ _); (with_unfolding_all refine' eq_intsK ?k1 ?k2 ?k3 ?k4 ?k5 ?_; (case k1 => is_list); (case k2 => repeat (first | exact IntsAre.nil | refine IntsAre.cons _ _ ?_)); (case k3 => is_list); (case k4 => repeat (first | exact IntsAre.nil | refine IntsAre.cons _ _ ?_)); (case k5 => ktr_units); k_whole)))
local macro_rules | `(tactic| walk_at "call ref") => `(tactic| (k_here; (with_reducible show wpAny _ _ (call (Value.ref 62) _) _ _ _); (rename Win _ _ _ => wi9); k_dflt (first | refine Ctr.use' (by k_asm) (by k_asm) (by k_asm) (by k_asm) (by k_asm) rfl (by ktr_room) (by ktr_units) (rsG_some _ _ _ _ _ _ _ _ _ _ wi9 (by assumption) (by assumption) (by assumption) (by assumption)) ?_ | refine Ctr.use' (by k_asm) (by k_asm) (by k_asm) (by k_asm) (by k_asm) rfl (by ktr_room) (by ktr_units) (rsG_none _ _ _ _ _ _ _ _ wi9 (by assumption) (by assumption)) ?_); intro v' led' h' tk' hp' F' N'; obtain ⟨e1', r', t', e2', i1', i2', i3'⟩ := hp'; subst e1'; subst e2'; (try k_sweep)))
theorem lrA_some (w : World) (told z seen W h : Int) (t1 t2 t3 : Tok) (d0 d1 d2 d3 : Nat) (o0 o1 o2 o3 : Obj) (x : Win z W h) (h1 : 0 ≤ told) (h2 : told < W) (h3 : 0 ≤ seen) (h4 : seen < 4611686018427387904) 
    (q1 : (seen + 1).fdiv W * W ≤ (seen + 1)) (q2 : (seen + 1) < (seen + 1).fdiv W * W + W) (q3 : 0 ≤ (seen + 1).fdiv W * W) (a1 : (seen + 1).fdiv W * W + told ≤ (seen + 1) - h) :
    CtrW w 84 [.int told t1, .int z t2, .int seen t3] [(d0, o0), (d1, o1), (d2, o2), (d3, o3)] (fun v led => led = [(d0, o0), (d1, o1), (d2, o2), (d3, o3)] ∧ v = .bool true) := by
  intro dp un gd cn cs a ccd cl outer A₀ base h₀ L m s Q E mean mg mb B F X N T hk hd hu hret
  have w1 := x.two
  have w2 := x.big
  have w3 := x.small
  (refine wpAny_call ?_; k_dflt (first
    | cell_enter
    | (refine' code_defC ?k1 ?k2 ?k3 ?k4 ?k5 ?kA ?kF ?kK ?k6 ?k7 ?k8 ?k9 ?kB ?kD ?_ ?c2 ?c3 ?c4; (case kA => exact rfl); (case kF => exact rfl); (case kK => first | exact rfl | assumption); (case k1 => k_asm); (case k2 => k_asm); (case k3 => k_asm); (case k4 => k_asm); (case k5 => k_asm); (case k6 => k_is); (case k7 => k_is); (case k8 => ktr_room); (case k9 => first | exact BindsTo.of_eq rfl | exact binds_K (by k_in) rfl (by k_is) rfl rfl rfl); (case kB => exact rfl); (case kD => decide +kernel); (case c2 => exact rfl); (case c3 => exact rfl); (case c4 => exact rfl); k_whole; intro g' L' h' tk' cells' FG' F' N' Y' B' X' T' lq1; (try k_lt lq1); k_cells Y'; (try simp only [List.cons_append, List.nil_append] at N'); (try dsimp only); (try k_lift B'); (try k_fold))))
  k_steps
  all_goals (
    (rename Fr h₀ L _ _ => F9)
    (rename News h₀ L _ _ => N9)
    first
      | (refine hret _ [(d0, o0), (d1, o1), (d2, o2), (d3, o3)] _ _ ⟨rfl, rfl⟩ F9 ?_; repeat (first | (with_reducible exact N9) | (replace N9 := news_tl N9)))
      | (refine hret _ [(d0, o0), (d1, o1), (d2, o2), (d3, o3)] _ _ ⟨rfl, congrArg Value.bool (beq_iff_eq.mpr ?_)⟩ F9 ?_; (· simp only [Int.reduceToNat, List.getD_cons_zero]; omega); repeat (first | (with_reducible exact N9) | (replace N9 := news_tl N9)))
      | (exfalso; refine' nil_no ?z8; (case z8 => assumption)))
theorem lrB_some (w : World) (told z seen W h : Int) (t1 t2 t3 : Tok) (d0 d1 d2 d3 : Nat) (o0 o1 o2 o3 : Obj) (x : Win z W h) (h1 : 0 ≤ told) (h2 : told < W) (h3 : 0 ≤ seen) (h4 : seen < 4611686018427387904) 
    (q1 : (seen + 1).fdiv W * W ≤ (seen + 1)) (q2 : (seen + 1) < (seen + 1).fdiv W * W + W) (q3 : 0 ≤ (seen + 1).fdiv W * W) (a1 : (seen + 1) + h < (seen + 1).fdiv W * W + told) :
    CtrW w 84 [.int told t1, .int z t2, .int seen t3] [(d0, o0), (d1, o1), (d2, o2), (d3, o3)] (fun v led => led = [(d0, o0), (d1, o1), (d2, o2), (d3, o3)] ∧ v = .bool true) := by
  intro dp un gd cn cs a ccd cl outer A₀ base h₀ L m s Q E mean mg mb B F X N T hk hd hu hret
  have w1 := x.two
  have w2 := x.big
  have w3 := x.small
  (refine wpAny_call ?_; k_dflt (first
    | cell_enter
    | (refine' code_defC ?k1 ?k2 ?k3 ?k4 ?k5 ?kA ?kF ?kK ?k6 ?k7 ?k8 ?k9 ?kB ?kD ?_ ?c2 ?c3 ?c4; (case kA => exact rfl); (case kF => exact rfl); (case kK => first | exact rfl | assumption); (case k1 => k_asm); (case k2 => k_asm); (case k3 => k_asm); (case k4 => k_asm); (case k5 => k_asm); (case k6 => k_is); (case k7 => k_is); (case k8 => ktr_room); (case k9 => first | exact BindsTo.of_eq rfl | exact binds_K (by k_in) rfl (by k_is) rfl rfl rfl); (case kB => exact rfl); (case kD => decide +kernel); (case c2 => exact rfl); (case c3 => exact rfl); (case c4 => exact rfl); k_whole; intro g' L' h' tk' cells' FG' F' N' Y' B' X' T' lq1; (try k_lt lq1); k_cells Y'; (try simp only [List.cons_append, List.nil_append] at N'); (try dsimp only); (try k_lift B'); (try k_fold))))
  k_steps
  all_goals (
    (rename Fr h₀ L _ _ => F9)
    (rename News h₀ L _ _ => N9)
    first
      | (refine hret _ [(d0, o0), (d1, o1), (d2, o2), (d3, o3)] _ _ ⟨rfl, rfl⟩ F9 ?_; repeat (first | (with_reducible exact N9) | (replace N9 := news_tl N9)))
      | (refine hret _ [(d0, o0), (d1, o1), (d2, o2), (d3, o3)] _ _ ⟨rfl, congrArg Value.bool (beq_iff_eq.mpr ?_)⟩ F9 ?_; (· simp only [Int.reduceToNat, List.getD_cons_zero]; omega); repeat (first | (with_reducible exact N9) | (replace N9 := news_tl N9)))
      | (exfalso; refine' nil_no ?z8; (case z8 => assumption)))
theorem lrC_some (w : World) (told z seen W h : Int) (t1 t2 t3 : Tok) (d0 d1 d2 d3 : Nat) (o0 o1 o2 o3 : Obj) (x : Win z W h) (h1 : 0 ≤ told) (h2 : told < W) (h3 : 0 ≤ seen) (h4 : seen < 4611686018427387904) 
    (q1 : (seen + 1).fdiv W * W ≤ (seen + 1)) (q2 : (seen + 1) < (seen + 1).fdiv W * W + W) (q3 : 0 ≤ (seen + 1).fdiv W * W) (a1 : (seen + 1) - h < (seen + 1).fdiv W * W + told) (a2 : (seen + 1).fdiv W * W + told ≤ (seen + 1) + h) :
    CtrW w 84 [.int told t1, .int z t2, .int seen t3] [(d0, o0), (d1, o1), (d2, o2), (d3, o3)] (fun v led => led = [(d0, o0), (d1, o1), (d2, o2), (d3, o3)] ∧ v = .bool true) := by
  intro dp un gd cn cs a ccd cl outer A₀ base h₀ L m s Q E mean mg mb B F X N T hk hd hu hret
  have w1 := x.two
  have w2 := x.big
  have w3 := x.small
  (refine wpAny_call ?_; k_dflt (first
    | cell_enter
    | (refine' code_defC ?k1 ?k2 ?k3 ?k4 ?k5 ?kA ?kF ?kK ?k6 ?k7 ?k8 ?k9 ?kB ?kD ?_ ?c2 ?c3 ?c4; (case kA => exact rfl); (case kF => exact rfl); (case kK => first | exact rfl | assumption); (case k1 => k_asm); (case k2 => k_asm); (case k3 => k_asm); (case k4 => k_asm); (case k5 => k_asm); (case k6 => k_is); (case k7 => k_is); (case k8 => ktr_room); (case k9 => first | exact BindsTo.of_eq rfl | exact binds_K (by k_in) rfl (by k_is) rfl rfl rfl); (case kB => exact rfl); (case kD => decide +kernel); (case c2 => exact rfl); (case c3 => exact rfl); (case c4 => exact rfl); k_whole; intro g' L' h' tk' cells' FG' F' N' Y' B' X' T' lq1; (try k_lt lq1); k_cells Y'; (try simp only [List.cons_append, List.nil_append] at N'); (try dsimp only); (try k_lift B'); (try k_fold))))
  k_steps
  all_goals (
    (rename Fr h₀ L _ _ => F9)
    (rename News h₀ L _ _ => N9)
    first
      | (refine hret _ [(d0, o0), (d1, o1), (d2, o2), (d3, o3)] _ _ ⟨rfl, rfl⟩ F9 ?_; repeat (first | (with_reducible exact N9) | (replace N9 := news_tl N9)))
      | (refine hret _ [(d0, o0), (d1, o1), (d2, o2), (d3, o3)] _ _ ⟨rfl, congrArg Value.bool (beq_iff_eq.mpr ?_)⟩ F9 ?_; (· simp only [Int.reduceToNat, List.getD_cons_zero]; omega); repeat (first | (with_reducible exact N9) | (replace N9 := news_tl N9)))
      | (exfalso; refine' nil_no ?z8; (case z8 => assumption)))
theorem lrB_none (w : World) (told z W h : Int) (t1 t2 : Tok) (d0 d1 d2 d3 : Nat) (o0 o1 o2 o3 : Obj) (x : Win z W h) (h1 : 0 ≤ told) (h2 : told < W) 
    (q1 : Int.fdiv 0 W * W ≤ 0) (q2 : 0 < Int.fdiv 0 W * W + W) (q3 : 0 ≤ Int.fdiv 0 W * W) (a1 : 0 + h < Int.fdiv 0 W * W + told) :
    CtrW w 84 [.int told t1, .int z t2, .none] [(d0, o0), (d1, o1), (d2, o2), (d3, o3)] (fun v led => led = [(d0, o0), (d1, o1), (d2, o2), (d3, o3)] ∧ v = .bool true) := by
  intro dp un gd cn cs a ccd cl outer A₀ base h₀ L m s Q E mean mg mb B F X N T hk hd hu hret
  have w1 := x.two
  have w2 := x.big
  have w3 := x.small
  (refine wpAny_call ?_; k_dflt (first
    | cell_enter
    | (refine' code_defC ?k1 ?k2 ?k3 ?k4 ?k5 ?kA ?kF ?kK ?k6 ?k7 ?k8 ?k9 ?kB ?kD ?_ ?c2 ?c3 ?c4; (case kA => exact rfl); (case kF => exact rfl); (case kK => first | exact rfl | assumption); (case k1 => k_asm); (case k2 => k_asm); (case k3 => k_asm); (case k4 => k_asm); (case k5 => k_asm); (case k6 => k_is); (case k7 => k_is); (case k8 => ktr_room); (case k9 => first | exact BindsTo.of_eq rfl | exact binds_K (by k_in) rfl (by k_is) rfl rfl rfl); (case kB => exact rfl); (case kD => decide +kernel); (case c2 => exact rfl); (case c3 => exact rfl); (case c4 => exact rfl); k_whole; intro g' L' h' tk' cells' FG' F' N' Y' B' X' T' lq1; (try k_lt lq1); k_cells Y'; (try simp only [List.cons_append, List.nil_append] at N'); (try dsimp only); (try k_lift B'); (try k_fold))))
  k_steps
  all_goals (
    (rename Fr h₀ L _ _ => F9)
    (rename News h₀ L _ _ => N9)
    first
      | (refine hret _ [(d0, o0), (d1, o1), (d2, o2), (d3, o3)] _ _ ⟨rfl, rfl⟩ F9 ?_; repeat (first | (with_reducible exact N9) | (replace N9 := news_tl N9)))
      | (refine hret _ [(d0, o0), (d1, o1), (d2, o2), (d3, o3)] _ _ ⟨rfl, congrArg Value.bool (beq_iff_eq.mpr ?_)⟩ F9 ?_; (· simp only [Int.reduceToNat, List.getD_cons_zero]; omega); repeat (first | (with_reducible exact N9) | (replace N9 := news_tl N9)))
      | (exfalso; refine' nil_no ?z8; (case z8 => assumption)))
theorem lrC_none (w : World) (told z W h : Int) (t1 t2 : Tok) (d0 d1 d2 d3 : Nat) (o0 o1 o2 o3 : Obj) (x : Win z W h) (h1 : 0 ≤ told) (h2 : told < W) 
    (q1 : Int.fdiv 0 W * W ≤ 0) (q2 : 0 < Int.fdiv 0 W * W + W) (q3 : 0 ≤ Int.fdiv 0 W * W) (a1 : 0 - h < Int.fdiv 0 W * W + told) (a2 : Int.fdiv 0 W * W + told ≤ 0 + h) :
    CtrW w 84 [.int told t1, .int z t2, .none] [(d0, o0), (d1, o1), (d2, o2), (d3, o3)] (fun v led => led = [(d0, o0), (d1, o1), (d2, o2), (d3, o3)] ∧ v = .bool true) := by
  intro dp un gd cn cs a ccd cl outer A₀ base h₀ L m s Q E mean mg mb B F X N T hk hd hu hret
  have w1 := x.two
  have w2 := x.big
  have w3 := x.small
  (refine wpAny_call ?_; k_dflt (first
    | cell_enter
    | (refine' code_defC ?k1 ?k2 ?k3 ?k4 ?k5 ?kA ?kF ?kK ?k6 ?k7 ?k8 ?k9 ?kB ?kD ?_ ?c2 ?c3 ?c4; (case kA => exact rfl); (case kF => exact rfl); (case kK => first | exact rfl | assumption); (case k1 => k_asm); (case k2 => k_asm); (case k3 => k_asm); (case k4 => k_asm); (case k5 => k_asm); (case k6 => k_is); (case k7 => k_is); (case k8 => ktr_room); (case k9 => first | exact BindsTo.of_eq rfl | exact binds_K (by k_in) rfl (by k_is) rfl rfl rfl); (case kB => exact rfl); (case kD => decide +kernel); (case c2 => exact rfl); (case c3 => exact rfl); (case c4 => exact rfl); k_whole; intro g' L' h' tk' cells' FG' F' N' Y' B' X' T' lq1; (try k_lt lq1); k_cells Y'; (try simp only [List.cons_append, List.nil_append] at N'); (try dsimp only); (try k_lift B'); (try k_fold))))
  k_steps
  all_goals (
    (rename Fr h₀ L _ _ => F9)
    (rename News h₀ L _ _ => N9)
    first
      | (refine hret _ [(d0, o0), (d1, o1), (d2, o2), (d3, o3)] _ _ ⟨rfl, rfl⟩ F9 ?_; repeat (first | (with_reducible exact N9) | (replace N9 := news_tl N9)))
      | (refine hret _ [(d0, o0), (d1, o1), (d2, o2), (d3, o3)] _ _ ⟨rfl, congrArg Value.bool (beq_iff_eq.mpr ?_)⟩ F9 ?_; (· simp only [Int.reduceToNat, List.getD_cons_zero]; omega); repeat (first | (with_reducible exact N9) | (replace N9 := news_tl N9)))
      | (exfalso; refine' nil_no ?z8; (case z8 => assumption)))
theorem fdivW (e W : Int) (hW : 0 < W) : e.fdiv W * W ≤ e ∧ e < e.fdiv W * W + W := by
  have h1 := Int.fmod_add_mul_fdiv e W
  have h2 := Int.fmod_nonneg_of_pos e hW
  have h3 := Int.fmod_lt_of_pos e hW
  have h4 : W * e.fdiv W = e.fdiv W * W := Int.mul_comm _ _
  omega
theorem fdivW0 (e W : Int) (hW : 0 < W) (he : 0 ≤ e) : 0 ≤ e.fdiv W * W :=
  Int.mul_nonneg (Int.fdiv_nonneg he (by omega)) (by omega)
theorem lr_some (w : World) (told z seen W h : Int) (t1 t2 t3 : Tok) (d0 d1 d2 d3 : Nat) (o0 o1 o2 o3 : Obj) (x : Win z W h) (h1 : 0 ≤ told) (h2 : told < W) (h3 : 0 ≤ seen) (h4 : seen < 4611686018427387904) :
    CtrW w 84 [.int told t1, .int z t2, .int seen t3] [(d0, o0), (d1, o1), (d2, o2), (d3, o3)] (fun v led => led = [(d0, o0), (d1, o1), (d2, o2), (d3, o3)] ∧ v = .bool true) := by
  have hW : 0 < W := by have := x.big; omega
  have q := fdivW (seen + 1) W hW
  have q3 := fdivW0 (seen + 1) W hW (by omega)
  by_cases a1 : (seen + 1).fdiv W * W + told ≤ seen + 1 - h
  · exact lrA_some w told z seen W h t1 t2 t3 d0 d1 d2 d3 o0 o1 o2 o3 x h1 h2 h3 h4 q.1 q.2 q3 a1
  · by_cases a2 : seen + 1 + h < (seen + 1).fdiv W * W + told
    · exact lrB_some w told z seen W h t1 t2 t3 d0 d1 d2 d3 o0 o1 o2 o3 x h1 h2 h3 h4 q.1 q.2 q3 a2
    · exact lrC_some w told z seen W h t1 t2 t3 d0 d1 d2 d3 o0 o1 o2 o3 x h1 h2 h3 h4 q.1 q.2 q3 (by omega) (by omega)
theorem lr_none (w : World) (told z W h : Int) (t1 t2 : Tok) (d0 d1 d2 d3 : Nat) (o0 o1 o2 o3 : Obj) (x : Win z W h) (h1 : 0 ≤ told) (h2 : told < W) :
    CtrW w 84 [.int told t1, .int z t2, .none] [(d0, o0), (d1, o1), (d2, o2), (d3, o3)] (fun v led => led = [(d0, o0), (d1, o1), (d2, o2), (d3, o3)] ∧ v = .bool true) := by
  have w2 := x.big
  have w1 := x.two
  have hW : 0 < W := by omega
  have q := fdivW 0 W hW
  have q3 := fdivW0 0 W hW (by omega)
  by_cases a2 : 0 + h < Int.fdiv 0 W * W + told
  · exact lrB_none w told z W h t1 t2 d0 d1 d2 d3 o0 o1 o2 o3 x h1 h2 q.1 q.2 q3 a2
  · exact lrC_none w told z W h t1 t2 d0 d1 d2 d3 o0 o1 o2 o3 x h1 h2 q.1 q.2 q3 (by omega) (by omega)
end Mine
end

section
open PySem PySem.W PyProof.Rows PySem.Calls PySem.Spec
set_option Elab.async false
set_option maxRecDepth 100000
set_option maxHeartbeats 8000000
set_option linter.unusedVariables false
namespace Mine
theorem anew32 : True := by
  w_top off
  exact trivial
theorem pow_256a {prog : Program} {w : World} {A : Around} {E : Value → Shared → Prop} {s : Shared} {t u : Tok} {Q : Value → Shared → Prop} (h : Q (.int 256 s.toks) { s with toks := s.toks + 1 }) : wpAny (model prog w) A (binaryOp .Pow (.int 256 t) (.int 1 u)) Q E s :=
  pow_int (by decide) (by decide +kernel) ((by decide : (256 : Int) ^ (1 : Int).toNat = 256).symm ▸ h)
theorem pow_256b {prog : Program} {w : World} {A : Around} {E : Value → Shared → Prop} {s : Shared} {t u : Tok} {Q : Value → Shared → Prop} (h : Q (.int 65536 s.toks) { s with toks := s.toks + 1 }) : wpAny (model prog w) A (binaryOp .Pow (.int 256 t) (.int 2 u)) Q E s :=
  pow_int (by decide) (by decide +kernel) ((by decide : (256 : Int) ^ (2 : Int).toNat = 65536).symm ▸ h)
theorem pow_256c {prog : Program} {w : World} {A : Around} {E : Value → Shared → Prop} {s : Shared} {t u : Tok} {Q : Value → Shared → Prop} (h : Q (.int 16777216 s.toks) { s with toks := s.toks + 1 }) : wpAny (model prog w) A (binaryOp .Pow (.int 256 t) (.int 3 u)) Q E s :=
  pow_int (by decide) (by decide +kernel) ((by decide : (256 : Int) ^ (3 : Int).toNat = 16777216).symm ▸ h)
theorem pow_256d {prog : Program} {w : World} {A : Around} {E : Value → Shared → Prop} {s : Shared} {t u : Tok} {Q : Value → Shared → Prop} (h : Q (.int 4294967296 s.toks) { s with toks := s.toks + 1 }) : wpAny (model prog w) A (binaryOp .Pow (.int 256 t) (.int 4 u)) Q E s :=
  pow_int (by decide) (by decide +kernel) ((by decide : (256 : Int) ^ (4 : Int).toNat = 4294967296).symm ▸ h)
local macro_rules | `(tactic| walk_at "binaryOp Pow int int") => `(tactic| (k_here; (first | (with_reducible refine pow_256a ?_) | (with_reducible refine pow_256b ?_) | (with_reducible refine pow_256c ?_) | (with_reducible refine pow_256d ?_))))
local macro_rules | `(tactic| walk_at "SrcTupT") => `(tactic| (k_here; k_dflt (refine SrcTupT.intro (by rfl) (by k_asm) (by k_asm) (by k_mem) (by first | size_fits | exact Nat.le_of_ble_eq_true rfl) ?_; intro g'; (show LCt.CompRestT _ _ _ _ _ _ _ _ _ _ _ _ _ _ _ _ 4 _ _ _))))
local macro_rules | `(tactic| walk_at "CompRestT") => `(tactic| (with_unfolding_all (refine LCt.CompRestT.succ ?_; intro v' I' oI' C' oC' D' m' h' tk' E' hv' hC' hx' F' N' off' ne'; have off0' := off'; (first | lcg_open hv' | (obtain ⟨t9', hv9'⟩ := hv'; subst hv9')); (try simp only [LCg.Off3, and_true] at off'))))
local macro_rules | `(tactic| walk_at "CompEnd") => `(tactic| (refine' compEnd_head ?F ?N ?o ?S ?_; (case F => assumption); (case N => assumption); (case o => assumption); (case S => first | (refine' inTup_of ?m rfl _ rfl; (case m => k_mem)) | exact Or.inr ⟨_, by k_mem, rfl, _, rfl⟩)))
theorem sz1 {g z : Int} (x : SizeIs g z) (a : 2 * g ≤ 256) : ¬ 1 ≠ z := by unfold SizeIs at x; omega
theorem sz2 {g z : Int} (x : SizeIs g z) (a : ¬ 2 * g ≤ 256) (b : 2 * g ≤ 65536) : ¬ 2 ≠ z := by unfold SizeIs at x; omega
theorem sz3 {g z : Int} (x : SizeIs g z) (a : ¬ 2 * g ≤ 65536) (b : 2 * g ≤ 16777216) : ¬ 3 ≠ z := by unfold SizeIs at x; omega
theorem sz4 {g z : Int} (x : SizeIs g z) (a : ¬ 2 * g ≤ 16777216) : ¬ 4 ≠ z := by unfold SizeIs at x; omega
theorem st6 (w : World) (fa cdA : Nat) (L : Nat) (h₀ : Heap) (m0 : PySem.Str → Option Value) (s : Shared) (b c : Nat) (og : Obj) (cvs : List Value) (cns : List Int) (k S : Int) (t1 t2 : Tok) (n1 n2 : Nat)(gap : Int) (tg : Tok)(a : Int) (av : Value)(f : Int) (tf : Tok) (z : Int) (tz : Tok) (Q : Flow → Shared → Prop) (mean : ExcName → Option Value) (mg mb : PySem.Str → Option Value)
  (B : Below callerA h₀ [] h₀) (F0 : Fr h₀ L s.heap m0) (X : (hd.heap_39 w.params).In h₀) (N : News h₀ L s.heap [(b, W.listOf #[.ref c, .int k t1, .int S t2] n1), (c, W.listOf cvs.toArray n2), (L + 1, og)]) (T : Top hd.view_39 (looseW hd.view_39 []) mean mg mb h₀)
  (hi : IntsAre cvs cns) (hl : cns.length ≤ 24) (hS : 0 ≤ S) (hS1 : S < 89) (hbc : b ≠ c) (hbg : b ≠ L + 1) (hcg : c ≠ L + 1)(hk0 : 0 ≤ k) (hk1 : k < 500) (hg : og.data = .cell (some (.int gap tg))) (hgap : 1 ≤ gap) (hgap2 : gap ≤ 2147483648) (hA : AckIs av a) (hz : SizeIs gap z)  (e0 : m0 (PySem.Str.ofString "box") = some (.ref b)) (e1 : m0 (PySem.Str.ofString "acked") = some (av)) (e2 : m0 (PySem.Str.ofString "full") = some (.int f tf)) (e3 : m0 (PySem.Str.ofString "size") = some (.int z tz))
  (hret : ∀ h' tk' m' , Fr h₀ L h' m' → News h₀ L h' [(b, W.listOf #[.ref c, .int k t1, .int S t2] n1), (c, W.listOf cvs.toArray n2), (L + 1, og)] → m' (PySem.Str.ofString "box") = some (.ref b) → m' (PySem.Str.ofString "acked") = some (av) → m' (PySem.Str.ofString "full") = some (.int f tf) → m' (PySem.Str.ofString "size") = some (.int z tz) → Q .next { s with heap := h', toks := tk' }) :
  wpAny (model PySem.Challenge.rw_no0046_01.row.prog w) (callerA.deeper (envOfC lawName lawScope L fa (.ref cdA))) (exec (lawSt 6) (envOfC lawName lawScope L fa (.ref cdA))) Q (fun _ _ => False) s := by
  have F := fr_lay [((PySem.Str.ofString "box"), .ref b), ((PySem.Str.ofString "acked"), av), ((PySem.Str.ofString "full"), .int f tf), ((PySem.Str.ofString "size"), .int z tz)] F0 (by simpa using ⟨e0, e1, e2, e3⟩)
  clear F0 e0 e1 e2 e3
  simp only [lay] at F
  unfold lawName
  conv in (occs := *) lawScope => all_goals whnf
  conv in lawSt 6 => whnf
  have hz0 := hz
  unfold SizeIs at hz
  all_goals (
    (repeat' (first | (with_reducible (k_here; (with_reducible show wpAny _ _ (eval (PySem.Expr.ListComp _ [PySem.Comprehension.mk _ (PySem.Expr.Tuple _ _ _) (_ :: _) _] _ _) _) _ _ _); k_dflt (refine ListComp_TupT (F₀ := by k_asm) (by with_unfolding_all rfl) (by decide) (by rfl) (by decide) (by rfl) ?_))) | (k_unfold; (try dsimp only)) | (k_end; kc_close) | walk1 | (dsimp only; walk1) | (leave1; (try dsimp only)) | fail "no step"))
    all_goals (
      (rename Fr h₀ L _ _ => F9)
      (rename News h₀ L _ _ => N9)
      first
      | exact absurd (by assumption) (sz1 hz0 (by assumption))
      | exact absurd (by assumption) (sz2 hz0 (by assumption) (by assumption))
      | exact absurd (by assumption) (sz3 hz0 (by assumption) (by assumption))
      | exact absurd (by assumption) (sz4 hz0 (by assumption))
      | (refine hret _ _ _ F9 ?_ rfl rfl rfl rfl; repeat (first | (with_reducible exact N9) | (replace N9 := news_tl N9)))))
end Mine
end

section
open PySem PySem.W PyProof.Rows PySem.Calls PySem.Spec
set_option Elab.async false
set_option maxRecDepth 100000
set_option maxHeartbeats 8000000
set_option linter.unusedVariables false
namespace Mine
theorem anew33 : True := by
  w_top off
  exact trivial
theorem CtrC2.use {w : World} {f : Addr} {vs : List Value} {pre : Led} {post : Value → Led → Prop} (C : CtrC2 w f vs pre post) {dp un : Nat} {gd : Option (List Code)} {cn : PySem.Str} {cs : Scope} {a : Addr} {ccd : Value} {cl : List (PySem.Str × Addr)} {outer : List Env} {A₀ : Around} {base h₀ : Heap} {L : Addr} {m : PySem.Str → Option Value} {s : Shared} {Q E : Value → Shared → Prop} {mean : ExcName → Option Value} {mg mb : PySem.Str → Option Value}
    (B : Below A₀ base outer h₀) (F : Fr h₀ L s.heap m) (X : (hd.heap_39 w.params).In h₀) (N : News h₀ L s.heap pre) (T : Top hd.view_39 (looseW hd.view_39 []) mean mg mb h₀) (hk : cs.kind = .function) (hd : dp + 9 < recursionLimit) (hu : un + 60 < cLine)
    (hret : ∀ (v : Value) (led : Led) (h' : Heap) (tk' : Nat), post v led → Fr h₀ L h' m → News h₀ L h' led → Q v { s with heap := h', toks := tk' }) :
    wpC (model PySem.Challenge.rw_no0046_01.row.prog w) (ktrTop dp un gd cn cs L a ccd cl outer) (call (.ref f) vs) Q E s := C _ _ _ _ _ _ _ _ _ _ _ _ _ _ _ _ _ _ _ _ B F X N T hk hd hu hret
theorem sizeIs_one {g y z : Int} (a : SizeIs g y) (b : SizeIs g z) : y = z := by
  rcases a with a | a | a | a <;> rcases b with b | b | b | b <;> omega
theorem st7 (w : World) (fa cdA : Nat) (L : Nat) (h₀ : Heap) (m0 : PySem.Str → Option Value) (s : Shared) (b c : Nat) (og : Obj) (cvs : List Value) (cns : List Int) (k S : Int) (t1 t2 : Tok) (n1 n2 : Nat)(gap : Int) (tg : Tok)(a : Int) (av : Value)(f : Int) (tf : Tok) (z : Int) (tz : Tok) (Q : Flow → Shared → Prop) (mean : ExcName → Option Value) (mg mb : PySem.Str → Option Value)
  (B : Below callerA h₀ [] h₀) (F0 : Fr h₀ L s.heap m0) (X : (hd.heap_39 w.params).In h₀) (N : News h₀ L s.heap [(b, W.listOf #[.ref c, .int k t1, .int S t2] n1), (c, W.listOf cvs.toArray n2), (L + 1, og)]) (T : Top hd.view_39 (looseW hd.view_39 []) mean mg mb h₀)
  (hi : IntsAre cvs cns) (hl : cns.length ≤ 24) (hS : 0 ≤ S) (hS1 : S < 89) (hbc : b ≠ c) (hbg : b ≠ L + 1) (hcg : c ≠ L + 1)(hk0 : 0 ≤ k) (hk1 : k < 500) (hg : og.data = .cell (some (.int gap tg))) (hgap : 1 ≤ gap) (hgap2 : gap ≤ 2147483648) (hA : AckIs av a) (hf : f = a + gap) (hz : SizeIs gap z)  (e0 : m0 (PySem.Str.ofString "box") = some (.ref b)) (e1 : m0 (PySem.Str.ofString "acked") = some (av)) (e2 : m0 (PySem.Str.ofString "full") = some (.int f tf)) (e3 : m0 (PySem.Str.ofString "size") = some (.int z tz))
  (hret : ∀ h' tk' m' td, Fr h₀ L h' m' → News h₀ L h' [(b, W.listOf #[.ref c, .int k t1, .int S t2] n1), (c, W.listOf cvs.toArray n2), (L + 1, og)] → m' (PySem.Str.ofString "box") = some (.ref b) → m' (PySem.Str.ofString "acked") = some (av) → m' (PySem.Str.ofString "full") = some (.int f tf) → m' (PySem.Str.ofString "size") = some (.int z tz) → m' (PySem.Str.ofString "data") = some (.bytes (byteArr (octF z.toNat (f.fmod (256 ^ z.toNat)))) td) → Q .next { s with heap := h', toks := tk' }) :
  wpC (model PySem.Challenge.rw_no0046_01.row.prog w) (callerA.deeper (envOfC lawName lawScope L fa (.ref cdA))) (exec (lawSt 7) (envOfC lawName lawScope L fa (.ref cdA))) Q (fun _ _ => False) s := by
  have F := fr_lay [((PySem.Str.ofString "box"), .ref b), ((PySem.Str.ofString "acked"), av), ((PySem.Str.ofString "full"), .int f tf), ((PySem.Str.ofString "size"), .int z tz)] F0 (by simpa using ⟨e0, e1, e2, e3⟩)
  clear F0 e0 e1 e2 e3
  simp only [lay] at F
  unfold lawName
  conv in (occs := *) lawScope => all_goals whnf
  conv in lawSt 7 => whnf
  rcases hA with ⟨rfl, rfl⟩ | ⟨ta, rfl, ha1, ha2⟩
  · skip
    refine wpC_Assign_Name (wpC_Call_Name ?_) (by with_unfolding_all rfl)
    k_steps
    k_dflt (refine' callWithC_K ?k1 ?k2 ?_; (case k1 => k_asm); (case k2 => k_is); k_whole)
    k_steps
    k_dflt (refine' CtrC2.use (cn_none w _ _ _ _ _ _ _ _ ?aa ?ab) ?B ?F ?X ?N ?T ?k ?d ?u ?_; (case aa => omega); (case ab => omega); (case B => k_asm); (case F => k_asm); (case X => k_asm); (case N => k_asm); (case T => k_asm); (case k => exact rfl); (case d => ktr_room); (case u => ktr_units); k_whole)
    intro v' led' h' tk' hp' F' N'
    obtain ⟨rfl, z', t', rfl, hz'⟩ := hp'
    obtain rfl : z' = z := sizeIs_one (by rw [show gap = f + 1 from by omega]; exact hz') hz
    k_steps
    (rename Fr h₀ L _ _ => F9)
    (rename News h₀ L _ _ => N9)
    exact hret _ _ _ _ F9 N9 rfl rfl rfl rfl rfl
  · skip
    refine wpC_Assign_Name (wpC_Call_Name ?_) (by with_unfolding_all rfl)
    k_steps
    k_dflt (refine' callWithC_K ?k1 ?k2 ?_; (case k1 => k_asm); (case k2 => k_is); k_whole)
    k_steps
    k_dflt (refine' CtrC2.use (cn_some w _ _ _ _ _ _ _ _ _ _ ?aa ?ab ?ac) ?B ?F ?X ?N ?T ?k ?d ?u ?_; (case aa => omega); (case ab => omega); (case ac => omega); (case B => k_asm); (case F => k_asm); (case X => k_asm); (case N => k_asm); (case T => k_asm); (case k => exact rfl); (case d => ktr_room); (case u => ktr_units); k_whole)
    intro v' led' h' tk' hp' F' N'
    obtain ⟨rfl, z', t', rfl, hz'⟩ := hp'
    obtain rfl : z' = z := sizeIs_one (by rw [show gap = f - a from by omega]; exact hz') hz
    k_steps
    (rename Fr h₀ L _ _ => F9)
    (rename News h₀ L _ _ => N9)
    exact hret _ _ _ _ F9 N9 rfl rfl rfl rfl rfl
end Mine
end

section
open PySem PySem.W PyProof.Rows PySem.Calls PySem.Spec
set_option Elab.async false
set_option maxRecDepth 100000
set_option maxHeartbeats 8000000
set_option linter.unusedVariables false
namespace Mine
theorem anew34 : True := by
  w_top off
  exact trivial
local macro_rules | `(tactic| walk_at "binaryOp Pow int int") => `(tactic| (k_here; (with_reducible refine pow_W (by assumption) ?_)))
local macro_rules | `(tactic| walk_at "binaryOp FloorDiv int int") => `(tactic| (k_here; (rename Win _ _ _ => wi9); (with_reducible refine floordiv_int ?kbe ?_ (Or.inl (Win.py wi9 _))); (case kbe => omega)))
theorem bne_no {a b : List UInt8} (h : (a != b) = true) (e : a = b) : False := by subst e; simp at h
theorem oc_any (w : World) (n z W h : Int) (t1 t2 : Tok) (d0 d1 d2 : Nat) (o0 o1 o2 : Obj) (x : Win z W h) (h1 : 0 ≤ n) :
    Ctr w 79 [.int n t1, .int z t2] [(d0, o0), (d1, o1), (d2, o2)] (fun v led => led = [(d0, o0), (d1, o1), (d2, o2)] ∧ ∃ t, v = .bytes (byteArr (octF z.toNat n)) t) := by
  have := x.lo
  have := x.hi
  have : z = 1 ∨ z = 2 ∨ z = 3 ∨ z = 4 := by omega
  rcases this with rfl | rfl | rfl | rfl
  · exact oc1 w n t1 t2 d0 d1 d2 o0 o1 o2 h1
  · exact oc2 w n t1 t2 d0 d1 d2 o0 o1 o2 h1
  · exact oc3 w n t1 t2 d0 d1 d2 o0 o1 o2 h1
  · exact oc4 w n t1 t2 d0 d1 d2 o0 o1 o2 h1
theorem Win.fmod {z W h : Int} (x : Win z W h) (a : Int) : 0 ≤ a.fmod W := Int.fmod_nonneg_of_pos _ (by have := x.big; omega)
theorem st8 (w : World) (fa cdA : Nat) (L : Nat) (h₀ : Heap) (m0 : PySem.Str → Option Value) (s : Shared) (b c : Nat) (og : Obj) (cvs : List Value) (cns : List Int) (k S : Int) (t1 t2 : Tok) (n1 n2 : Nat)(gap : Int) (tg : Tok)(a : Int) (av : Value)(f : Int) (tf : Tok) (z Wn H : Int) (tz td : Tok) (Q : Flow → Shared → Prop) (mean : ExcName → Option Value) (mg mb : PySem.Str → Option Value)
  (B : Below callerA h₀ [] h₀) (F0 : Fr h₀ L s.heap m0) (X : (hd.heap_39 w.params).In h₀) (N : News h₀ L s.heap [(b, W.listOf #[.ref c, .int k t1, .int S t2] n1), (c, W.listOf cvs.toArray n2), (L + 1, og)]) (T : Top hd.view_39 (looseW hd.view_39 []) mean mg mb h₀)
  (hi : IntsAre cvs cns) (hl : cns.length ≤ 24) (hS : 0 ≤ S) (hS1 : S < 89) (hbc : b ≠ c) (hbg : b ≠ L + 1) (hcg : c ≠ L + 1)(hk0 : 0 ≤ k) (hk1 : k < 500) (hg : og.data = .cell (some (.int gap tg))) (hgap : 1 ≤ gap) (hgap2 : gap ≤ 2147483648) (hA : AckIs av a) (x : Win z Wn H)  (e0 : m0 (PySem.Str.ofString "box") = some (.ref b)) (e1 : m0 (PySem.Str.ofString "acked") = some (av)) (e2 : m0 (PySem.Str.ofString "full") = some (.int f tf)) (e3 : m0 (PySem.Str.ofString "size") = some (.int z tz)) (e4 : m0 (PySem.Str.ofString "data") = some (.bytes (byteArr (octF z.toNat (f.fmod (256 ^ z.toNat)))) td))
  (hret : ∀ h' tk' m' , Fr h₀ L h' m' → News h₀ L h' [(b, W.listOf #[.ref c, .int k t1, .int S t2] n1), (c, W.listOf cvs.toArray n2), (L + 1, og)] → m' (PySem.Str.ofString "box") = some (.ref b) → m' (PySem.Str.ofString "acked") = some (av) → m' (PySem.Str.ofString "full") = some (.int f tf) → m' (PySem.Str.ofString "size") = some (.int z tz) → Q .next { s with heap := h', toks := tk' }) :
  wpAny (model PySem.Challenge.rw_no0046_01.row.prog w) (callerA.deeper (envOfC lawName lawScope L fa (.ref cdA))) (exec (lawSt 8) (envOfC lawName lawScope L fa (.ref cdA))) Q (fun _ _ => False) s := by
  have F := fr_lay [((PySem.Str.ofString "box"), .ref b), ((PySem.Str.ofString "acked"), av), ((PySem.Str.ofString "full"), .int f tf), ((PySem.Str.ofString "size"), .int z tz), ((PySem.Str.ofString "data"), .bytes (byteArr (octF z.toNat (f.fmod (256 ^ z.toNat)))) td)] F0 (by simpa using ⟨e0, e1, e2, e3, e4⟩)
  clear F0 e0 e1 e2 e3 e4
  simp only [lay] at F
  unfold lawName
  conv in (occs := *) lawScope => all_goals whnf
  conv in lawSt 8 => whnf
  have w1 := x.two
  have w2 := x.big
  (repeat' (first | (with_reducible (k_here; (with_reducible show wpAny _ _ (call (Value.ref 79) _) _ _ _); (rename Win _ _ _ => wi9); k_dflt (refine Ctr.use' (by k_asm) (by k_asm) (by k_asm) (by k_asm) (by k_asm) rfl (by ktr_room) (by ktr_units) (oc_any _ _ _ _ _ _ _ _ _ _ _ _ _ wi9 (wi9.fmod _)) ?_); intro v' led' h' tk' hp' F' N'; obtain ⟨e1', t', e2'⟩ := hp'; subst e1'; subst e2'; (try k_sweep))) | (k_unfold; (try dsimp only)) | (k_end; kc_close) | walk1 | (dsimp only; walk1) | (leave1; (try dsimp only)) | fail "no step"))
  · exfalso
    (rename Win _ _ _ => x9)
    refine' bne_no ?h ?e
    (case h => assumption)
    (case e => rw [x9.pow])
  · (rename Fr h₀ L _ _ => F9)
    (rename News h₀ L _ _ => N9)
    exact hret _ _ _ F9 N9 rfl rfl rfl rfl
end Mine
end

section
open PySem PySem.W PyProof.Rows PySem.Calls PySem.Spec
set_option Elab.async false
set_option maxRecDepth 100000
set_option maxHeartbeats 8000000
set_option linter.unusedVariables false
namespace Mine
local macro_rules | `(tactic| walk_at "pad") => `(tactic| skip)
theorem anew35 : True := by
  w_top off
  exact trivial
local macro_rules | `(tactic| walk_at "binaryOp Pow int int") => `(tactic| (k_here; (with_reducible refine pow_W (by assumption) ?_)))
local macro_rules | `(tactic| walk_at "binaryOp FloorDiv int int") => `(tactic| (k_here; (rename Win _ _ _ => wi9); (with_reducible refine floordiv_int ?kbe ?_ (Or.inl (Win.py wi9 _))); (case kbe => omega)))
theorem st9 (w : World) (fa cdA : Nat) (L : Nat) (h₀ : Heap) (m0 : PySem.Str → Option Value) (s : Shared) (b c : Nat) (og : Obj) (cvs : List Value) (cns : List Int) (k S : Int) (t1 t2 : Tok) (n1 n2 : Nat)(gap : Int) (tg : Tok)(a : Int) (av : Value)(f : Int) (tf : Tok) (z Wn H : Int) (tz : Tok) (Q : Flow → Shared → Prop) (mean : ExcName → Option Value) (mg mb : PySem.Str → Option Value)
  (B : Below callerA h₀ [] h₀) (F0 : Fr h₀ L s.heap m0) (X : (hd.heap_39 w.params).In h₀) (N : News h₀ L s.heap [(b, W.listOf #[.ref c, .int k t1, .int S t2] n1), (c, W.listOf cvs.toArray n2), (L + 1, og)]) (T : Top hd.view_39 (looseW hd.view_39 []) mean mg mb h₀)
  (hi : IntsAre cvs cns) (hl : cns.length ≤ 24) (hS : 0 ≤ S) (hS1 : S < 89) (hbc : b ≠ c) (hbg : b ≠ L + 1) (hcg : c ≠ L + 1)(hk0 : 0 ≤ k) (hk1 : k < 500) (hg : og.data = .cell (some (.int gap tg))) (hgap : 1 ≤ gap) (hgap2 : gap ≤ 2147483648) (hA : AckIs av a) (x : Win z Wn H)  (e0 : m0 (PySem.Str.ofString "box") = some (.ref b)) (e1 : m0 (PySem.Str.ofString "acked") = some (av)) (e2 : m0 (PySem.Str.ofString "full") = some (.int f tf)) (e3 : m0 (PySem.Str.ofString "size") = some (.int z tz))
  (hret : ∀ h' tk' m' (tt th : Tok), Fr h₀ L h' m' → News h₀ L h' [(b, W.listOf #[.ref c, .int k t1, .int S t2] n1), (c, W.listOf cvs.toArray n2), (L + 1, og)] → m' (PySem.Str.ofString "box") = some (.ref b) → m' (PySem.Str.ofString "acked") = some (av) → m' (PySem.Str.ofString "full") = some (.int f tf) → m' (PySem.Str.ofString "size") = some (.int z tz) → m' (PySem.Str.ofString "told") = some (.int (f.fmod Wn) tt) → m' (PySem.Str.ofString "half") = some (.int H th) → Q .next { s with heap := h', toks := tk' }) :
  wpAny (model PySem.Challenge.rw_no0046_01.row.prog w) (callerA.deeper (envOfC lawName lawScope L fa (.ref cdA))) (exec (lawSt 9) (envOfC lawName lawScope L fa (.ref cdA))) Q (fun _ _ => False) s := by
  have F := fr_lay [((PySem.Str.ofString "box"), .ref b), ((PySem.Str.ofString "acked"), av), ((PySem.Str.ofString "full"), .int f tf), ((PySem.Str.ofString "size"), .int z tz)] F0 (by simpa using ⟨e0, e1, e2, e3⟩)
  clear F0 e0 e1 e2 e3
  simp only [lay] at F
  unfold lawName
  conv in (occs := *) lawScope => all_goals whnf
  conv in lawSt 9 => whnf
  have w1 := x.two
  have w2 := x.big
  k_steps
  (rename Fr h₀ L _ _ => F9)
  (rename News h₀ L _ _ => N9)
  have hH : Wn.fdiv 2 = H := by
    have h2 := x.two
    rw [Int.fdiv_eq_ediv_of_nonneg _ (by decide)]; omega
  exact hret _ _ _ _ _ F9 (news_tl N9) rfl rfl rfl rfl rfl (congrArg (fun v => some (Value.int v _)) hH)
end Mine
end

section
open PySem PySem.W PyProof.Rows PySem.Calls PySem.Spec
set_option Elab.async false
set_option maxRecDepth 100000
set_option maxHeartbeats 8000000
set_option linter.unusedVariables false
namespace Mine
theorem anew36 : True := by
  w_top off
  exact trivial
theorem st10 (w : World) (fa cdA : Nat) (L : Nat) (h₀ : Heap) (m0 : PySem.Str → Option Value) (s : Shared) (b c : Nat) (og : Obj) (cvs : List Value) (cns : List Int) (k S : Int) (t1 t2 : Tok) (n1 n2 : Nat)(gap : Int) (tg : Tok)(a : Int) (av : Value)(f : Int) (tf : Tok) (z Wn H : Int) (tz tt th : Tok) (Q : Flow → Shared → Prop) (mean : ExcName → Option Value) (mg mb : PySem.Str → Option Value)
  (B : Below callerA h₀ [] h₀) (F0 : Fr h₀ L s.heap m0) (X : (hd.heap_39 w.params).In h₀) (N : News h₀ L s.heap [(b, W.listOf #[.ref c, .int k t1, .int S t2] n1), (c, W.listOf cvs.toArray n2), (L + 1, og)]) (T : Top hd.view_39 (looseW hd.view_39 []) mean mg mb h₀)
  (hi : IntsAre cvs cns) (hl : cns.length ≤ 24) (hS : 0 ≤ S) (hS1 : S < 89) (hbc : b ≠ c) (hbg : b ≠ L + 1) (hcg : c ≠ L + 1)(hk0 : 0 ≤ k) (hk1 : k < 500) (hg : og.data = .cell (some (.int gap tg))) (hgap : 1 ≤ gap) (hgap2 : gap ≤ 2147483648) (hA : AckIs av a) (e0 : m0 (PySem.Str.ofString "box") = some (.ref b)) (e1 : m0 (PySem.Str.ofString "acked") = some (av)) (e2 : m0 (PySem.Str.ofString "full") = some (.int f tf)) (e3 : m0 (PySem.Str.ofString "size") = some (.int z tz)) (e4 : m0 (PySem.Str.ofString "told") = some (.int (f.fmod Wn) tt)) (e5 : m0 (PySem.Str.ofString "half") = some (.int H th))
  (hret : ∀ h' tk' m' (tl : Tok), Fr h₀ L h' m' → News h₀ L h' [(b, W.listOf #[.ref c, .int k t1, .int S t2] n1), (c, W.listOf cvs.toArray n2), (L + 1, og)] → m' (PySem.Str.ofString "box") = some (.ref b) → m' (PySem.Str.ofString "full") = some (.int f tf) → m' (PySem.Str.ofString "size") = some (.int z tz) → m' (PySem.Str.ofString "told") = some (.int (f.fmod Wn) tt) → m' (PySem.Str.ofString "half") = some (.int H th) → m' (PySem.Str.ofString "least") = some (.int a tl) → Q .next { s with heap := h', toks := tk' }) :
  wpAny (model PySem.Challenge.rw_no0046_01.row.prog w) (callerA.deeper (envOfC lawName lawScope L fa (.ref cdA))) (exec (lawSt 10) (envOfC lawName lawScope L fa (.ref cdA))) Q (fun _ _ => False) s := by
  have F := fr_lay [((PySem.Str.ofString "box"), .ref b), ((PySem.Str.ofString "acked"), av), ((PySem.Str.ofString "full"), .int f tf), ((PySem.Str.ofString "size"), .int z tz), ((PySem.Str.ofString "told"), .int (f.fmod Wn) tt), ((PySem.Str.ofString "half"), .int H th)] F0 (by simpa using ⟨e0, e1, e2, e3, e4, e5⟩)
  clear F0 e0 e1 e2 e3 e4 e5
  simp only [lay] at F
  unfold lawName
  conv in (occs := *) lawScope => all_goals whnf
  conv in lawSt 10 => whnf
  rcases hA with ⟨rfl, rfl⟩ | ⟨ta, rfl, ha1, ha2⟩
  · k_steps
    all_goals (
      (rename Fr h₀ L _ _ => F9)
      (rename News h₀ L _ _ => N9)
      exact hret _ _ _ _ F9 N9 rfl rfl rfl rfl rfl rfl)
  · k_steps
    all_goals (
      (rename Fr h₀ L _ _ => F9)
      (rename News h₀ L _ _ => N9)
      exact hret _ _ _ _ F9 N9 rfl rfl rfl rfl rfl rfl)
end Mine
end

section
open PySem PySem.W PyProof.Rows PySem.Calls PySem.Spec
set_option Elab.async false
set_option maxRecDepth 100000
set_option maxHeartbeats 8000000
set_option linter.unusedVariables false
namespace Mine
local macro_rules | `(tactic| walk_at "pad") => `(tactic| skip)
theorem anew37 : True := by
  w_top off
  exact trivial
theorem restF_full {W h e full : Int} (hW : W = 2 * h) (hh : 0 < h) (hf : 0 ≤ full) (hb : full + W < 4611686018427387904) (h1 : full - h < e) (h2 : e ≤ full + h - 1) : restF W h e (full.fmod W) = full := by
  have hp : 0 < W := by omega
  have e1 := fdivW e W hp
  have f1 := Int.fmod_add_mul_fdiv full W
  have f2 := Int.fmod_nonneg_of_pos full hp
  have f3 := Int.fmod_lt_of_pos full hp
  have f4 : W * full.fdiv W = full.fdiv W * W := Int.mul_comm _ _
  have k : e.fdiv W = full.fdiv W - 1 ∨ e.fdiv W = full.fdiv W ∨ e.fdiv W = full.fdiv W + 1 := by
    have a : e.fdiv W < full.fdiv W + 2 := by
      apply Int.lt_of_mul_lt_mul_right (a := W) _ (by omega)
      rw [Int.add_mul]; omega
    have b : full.fdiv W - 2 < e.fdiv W := by
      apply Int.lt_of_mul_lt_mul_right (a := W) _ (by omega)
      rw [Int.sub_mul]; omega
    omega
  unfold restF
  rcases k with k | k | k
  · rw [k, Int.sub_mul] at *
    rw [if_pos (by constructor <;> omega)]; omega
  · rw [k] at *
    rw [if_neg (by omega), if_neg (by omega)]; omega
  · rw [k, Int.add_mul] at *
    rw [if_neg (by omega), if_pos (by constructor <;> omega)]; omega
theorem rsF_some (w : World) (f z sv W h : Int) (t1 t2 t3 : Tok) (pre : Led) (x : Win z W h) (hf : 0 ≤ f) (hb : f + W < 4611686018427387904) (h3 : 0 ≤ sv) (a1 : f - h < (sv + 1)) (a2 : (sv + 1) ≤ f + h - 1) :
    Ctr w 62 [.int (f.fmod W) t1, .int z t2, .int sv t3] pre (fun v led => led = pre ∧ ∃ t, v = .int f t) := by
  have two := x.two
  have big := x.big
  have q := restF_full two (by omega) hf hb a1 a2
  have u1 := Int.fmod_nonneg_of_pos f (by omega : 0 < W)
  have u2 := Int.fmod_lt_of_pos f (by omega : 0 < W)
  exact (rs_some w _ z sv W h t1 t2 t3 pre x u1 u2 h3 (by omega)).weaken fun v led q' => ⟨q'.1, by have y := q'.2; rw [q] at y; exact y⟩
theorem rsF_none (w : World) (f z W h : Int) (t1 t2 : Tok) (pre : Led) (x : Win z W h) (hf : 0 ≤ f) (hb : f + W < 4611686018427387904) (a1 : f - h < 0) (a2 : 0 ≤ f + h - 1) :
    Ctr w 62 [.int (f.fmod W) t1, .int z t2, .none] pre (fun v led => led = pre ∧ ∃ t, v = .int f t) := by
  have two := x.two
  have big := x.big
  have q := restF_full two (by omega) hf hb a1 a2
  have u1 := Int.fmod_nonneg_of_pos f (by omega : 0 < W)
  have u2 := Int.fmod_lt_of_pos f (by omega : 0 < W)
  exact (rs_none w _ z W h t1 t2 pre x u1 u2).weaken fun v led q' => ⟨q'.1, by have y := q'.2; rw [q] at y; exact y⟩
theorem Fr.lay_back {h₀ h : Heap} {L : Addr} {m m' : PySem.Str → Option Value} (F : Fr h₀ L h m') (e : m' = m) : Fr h₀ L h m := e ▸ F
def lawIf11 : Stmt := match lawSt 11 with | .For _ _ (b :: _) _ _ => b | _ => .Pass default
theorem turn11 (w : World) (fa cdA : Nat) (L : Nat) (h₀ : Heap) (m0 : PySem.Str → Option Value) (s : Shared) (f z Wn H sv : Int) (tf tz tt th ts : Tok) (pre : Led) (Q : Flow → Shared → Prop) (mean : ExcName → Option Value) (mg mb : PySem.Str → Option Value)
  (B : Below callerA h₀ [] h₀) (F0 : Fr h₀ L s.heap m0) (X : (hd.heap_39 w.params).In h₀) (N : News h₀ L s.heap pre) (T : Top hd.view_39 (looseW hd.view_39 []) mean mg mb h₀)
  (x : Win z Wn H) (hf : 0 ≤ f) (hb : f + Wn < 4611686018427387904) (hs : -1 ≤ sv) (hs2 : sv ≤ f + H - 2)  (e0 : m0 (PySem.Str.ofString "full") = some (.int f tf)) (e1 : m0 (PySem.Str.ofString "size") = some (.int z tz)) (e2 : m0 (PySem.Str.ofString "told") = some (.int (f.fmod Wn) tt)) (e3 : m0 (PySem.Str.ofString "half") = some (.int H th)) (e4 : m0 (PySem.Str.ofString "seen") = some (.int sv ts))
  (hret : ∀ h' tk', Fr h₀ L h' m0 → News h₀ L h' pre → Q .next { s with heap := h', toks := tk' }) :
  wpAny (model PySem.Challenge.rw_no0046_01.row.prog w) (callerA.deeper (envOfC lawName lawScope L fa (.ref cdA))) (exec (lawIf11) (envOfC lawName lawScope L fa (.ref cdA))) Q (fun _ _ => False) s := by
  have F := fr_lay [((PySem.Str.ofString "full"), .int f tf), ((PySem.Str.ofString "size"), .int z tz), ((PySem.Str.ofString "told"), .int (f.fmod Wn) tt), ((PySem.Str.ofString "half"), .int H th), ((PySem.Str.ofString "seen"), .int sv ts)] F0 (by simpa using ⟨e0, e1, e2, e3, e4⟩)
  have FB := lay_eq (m := m0) (xs := [((PySem.Str.ofString "full"), .int f tf), ((PySem.Str.ofString "size"), .int z tz), ((PySem.Str.ofString "told"), .int (f.fmod Wn) tt), ((PySem.Str.ofString "half"), .int H th), ((PySem.Str.ofString "seen"), .int sv ts)])
    (by simpa using ⟨e0, e1, e2, e3, e4⟩)
  clear F0 e0 e1 e2 e3 e4
  simp only [lay] at F FB
  unfold lawName
  conv in (occs := *) lawScope => all_goals whnf
  conv in lawIf11 => whnf
  have w1 := x.two
  have w2 := x.big
  (repeat' (first | (with_reducible (k_here; (with_reducible show wpAny _ _ (call (Value.ref 62) _) _ _ _); (rename Win _ _ _ => wi9); k_dflt (first | refine Ctr.use' (by k_asm) (by k_asm) (by k_asm) (by k_asm) (by k_asm) rfl (by ktr_room) (by ktr_units) (rsF_some _ _ _ _ _ _ _ _ _ _ wi9 (by omega) (by omega) (by omega) (by omega) (by omega)) ?_ | refine Ctr.use' (by k_asm) (by k_asm) (by k_asm) (by k_asm) (by k_asm) rfl (by ktr_room) (by ktr_units) (rsF_none _ _ _ _ _ _ _ _ wi9 (by omega) (by omega) (by omega) (by omega)) ?_); intro v' led' h' tk' hp' F' N'; obtain ⟨e1', t', e2'⟩ := hp'; subst e1'; subst e2'; (try k_sweep))) | (k_unfold; (try dsimp only)) | (k_end; kc_close) | walk1 | (dsimp only; walk1) | (leave1; (try dsimp only)) | fail "no step"))
  all_goals (
    (rename Fr h₀ L _ _ => F9)
    (rename News h₀ L _ _ => N9)
    first | exact absurd rfl (by assumption : f ≠ f) | exact hret _ _ (Fr.lay_back F9 FB) N9)
end Mine
end

section
open PySem PySem.W PyProof.Rows PySem.Calls PySem.Spec
set_option Elab.async false
set_option maxRecDepth 100000
set_option maxHeartbeats 8000000
set_option linter.unusedVariables false
namespace Mine
theorem anew38 : True := by
  w_top off
  exact trivial
theorem st11 (w : World) (fa cdA : Nat) (L : Nat) (h₀ : Heap) (m0 : PySem.Str → Option Value) (s : Shared) (b c : Nat) (og : Obj) (cvs : List Value) (cns : List Int) (k S : Int) (t1 t2 : Tok) (n1 n2 : Nat)(gap : Int) (tg : Tok)(a : Int) (av : Value)(f : Int) (tf : Tok) (z Wn H : Int) (tz tt th tl : Tok) (Q : Flow → Shared → Prop) (mean : ExcName → Option Value) (mg mb : PySem.Str → Option Value)
  (B : Below callerA h₀ [] h₀) (F0 : Fr h₀ L s.heap m0) (X : (hd.heap_39 w.params).In h₀) (N : News h₀ L s.heap [(b, W.listOf #[.ref c, .int k t1, .int S t2] n1), (c, W.listOf cvs.toArray n2), (L + 1, og)]) (T : Top hd.view_39 (looseW hd.view_39 []) mean mg mb h₀)
  (hi : IntsAre cvs cns) (hl : cns.length ≤ 24) (hS : 0 ≤ S) (hS1 : S < 89) (hbc : b ≠ c) (hbg : b ≠ L + 1) (hcg : c ≠ L + 1)(hk0 : 0 ≤ k) (hk1 : k < 500) (hg : og.data = .cell (some (.int gap tg))) (hgap : 1 ≤ gap) (hgap2 : gap ≤ 2147483648)  (x : Win z Wn H) (hf : f = a + gap) (ha : -1 ≤ a) (ha2 : a ≤ 2305843009213693952)  (e0 : m0 (PySem.Str.ofString "box") = some (.ref b)) (e1 : m0 (PySem.Str.ofString "full") = some (.int f tf)) (e2 : m0 (PySem.Str.ofString "size") = some (.int z tz)) (e3 : m0 (PySem.Str.ofString "told") = some (.int (f.fmod Wn) tt)) (e4 : m0 (PySem.Str.ofString "half") = some (.int H th)) (e5 : m0 (PySem.Str.ofString "least") = some (.int a tl))
  (hret : ∀ h' tk' m' (k' : Int) t1' t2' n1' n2', Fr h₀ L h' m' → News h₀ L h' [(b, W.listOf #[.ref c, .int k' t1', .int S t2'] n1'), (c, W.listOf cvs.toArray n2'), (L + 1, og)] → 0 ≤ k' → k' ≤ k + 1 → m' (PySem.Str.ofString "box") = some (.ref b) → Q .next { s with heap := h', toks := tk' }) :
  wpAny (model PySem.Challenge.rw_no0046_01.row.prog w) (callerA.deeper (envOfC lawName lawScope L fa (.ref cdA))) (exec (lawSt 11) (envOfC lawName lawScope L fa (.ref cdA))) Q (fun _ _ => False) s := by
  have F := fr_lay [((PySem.Str.ofString "box"), .ref b), ((PySem.Str.ofString "full"), .int f tf), ((PySem.Str.ofString "size"), .int z tz), ((PySem.Str.ofString "told"), .int (f.fmod Wn) tt), ((PySem.Str.ofString "half"), .int H th), ((PySem.Str.ofString "least"), .int a tl)] F0 (by simpa using ⟨e0, e1, e2, e3, e4, e5⟩)
  clear F0 e0 e1 e2 e3 e4 e5
  simp only [lay] at F
  unfold lawName
  conv in (occs := *) lawScope => all_goals whnf
  conv in lawSt 11 => whnf
  have w1 := x.two
  have w2 := x.big
  have w3 := x.small
  (repeat' (first | (with_reducible (k_here; (with_reducible show wpAny _ _ (exec (Stmt.If _ _ _ _) _) _ _ _); k_dflt (refine' @turn11 _ _ _ _ _ _ _ _ _ _ _ _ _ _ _ _ _ _ _ _ _ _ (by k_asm) (by k_asm) (by k_asm) (by k_asm) (by k_asm) ?x ?a ?b ?c ?d ?e0 ?e1 ?e2 ?e3 ?e4 ?_; (case e0 => rfl); (case e1 => rfl); (case e2 => rfl); (case e3 => rfl); (case e4 => rfl); (case x => assumption); (case a => omega); (case b => omega); (case c => omega); (case d => omega); k_whole); intro h' tk' F' N'; (try k_sweep))) | (with_reducible (k_here; (with_reducible show wpAny _ _ (call (Value.ref 74) _) _ _ _); k_dflt (refine' Ctr.use' (by k_asm) (by k_asm) (by k_asm) (by k_asm) (by k_asm) rfl (by ktr_room) (by ktr_units) (take1 _ _ _ _ _ _ _ _ _ _ _ _ _ _ _ _ _ _ _ _ _ (by assumption) _ _ _ _) ?_; iterate 10 (first | assumption | omega | k_ne)); intro v' led' h' tk' hp' F' N'; obtain ⟨r', t', t1', n1', e1', lo', hi', e2'⟩ := hp'; subst e1'; subst e2'; (try k_sweep))) | (k_unfold; (try dsimp only)) | (k_end; kc_close) | walk1 | (dsimp only; walk1) | (leave1; (try dsimp only)) | fail "no step"))
  (rename Fr h₀ _ _ _ => F9)
  (rename News h₀ _ _ _ => N9)
  exact hret _ _ _ _ _ _ _ _ F9 (news_tl N9) (by omega) (by omega) rfl
end Mine
end

section
open PySem PySem.W PyProof.Rows PySem.Calls PySem.Spec
set_option Elab.async false
set_option maxRecDepth 100000
set_option maxHeartbeats 8000000
set_option linter.unusedVariables false
namespace Mine
theorem anew39 : True := by
  w_top off
  exact trivial
theorem Fr.set_back {h₀ h : Heap} {L : Addr} {m m' : PySem.Str → Option Value} {x : PySem.Str} {v : Option Value} (F : Fr h₀ L h (fun y => if y = x then v else m' y)) (e : m' = m) : Fr h₀ L h (fun y => if y = x then v else m y) := by
  subst e; exact F
theorem Win.of_take {r : Int} (h1 : r < 4) (h0 : 0 ≤ r) : ∃ W h, Win (1 + r) W h := by
  obtain ⟨W, h, x, -⟩ := Win.all (z := 1 + r) (by omega) (by omega)
  exact ⟨W, h, x⟩
def lawBody12 : List Stmt := match lawSt 12 with | .For _ _ b _ _ => b | _ => []
def lawT0 : Stmt := lawBody12.getD 0 (.Pass default)
def lawT1 : Stmt := lawBody12.getD 1 (.Pass default)
def lawT2 : Stmt := lawBody12.getD 2 (.Pass default)
/-- what seen is -/
def SeenIs (v : Value) : Prop := v = .none ∨ ∃ n t, v = .int n t ∧ 0 ≤ n ∧ n < 4611686018427387904
local macro_rules | `(tactic| walk_at "binaryOp Pow int int") => `(tactic| (k_here; (with_reducible refine pow_62 ?_)))
theorem turn12a (w : World) (fa cdA : Nat) (L : Nat) (h₀ : Heap) (m0 : PySem.Str → Option Value) (s : Shared) (b c I : Nat) (oI : Obj) (cvs : List Value) (cns : List Int) (k S : Int) (t1 t2 : Tok) (n1 n2 : Nat) (Q : Flow → Shared → Prop) (mean : ExcName → Option Value) (mg mb : PySem.Str → Option Value)
  (B : Below callerA h₀ [] h₀) (F0 : Fr h₀ L s.heap m0) (X : (hd.heap_39 w.params).In h₀) (N : News h₀ L s.heap [(b, W.listOf #[.ref c, .int k t1, .int S t2] n1), (c, W.listOf cvs.toArray n2), (I, oI)]) (T : Top hd.view_39 (looseW hd.view_39 []) mean mg mb h₀)
  (hi : IntsAre cvs cns) (hl : cns.length ≤ 24) (hS : 0 ≤ S) (hS1 : S < 89) (hbc : b ≠ c) (hbI : b ≠ I) (hcI : c ≠ I) (hk0 : 0 ≤ k) (hk1 : k < 600)  (e0 : m0 (PySem.Str.ofString "box") = some (.ref b))
  (hret : ∀ h' tk' (k' : Int) t1' t2' n1' z Wn H tz, Fr h₀ L h' (fun y => if y = PySem.Str.ofString "width" then some (.int z tz) else m0 y) → News h₀ L h' [(b, W.listOf #[.ref c, .int k' t1', .int S t2'] n1'), (c, W.listOf cvs.toArray n2), (I, oI)] → Win z Wn H → 0 ≤ k' → k' ≤ k + 1 → Q .next { s with heap := h', toks := tk' }) :
  wpAny (model PySem.Challenge.rw_no0046_01.row.prog w) (callerA.deeper (envOfC lawName lawScope L fa (.ref cdA))) (exec (lawT0) (envOfC lawName lawScope L fa (.ref cdA))) Q (fun _ _ => False) s := by
  have F := fr_lay [((PySem.Str.ofString "box"), .ref b)] F0 (by simpa using e0)
  have FB := lay_eq (m := m0) (xs := [((PySem.Str.ofString "box"), .ref b)]) (by simpa using e0)
  clear F0 e0
  simp only [lay] at F FB
  unfold lawName
  conv in (occs := *) lawScope => all_goals whnf
  conv in lawT0 => whnf
  (repeat' (first | (with_reducible (k_here; (with_reducible show wpAny _ _ (call (Value.ref 84) _) _ _ _); (rename Win _ _ _ => wi9); k_dflt (first | refine CtrW.use' (by k_asm) (by k_asm) (by k_asm) (news_dup (by k_asm)) (by k_asm) rfl (by ktr_room) (by ktr_units) (lr_some _ _ _ _ _ _ _ _ _ _ _ _ _ _ _ _ _ wi9 (by assumption) (by assumption) (by assumption) (by assumption)) ?_ | refine CtrW.use' (by k_asm) (by k_asm) (by k_asm) (news_dup (by k_asm)) (by k_asm) rfl (by ktr_room) (by ktr_units) (lr_none _ _ _ _ _ _ _ _ _ _ _ _ _ _ _ wi9 (by assumption) (by assumption)) ?_); intro v' led' h' tk' hp' F' N'; obtain ⟨e1', e2'⟩ := hp'; subst e1'; subst e2'; (try k_sweep))) | (with_reducible (k_here; (with_reducible show wpAny _ _ (call (Value.ref 74) [Value.ref _, Value.int 6 _]) _ _ _); k_dflt (refine' Ctr.use' (by k_asm) (by k_asm) (by k_asm) (news_rot4 (by k_asm)) (by k_asm) rfl (by ktr_room) (by ktr_units) (take4 _ _ _ _ _ _ _ _ _ _ _ _ _ _ _ _ _ _ _ _ _ _ _ (by assumption) _ _ _ _ _ _) ?_; iterate 12 (first | assumption | omega | k_ne)); intro v' led' h' tk' hp' F' N'; obtain ⟨r', t', t1', n1', e1', lo', hi', e2'⟩ := hp'; subst e1'; subst e2'; (try k_sweep); (obtain r0 | r0 | r0 | r0 | r0 | r0 : r' = 0 ∨ r' = 1 ∨ r' = 2 ∨ r' = 3 ∨ r' = 4 ∨ r' = 5 := (by omega)); all_goals (subst r0))) | (with_reducible (k_here; (with_reducible show wpAny _ _ (call (Value.ref 74) _) _ _ _); k_dflt (refine' Ctr.use' (by k_asm) (by k_asm) (by k_asm) (by k_asm) (by k_asm) rfl (by ktr_room) (by ktr_units) (take1 _ _ _ _ _ _ _ _ _ _ _ _ _ _ _ _ _ _ _ _ _ (by assumption) _ _ _ _) ?_; iterate 10 (first | assumption | omega | k_ne)); intro v' led' h' tk' hp' F' N'; obtain ⟨r', t', t1', n1', e1', lo', hi', e2'⟩ := hp'; subst e1'; subst e2'; (try k_sweep))) | (k_unfold; (try dsimp only)) | (k_end; kc_close) | walk1 | (dsimp only; walk1) | (leave1; (try dsimp only)) | fail "no step"))
  all_goals (
    (rename Fr h₀ L _ _ => F9)
    (rename News h₀ L _ _ => N9)
    (obtain ⟨W9, H9, x9⟩ := Win.of_take (by assumption) (by assumption))
    exact hret _ _ _ _ _ _ _ _ _ _ (Fr.set_back F9 FB) N9 x9 (by omega) (by omega))
theorem turn12b (w : World) (fa cdA : Nat) (L : Nat) (h₀ : Heap) (m0 : PySem.Str → Option Value) (s : Shared) (b c I : Nat) (oI : Obj) (cvs : List Value) (cns : List Int) (k S : Int) (t1 t2 : Tok) (n1 n2 : Nat) (Q : Flow → Shared → Prop) (mean : ExcName → Option Value) (mg mb : PySem.Str → Option Value)
  (B : Below callerA h₀ [] h₀) (F0 : Fr h₀ L s.heap m0) (X : (hd.heap_39 w.params).In h₀) (N : News h₀ L s.heap [(b, W.listOf #[.ref c, .int k t1, .int S t2] n1), (c, W.listOf cvs.toArray n2), (I, oI)]) (T : Top hd.view_39 (looseW hd.view_39 []) mean mg mb h₀)
  (hi : IntsAre cvs cns) (hl : cns.length ≤ 24) (hS : 0 ≤ S) (hS1 : S < 89) (hbc : b ≠ c) (hbI : b ≠ I) (hcI : c ≠ I) (hk0 : 0 ≤ k) (hk1 : k < 600)  (e0 : m0 (PySem.Str.ofString "box") = some (.ref b))
  (hret : ∀ h' tk' (k' : Int) t1' t2' n1' sv, Fr h₀ L h' (fun y => if y = PySem.Str.ofString "seen" then some sv else m0 y) → News h₀ L h' [(b, W.listOf #[.ref c, .int k' t1', .int S t2'] n1'), (c, W.listOf cvs.toArray n2), (I, oI)] → SeenIs sv → 0 ≤ k' → k' ≤ k + 1 → Q .next { s with heap := h', toks := tk' }) :
  wpAny (model PySem.Challenge.rw_no0046_01.row.prog w) (callerA.deeper (envOfC lawName lawScope L fa (.ref cdA))) (exec (lawT1) (envOfC lawName lawScope L fa (.ref cdA))) Q (fun _ _ => False) s := by
  have F := fr_lay [((PySem.Str.ofString "box"), .ref b)] F0 (by simpa using e0)
  have FB := lay_eq (m := m0) (xs := [((PySem.Str.ofString "box"), .ref b)]) (by simpa using e0)
  clear F0 e0
  simp only [lay] at F FB
  unfold lawName
  conv in (occs := *) lawScope => all_goals whnf
  conv in lawT1 => whnf
  (repeat' (first | (with_reducible (k_here; (with_reducible show wpAny _ _ (call (Value.ref 84) _) _ _ _); (rename Win _ _ _ => wi9); k_dflt (first | refine CtrW.use' (by k_asm) (by k_asm) (by k_asm) (news_dup (by k_asm)) (by k_asm) rfl (by ktr_room) (by ktr_units) (lr_some _ _ _ _ _ _ _ _ _ _ _ _ _ _ _ _ _ wi9 (by assumption) (by assumption) (by assumption) (by assumption)) ?_ | refine CtrW.use' (by k_asm) (by k_asm) (by k_asm) (news_dup (by k_asm)) (by k_asm) rfl (by ktr_room) (by ktr_units) (lr_none _ _ _ _ _ _ _ _ _ _ _ _ _ _ _ wi9 (by assumption) (by assumption)) ?_); intro v' led' h' tk' hp' F' N'; obtain ⟨e1', e2'⟩ := hp'; subst e1'; subst e2'; (try k_sweep))) | (with_reducible (k_here; (with_reducible show wpAny _ _ (call (Value.ref 74) [Value.ref _, Value.int 6 _]) _ _ _); k_dflt (refine' Ctr.use' (by k_asm) (by k_asm) (by k_asm) (news_rot4 (by k_asm)) (by k_asm) rfl (by ktr_room) (by ktr_units) (take4 _ _ _ _ _ _ _ _ _ _ _ _ _ _ _ _ _ _ _ _ _ _ _ (by assumption) _ _ _ _ _ _) ?_; iterate 12 (first | assumption | omega | k_ne)); intro v' led' h' tk' hp' F' N'; obtain ⟨r', t', t1', n1', e1', lo', hi', e2'⟩ := hp'; subst e1'; subst e2'; (try k_sweep); (obtain r0 | r0 | r0 | r0 | r0 | r0 : r' = 0 ∨ r' = 1 ∨ r' = 2 ∨ r' = 3 ∨ r' = 4 ∨ r' = 5 := (by omega)); all_goals (subst r0))) | (with_reducible (k_here; (with_reducible show wpAny _ _ (call (Value.ref 74) _) _ _ _); k_dflt (refine' Ctr.use' (by k_asm) (by k_asm) (by k_asm) (by k_asm) (by k_asm) rfl (by ktr_room) (by ktr_units) (take1 _ _ _ _ _ _ _ _ _ _ _ _ _ _ _ _ _ _ _ _ _ (by assumption) _ _ _ _) ?_; iterate 10 (first | assumption | omega | k_ne)); intro v' led' h' tk' hp' F' N'; obtain ⟨r', t', t1', n1', e1', lo', hi', e2'⟩ := hp'; subst e1'; subst e2'; (try k_sweep))) | (k_unfold; (try dsimp only)) | (k_end; kc_close) | walk1 | (dsimp only; walk1) | (leave1; (try dsimp only)) | fail "no step"))
  all_goals (
    (rename Fr h₀ L _ _ => F9)
    (rename News h₀ L _ _ => N9)
    first
      | exact hret _ _ _ _ _ _ _ (Fr.set_back F9 FB) (news_hd3 N9) (.inl rfl) (by omega) (by omega)
      | exact hret _ _ _ _ _ _ _ (Fr.set_back F9 FB) (news_hd3 N9) (.inr ⟨_, _, rfl, by decide, by decide⟩) (by omega) (by omega))
theorem CtrW.use' {w : World} {f : Addr} {vs : List Value} {pre : Led} {post : Value → Led → Prop} {dp un : Nat} {gd : Option (List Code)} {cn : PySem.Str} {cs : Scope} {a : Addr} {ccd : Value} {cl : List (PySem.Str × Addr)} {outer : List Env} {A₀ : Around} {base h₀ : Heap} {L : Addr} {m : PySem.Str → Option Value} {s : Shared} {Q E : Value → Shared → Prop} {mean : ExcName → Option Value} {mg mb : PySem.Str → Option Value}
    (B : Below A₀ base outer h₀) (F : Fr h₀ L s.heap m) (X : (hd.heap_39 w.params).In h₀) (N : News h₀ L s.heap pre) (T : Top hd.view_39 (looseW hd.view_39 []) mean mg mb h₀) (hk : cs.kind = .function) (hd : dp + 20 < recursionLimit) (hu : un + 300 < cLine) (C : CtrW w f vs pre post)
    (hret : ∀ (v : Value) (led : Led) (h' : Heap) (tk' : Nat), post v led → Fr h₀ L h' m → News h₀ L h' led → Q v { s with heap := h', toks := tk' }) :
    wpAny (model PySem.Challenge.rw_no0046_01.row.prog w) (ktrTop dp un gd cn cs L a ccd cl outer) (call (.ref f) vs) Q E s := C _ _ _ _ _ _ _ _ _ _ _ _ _ _ _ _ _ _ _ _ B F X N T hk hd hu hret
theorem news_dup {h₀ h : Heap} {L : Addr} {p1 p2 p3 : Addr × Obj} (N : News h₀ L h [p1, p2, p3]) : News h₀ L h [p1, p2, p3, p1] := fun q hq => N q (by simp only [List.mem_cons] at hq ⊢; rcases hq with h | h | h | h | h <;> simp_all)
theorem news_undup {h₀ h : Heap} {L : Addr} {p1 p2 p3 : Addr × Obj} (N : News h₀ L h [p1, p2, p3, p1]) : News h₀ L h [p1, p2, p3] := fun q hq => N q (by simp only [List.mem_cons] at hq ⊢; rcases hq with h | h | h | h <;> simp_all)
local macro_rules | `(tactic| walk_at "binaryOp Pow int int") => `(tactic| (k_here; (with_reducible refine pow_W (by assumption) ?_)))
theorem turn12c (w : World) (fa cdA : Nat) (L : Nat) (h₀ : Heap) (m0 : PySem.Str → Option Value) (s : Shared) (b c I : Nat) (oI : Obj) (cvs : List Value) (cns : List Int) (k S : Int) (t1 t2 : Tok) (n1 n2 : Nat) (z Wn H : Int) (tz : Tok) (sv : Value) (Q : Flow → Shared → Prop) (mean : ExcName → Option Value) (mg mb : PySem.Str → Option Value)
  (B : Below callerA h₀ [] h₀) (F0 : Fr h₀ L s.heap m0) (X : (hd.heap_39 w.params).In h₀) (N : News h₀ L s.heap [(b, W.listOf #[.ref c, .int k t1, .int S t2] n1), (c, W.listOf cvs.toArray n2), (I, oI)]) (T : Top hd.view_39 (looseW hd.view_39 []) mean mg mb h₀)
  (hi : IntsAre cvs cns) (hl : cns.length ≤ 24) (hS : 0 ≤ S) (hS1 : S < 89) (hbc : b ≠ c) (hbI : b ≠ I) (hcI : c ≠ I) (hk0 : 0 ≤ k) (hk1 : k < 600)  (x : Win z Wn H) (hs : SeenIs sv)  (e0 : m0 (PySem.Str.ofString "box") = some (.ref b)) (e1 : m0 (PySem.Str.ofString "width") = some (.int z tz)) (e2 : m0 (PySem.Str.ofString "seen") = some (sv))
  (hret : ∀ h' tk' (k' : Int) t1' t2' n1', Fr h₀ L h' m0 → News h₀ L h' [(b, W.listOf #[.ref c, .int k' t1', .int S t2'] n1'), (c, W.listOf cvs.toArray n2), (I, oI)] → 0 ≤ k' → k' ≤ k + 1 → Q .next { s with heap := h', toks := tk' }) :
  wpAny (model PySem.Challenge.rw_no0046_01.row.prog w) (callerA.deeper (envOfC lawName lawScope L fa (.ref cdA))) (exec (lawT2) (envOfC lawName lawScope L fa (.ref cdA))) Q (fun _ _ => False) s := by
  have F := fr_lay [((PySem.Str.ofString "box"), .ref b), ((PySem.Str.ofString "width"), .int z tz), ((PySem.Str.ofString "seen"), sv)] F0 (by simpa using ⟨e0, e1, e2⟩)
  have FB := lay_eq (m := m0) (xs := [((PySem.Str.ofString "box"), .ref b), ((PySem.Str.ofString "width"), .int z tz), ((PySem.Str.ofString "seen"), sv)]) (by simpa using ⟨e0, e1, e2⟩)
  clear F0 e0 e1 e2
  simp only [lay] at F FB
  unfold lawName
  conv in (occs := *) lawScope => all_goals whnf
  conv in lawT2 => whnf
  have w2 := x.big
  have w3 := x.small
  rcases hs with rfl | ⟨n, tn, rfl, hn0, hn1⟩
  · (repeat' (first | (with_reducible (k_here; (with_reducible show wpAny _ _ (call (Value.ref 84) _) _ _ _); (rename Win _ _ _ => wi9); k_dflt (first | refine CtrW.use' (by k_asm) (by k_asm) (by k_asm) (news_dup (by k_asm)) (by k_asm) rfl (by ktr_room) (by ktr_units) (lr_some _ _ _ _ _ _ _ _ _ _ _ _ _ _ _ _ _ wi9 (by assumption) (by assumption) (by assumption) (by assumption)) ?_ | refine CtrW.use' (by k_asm) (by k_asm) (by k_asm) (news_dup (by k_asm)) (by k_asm) rfl (by ktr_room) (by ktr_units) (lr_none _ _ _ _ _ _ _ _ _ _ _ _ _ _ _ wi9 (by assumption) (by assumption)) ?_); intro v' led' h' tk' hp' F' N'; obtain ⟨e1', e2'⟩ := hp'; subst e1'; subst e2'; (try k_sweep))) | (with_reducible (k_here; (with_reducible show wpAny _ _ (call (Value.ref 74) [Value.ref _, Value.int 6 _]) _ _ _); k_dflt (refine' Ctr.use' (by k_asm) (by k_asm) (by k_asm) (news_rot4 (by k_asm)) (by k_asm) rfl (by ktr_room) (by ktr_units) (take4 _ _ _ _ _ _ _ _ _ _ _ _ _ _ _ _ _ _ _ _ _ _ _ (by assumption) _ _ _ _ _ _) ?_; iterate 12 (first | assumption | omega | k_ne)); intro v' led' h' tk' hp' F' N'; obtain ⟨r', t', t1', n1', e1', lo', hi', e2'⟩ := hp'; subst e1'; subst e2'; (try k_sweep); (obtain r0 | r0 | r0 | r0 | r0 | r0 : r' = 0 ∨ r' = 1 ∨ r' = 2 ∨ r' = 3 ∨ r' = 4 ∨ r' = 5 := (by omega)); all_goals (subst r0))) | (with_reducible (k_here; (with_reducible show wpAny _ _ (call (Value.ref 74) _) _ _ _); k_dflt (refine' Ctr.use' (by k_asm) (by k_asm) (by k_asm) (by k_asm) (by k_asm) rfl (by ktr_room) (by ktr_units) (take1 _ _ _ _ _ _ _ _ _ _ _ _ _ _ _ _ _ _ _ _ _ (by assumption) _ _ _ _) ?_; iterate 10 (first | assumption | omega | k_ne)); intro v' led' h' tk' hp' F' N'; obtain ⟨r', t', t1', n1', e1', lo', hi', e2'⟩ := hp'; subst e1'; subst e2'; (try k_sweep))) | (k_unfold; (try dsimp only)) | (k_end; kc_close) | walk1 | (dsimp only; walk1) | (leave1; (try dsimp only)) | fail "no step"))
    all_goals (
      (rename Fr h₀ L _ _ => F9)
      (rename News h₀ L _ _ => N9)
      exact hret _ _ _ _ _ _ (Fr.lay_back F9 FB) (news_undup N9) (by omega) (by omega))
  · (repeat' (first | (with_reducible (k_here; (with_reducible show wpAny _ _ (call (Value.ref 84) _) _ _ _); (rename Win _ _ _ => wi9); k_dflt (first | refine CtrW.use' (by k_asm) (by k_asm) (by k_asm) (news_dup (by k_asm)) (by k_asm) rfl (by ktr_room) (by ktr_units) (lr_some _ _ _ _ _ _ _ _ _ _ _ _ _ _ _ _ _ wi9 (by assumption) (by assumption) (by assumption) (by assumption)) ?_ | refine CtrW.use' (by k_asm) (by k_asm) (by k_asm) (news_dup (by k_asm)) (by k_asm) rfl (by ktr_room) (by ktr_units) (lr_none _ _ _ _ _ _ _ _ _ _ _ _ _ _ _ wi9 (by assumption) (by assumption)) ?_); intro v' led' h' tk' hp' F' N'; obtain ⟨e1', e2'⟩ := hp'; subst e1'; subst e2'; (try k_sweep))) | (with_reducible (k_here; (with_reducible show wpAny _ _ (call (Value.ref 74) [Value.ref _, Value.int 6 _]) _ _ _); k_dflt (refine' Ctr.use' (by k_asm) (by k_asm) (by k_asm) (news_rot4 (by k_asm)) (by k_asm) rfl (by ktr_room) (by ktr_units) (take4 _ _ _ _ _ _ _ _ _ _ _ _ _ _ _ _ _ _ _ _ _ _ _ (by assumption) _ _ _ _ _ _) ?_; iterate 12 (first | assumption | omega | k_ne)); intro v' led' h' tk' hp' F' N'; obtain ⟨r', t', t1', n1', e1', lo', hi', e2'⟩ := hp'; subst e1'; subst e2'; (try k_sweep); (obtain r0 | r0 | r0 | r0 | r0 | r0 : r' = 0 ∨ r' = 1 ∨ r' = 2 ∨ r' = 3 ∨ r' = 4 ∨ r' = 5 := (by omega)); all_goals (subst r0))) | (with_reducible (k_here; (with_reducible show wpAny _ _ (call (Value.ref 74) _) _ _ _); k_dflt (refine' Ctr.use' (by k_asm) (by k_asm) (by k_asm) (by k_asm) (by k_asm) rfl (by ktr_room) (by ktr_units) (take1 _ _ _ _ _ _ _ _ _ _ _ _ _ _ _ _ _ _ _ _ _ (by assumption) _ _ _ _) ?_; iterate 10 (first | assumption | omega | k_ne)); intro v' led' h' tk' hp' F' N'; obtain ⟨r', t', t1', n1', e1', lo', hi', e2'⟩ := hp'; subst e1'; subst e2'; (try k_sweep))) | (k_unfold; (try dsimp only)) | (k_end; kc_close) | walk1 | (dsimp only; walk1) | (leave1; (try dsimp only)) | fail "no step"))
    all_goals (
      (rename Fr h₀ L _ _ => F9)
      (rename News h₀ L _ _ => N9)
      exact hret _ _ _ _ _ _ (Fr.lay_back F9 FB) (news_undup N9) (by omega) (by omega))
end Mine
end

section
open PySem PySem.W PyProof.Rows PySem.Calls PySem.Spec
set_option Elab.async false
set_option maxRecDepth 100000
set_option maxHeartbeats 8000000
set_option linter.unusedVariables false
namespace Mine
theorem anew40 : True := by
  w_top off
  exact trivial
theorem news_p312 {h₀ h : Heap} {L : Addr} {p1 p2 p3 : Addr × Obj} (N : News h₀ L h [p1, p2, p3]) : News h₀ L h [p2, p3, p1] := fun q hq => N q (by simp only [List.mem_cons] at hq ⊢; rcases hq with h | h | h | h <;> simp_all)
theorem news_hd2 {h₀ h : Heap} {L : Addr} {p1 p2 p3 : Addr × Obj} (N : News h₀ L h [p1, p2, p3]) : News h₀ L h [p1, p2] := fun q hq => N q (by simp only [List.mem_cons] at hq ⊢; rcases hq with h | h | h <;> simp_all)
theorem st12 (w : World) (fa cdA : Nat) (L : Nat) (h₀ : Heap) (m0 : PySem.Str → Option Value) (s : Shared) (b c : Nat) (cvs : List Value) (cns : List Int) (k S : Int) (t1 t2 : Tok) (n1 n2 : Nat) (Q : Flow → Shared → Prop) (mean : ExcName → Option Value) (mg mb : PySem.Str → Option Value)
  (B : Below callerA h₀ [] h₀) (F0 : Fr h₀ L s.heap m0) (X : (hd.heap_39 w.params).In h₀) (N : News h₀ L s.heap [(b, W.listOf #[.ref c, .int k t1, .int S t2] n1), (c, W.listOf cvs.toArray n2)]) (T : Top hd.view_39 (looseW hd.view_39 []) mean mg mb h₀)
  (hi : IntsAre cvs cns) (hl : cns.length ≤ 24) (hS : 0 ≤ S) (hS1 : S < 89) (hbc : b ≠ c) (hk0 : 0 ≤ k) (hk1 : k < 500)  (e0 : m0 (PySem.Str.ofString "box") = some (.ref b))
  (hret : ∀ h' tk' m' (k' : Int) t1' t2' n1', Fr h₀ L h' m' → News h₀ L h' [(b, W.listOf #[.ref c, .int k' t1', .int S t2'] n1'), (c, W.listOf cvs.toArray n2)] → 0 ≤ k' → k' ≤ k + 12 → Q .next { s with heap := h', toks := tk' }) :
  wpAny (model PySem.Challenge.rw_no0046_01.row.prog w) (callerA.deeper (envOfC lawName lawScope L fa (.ref cdA))) (exec (lawSt 12) (envOfC lawName lawScope L fa (.ref cdA))) Q (fun _ _ => False) s := by
  have F := fr_lay [((PySem.Str.ofString "box"), .ref b)] F0 (by simpa using e0)
  clear F0 e0
  simp only [lay] at F
  unfold lawName
  conv in (occs := *) lawScope => all_goals whnf
  conv in lawSt 12 => whnf
  have y0 : exec lawT0 = exec lawT0 := rfl
  conv at y0 in (occs := 2) lawT0 => whnf
  have y1 : exec lawT1 = exec lawT1 := rfl
  conv at y1 in (occs := 2) lawT1 => whnf
  have y2 : exec lawT2 = exec lawT2 := rfl
  conv at y2 in (occs := 2) lawT2 => whnf
  (repeat' (first | (with_reducible (k_here; (with_reducible show wpAny _ _ (exec (Stmt.If _ _ _ _) _) _ _ _); (rename exec lawT2 = _ => e92); rw [← e92]; k_dflt (refine' @turn12c _ _ _ _ _ _ _ _ _ _ _ _ _ _ _ _ _ _ _ _ _ _ _ _ _ _ _ _ (by k_asm) (by k_asm) (by k_asm) (by first | k_asm | exact news_p312 (by k_asm)) (by k_asm) (by assumption) (by assumption) (by assumption) (by assumption) (by assumption) (by k_ne) (by k_ne) (by omega) (by omega) ?x ?hs ?e0 ?e1 ?e2 ?_; (case e0 => rfl); (case e1 => rfl); (case e2 => rfl); (case x => assumption); (case hs => assumption)); intro h' tk' k' t1' t2' n1' F' N' u9' v9'; (try k_sweep))) | (with_reducible (k_here; (with_reducible show wpAny _ _ (exec (Stmt.Assign [PySem.Expr.Name _ _] (PySem.Expr.BinOp _ _ _ _) _) _) _ _ _); (rename exec lawT0 = _ => e90); rw [← e90]; k_dflt (refine @turn12a _ _ _ _ _ _ _ _ _ _ _ _ _ _ _ _ _ _ _ _ _ _ _ (by k_asm) (by k_asm) (by k_asm) (by first | k_asm | exact news_p312 (by k_asm)) (by k_asm) (by assumption) (by assumption) (by assumption) (by assumption) (by assumption) (by k_ne) (by k_ne) (by omega) (by omega) (by rfl) ?_); intro h' tk' k' t1' t2' n1' z' Wn' H' tz' F' N' x9' u9' v9'; (try k_sweep))) | (with_reducible (k_here; (with_reducible show wpAny _ _ (exec (Stmt.Assign [PySem.Expr.Name _ _] (PySem.Expr.Subscript _ _ _) _) _) _ _ _); (rename exec lawT1 = _ => e91); rw [← e91]; k_dflt (refine @turn12b _ _ _ _ _ _ _ _ _ _ _ _ _ _ _ _ _ _ _ _ _ _ _ (by k_asm) (by k_asm) (by k_asm) (by first | k_asm | exact news_p312 (by k_asm)) (by k_asm) (by assumption) (by assumption) (by assumption) (by assumption) (by assumption) (by k_ne) (by k_ne) (by omega) (by omega) (by rfl) ?_); intro h' tk' k' t1' t2' n1' sv' F' N' s9' u9' v9'; (try k_sweep))) | (k_unfold; (try dsimp only)) | (k_end; kc_close) | walk1 | (dsimp only; walk1) | (leave1; (try dsimp only)) | fail "no step"))
  (rename Fr h₀ _ _ _ => F9)
  (rename News h₀ _ _ _ => N9)
  first
    | exact hret _ _ _ _ _ _ _ F9 N9 (by omega) (by omega)
    | exact hret _ _ _ _ _ _ _ F9 (news_tl N9) (by omega) (by omega)
    | exact hret _ _ _ _ _ _ _ F9 (news_hd2 N9) (by omega) (by omega)
end Mine
end

section
open PySem PySem.W PyProof.Rows PySem.Calls PySem.Spec
set_option Elab.async false
set_option maxRecDepth 100000
set_option maxHeartbeats 8000000
set_option linter.unusedVariables false
namespace Mine
theorem anew41 : True := by
  w_top off
  exact trivial
theorem win2 : Win 2 65536 32768 := ⟨by decide, by decide, by decide, by decide, by decide, by decide⟩
local macro_rules | `(tactic| walk_at "eval Call") => `(tactic| (k_here; k_dflt (refine Call_ ?_)))
theorem st13 (w : World) (fa cdA : Nat) (L : Nat) (h₀ : Heap) (m0 : PySem.Str → Option Value) (s : Shared) (pre : Led) (Q : Flow → Shared → Prop) (mean : ExcName → Option Value) (mg mb : PySem.Str → Option Value)
  (B : Below callerA h₀ [] h₀) (F0 : Fr h₀ L s.heap m0) (X : (hd.heap_39 w.params).In h₀) (N : News h₀ L s.heap pre) (T : Top hd.view_39 (looseW hd.view_39 []) mean mg mb h₀)
  
  (hret : ∀ h' tk', Fr h₀ L h' m0 → News h₀ L h' pre → Q .next { s with heap := h', toks := tk' }) :
  wpAny (model PySem.Challenge.rw_no0046_01.row.prog w) (callerA.deeper (envOfC lawName lawScope L fa (.ref cdA))) (exec (lawSt 13) (envOfC lawName lawScope L fa (.ref cdA))) Q (fun _ _ => False) s := by
  have F := F0
  clear F0
  unfold lawName
  conv in (occs := *) lawScope => all_goals whnf
  conv in lawSt 13 => whnf
  have r9 : restF 65536 32768 (2821665002 + 1) 39730 = 2821692210 := by decide
  (repeat' (first | (with_reducible (k_here; (with_reducible show wpAny _ _ (call (Value.ref 62) _) _ _ _); k_dflt (refine Ctr.use' (by k_asm) (by k_asm) (by k_asm) (by k_asm) (by k_asm) rfl (by ktr_room) (by ktr_units) (rs_some _ _ _ _ _ _ _ _ _ _ win2 (by decide) (by decide) (by decide) (by decide)) ?_); intro v' led' h' tk' hp' F' N'; obtain ⟨e1', t', e2'⟩ := hp'; subst e1'; subst e2'; (try k_sweep))) | (k_unfold; (try dsimp only)) | (k_end; kc_close) | walk1 | (dsimp only; walk1) | (leave1; (try dsimp only)) | fail "no step"))
  all_goals (
    (rename Fr h₀ L _ _ => F9)
    (rename News h₀ L _ _ => N9)
    first | exact absurd r9 (by assumption) | exact hret _ _ F9 N9)
end Mine
end

section
open PySem PySem.W PyProof.Rows PySem.Calls PySem.Spec
set_option Elab.async false
set_option maxRecDepth 100000
set_option maxHeartbeats 8000000
set_option linter.unusedVariables false
namespace Mine
theorem list16 {α : Type} (d : α) {l : List α} (h : l.length = 16) : l = [l.getD 0 d, l.getD 1 d, l.getD 2 d, l.getD 3 d, l.getD 4 d, l.getD 5 d, l.getD 6 d, l.getD 7 d, l.getD 8 d, l.getD 9 d, l.getD 10 d, l.getD 11 d, l.getD 12 d, l.getD 13 d, l.getD 14 d, l.getD 15 d] := by
  have go : ∀ (n : Nat) (l : List α), l.length = n → l = (List.range n).map fun i => l.getD i d := by
    intro n l h
    apply List.ext_getElem
    · simp [h]
    · intro i h1 h2
      simp [List.getD_eq_getElem?_getD, h1]
  exact go 16 l h
theorem lawBody_eq : lawBody = [lawSt 0, lawSt 1, lawSt 2, lawSt 3, lawSt 4, lawSt 5, lawSt 6, lawSt 7, lawSt 8, lawSt 9, lawSt 10, lawSt 11, lawSt 12, lawSt 13, lawSt 14, lawSt 15] := list16 (.Pass default) lawLen
theorem SizeIs.win {g z : Int} (x : SizeIs g z) : ∃ W h, Win z W h := by
  obtain ⟨W, h, y, -⟩ := Win.all (z := z) (by unfold SizeIs at x; omega) (by unfold SizeIs at x; omega)
  exact ⟨W, h, y⟩
theorem AckIs.lo {v : Value} {a : Int} (x : AckIs v a) : -1 ≤ a ∧ a ≤ 2305843009213693952 := by
  rcases x with ⟨-, rfl⟩ | ⟨-, -, h1, h2⟩
  · exact ⟨by decide, by decide⟩
  · omega
theorem news_two {h₀ h : Heap} {L : Addr} {p1 p2 p3 : Addr × Obj} (N : News h₀ L h [p1, p2, p3]) : News h₀ L h [p1, p2] := fun q hq => N q (by simp only [List.mem_cons] at hq ⊢; rcases hq with h | h | h <;> simp_all)
theorem news_three {h₀ h : Heap} {L : Addr} {p1 p2 : Addr × Obj} (N : News h₀ L h [p1, p2]) : News h₀ L h [p1, p2, p1] := fun q hq => N q (by simp only [List.mem_cons] at hq ⊢; rcases hq with h | h | h | h <;> simp_all)
theorem lawRun (w : World) (fa cdA L ls : Nat) (h₀ : Heap) (m0 : PySem.Str → Option Value) (s : Shared) (og : Obj) (vs : List Value) (ns : List Int) (Q : Flow → Shared → Prop) (mean : ExcName → Option Value) (mg mb : PySem.Str → Option Value)
    (B : Below callerA h₀ [] h₀) (F : Fr h₀ L s.heap m0) (X : (hd.heap_39 w.params).In h₀) (N : News h₀ L s.heap [(L + 1, og)]) (T : Top hd.view_39 (looseW hd.view_39 []) mean mg mb h₀)
    (hls : h₀.IsList ls vs.toArray) (his : IntsAre vs ns) (hlen : ns.length ≤ 63) (e0 : m0 (PySem.Str.ofString "script") = some (.ref ls)) (hg : og.data = .cell none)
    (hret : ∀ h' tk' m', Fr h₀ L h' m' → Q (.ret (.bool true)) { s with heap := h', toks := tk' }) :
    wpC (model PySem.Challenge.rw_no0046_01.row.prog w) (callerA.deeper (envOfC lawName lawScope L fa (.ref cdA))) (execs lawBody (envOfC lawName lawScope L fa (.ref cdA))) Q (fun _ _ => False) s := by
  rw [lawBody_eq]
  refine wpC_execs_cons ?_
  refine wpC_any ?_
  refine' @st0 w fa cdA (L + 1) L ls h₀ m0 s og vs ns _ mean mg mb B F X N T hls his hlen e0 ?_
  intro h' tk' m' b c t1 t2 n1 n2 cvs cns S F N hi hl hS hS1 hbc hbg hcg e0
  dsimp only
  refine wpC_execs_cons ?_
  refine wpC_any ?_
  refine' @st1 w fa cdA L h₀ _ _ _ _ _ _ _ _ _ _ _ _ _ _ mean mg mb B F X N T hi hl hS hS1 hbc hbg hcg e0 ?_
  intro h' tk' m' ap avs n3 F N hia hba hca hga e0 e1
  dsimp only
  refine wpC_execs_cons ?_
  refine wpC_any ?_
  refine' @st2 w fa cdA L h₀ _ _ _ _ _ _ _ _ _ _ _ _ _ _ _ _ _ mean mg mb B F X N T hi (by decide) (by decide) hl hS hS1 hbc hbg hcg hg hia hba hca hga e0 e1 ?_
  intro h' tk' m' k t1 t2 n1 n2 gap tg og F N hg hgap hgap2 hk0 hk1 e0
  dsimp only
  refine wpC_execs_cons ?_
  refine wpC_any ?_
  refine' @st3 w fa cdA L h₀ _ _ _ _ _ _ _ _ _ _ _ _ _ _ _ _ mean mg mb B F X N T hi hl hS hS1 hbc hbg hcg (by omega) (by omega) hg hgap hgap2 e0 ?_
  intro h' tk' m' k t1 t2 n1 n2 av a F N hA hk2 hk3 e0 e1
  dsimp only
  refine wpC_execs_cons ?_
  refine wpC_any ?_
  refine' @st4 w fa cdA L h₀ _ _ _ _ _ _ _ _ _ _ _ _ _ _ _ _ _ _ mean mg mb B F X N T hi hl hS hS1 hbc hbg hcg (by omega) (by omega) hg hgap hgap2 hA e0 e1 ?_
  intro h' tk' m' f tf F N hf e0 e1 e2
  dsimp only
  refine wpC_execs_cons ?_
  refine wpC_any ?_
  refine' @st5 w fa cdA L h₀ _ _ _ _ _ _ _ _ _ _ _ _ _ _ _ _ _ _ _ _ mean mg mb B F X N T hi hl hS hS1 hbc hbg hcg (by omega) (by omega) hg hgap hgap2 hA hf e0 e1 e2 ?_
  intro h' tk' m' z tz F N hz e0 e1 e2 e3
  dsimp only
  refine wpC_execs_cons ?_
  refine wpC_any ?_
  refine' @st6 w fa cdA L h₀ _ _ _ _ _ _ _ _ _ _ _ _ _ _ _ _ _ _ _ _ _ _ mean mg mb B F X N T hi hl hS hS1 hbc hbg hcg (by omega) (by omega) hg hgap hgap2 hA hz e0 e1 e2 e3 ?_
  intro h' tk' m' F N e0 e1 e2 e3
  dsimp only
  refine wpC_execs_cons ?_
  obtain ⟨Wn, H, x⟩ := hz.win
  refine' @st7 w fa cdA L h₀ _ _ _ _ _ _ _ _ _ _ _ _ _ _ _ _ _ _ _ _ _ _ mean mg mb B F X N T hi hl hS hS1 hbc hbg hcg (by omega) (by omega) hg hgap hgap2 hA hf hz e0 e1 e2 e3 ?_
  intro h' tk' m' td F N e0 e1 e2 e3 e4
  dsimp only
  refine wpC_execs_cons ?_
  refine wpC_any ?_
  refine' @st8 w fa cdA L h₀ _ _ _ _ _ _ _ _ _ _ _ _ _ _ _ _ _ _ _ _ _ _ _ _ _ mean mg mb B F X N T hi hl hS hS1 hbc hbg hcg (by omega) (by omega) hg hgap hgap2 hA x e0 e1 e2 e3 e4 ?_
  intro h' tk' m' F N e0 e1 e2 e3
  dsimp only
  refine wpC_execs_cons ?_
  refine wpC_any ?_
  refine' @st9 w fa cdA L h₀ _ _ _ _ _ _ _ _ _ _ _ _ _ _ _ _ _ _ _ _ _ _ _ _ mean mg mb B F X N T hi hl hS hS1 hbc hbg hcg (by omega) (by omega) hg hgap hgap2 hA x e0 e1 e2 e3 ?_
  intro h' tk' m' tt th F N e0 e1 e2 e3 e4 e5
  dsimp only
  refine wpC_execs_cons ?_
  refine wpC_any ?_
  refine' @st10 w fa cdA L h₀ _ _ _ _ _ _ _ _ _ _ _ _ _ _ _ _ _ _ _ _ _ _ _ _ _ _ mean mg mb B F X N T hi hl hS hS1 hbc hbg hcg (by omega) (by omega) hg hgap hgap2 hA e0 e1 e2 e3 e4 e5 ?_
  intro h' tk' m' tl F N e0 e1 e2 e3 e4 e5
  dsimp only
  refine wpC_execs_cons ?_
  refine wpC_any ?_
  refine' @st11 w fa cdA L h₀ _ _ _ _ _ _ _ _ _ _ _ _ _ _ _ _ av _ _ _ _ _ _ _ _ _ _ mean mg mb B F X N T hi hl hS hS1 hbc hbg hcg (by omega) (by omega) hg hgap hgap2 x hf hA.lo.1 hA.lo.2 e0 e1 e2 e3 e4 e5 ?_
  intro h' tk' m' k t1 t2 n1 n2 F N hk4 hk5 e0
  dsimp only
  refine wpC_execs_cons ?_
  refine wpC_any ?_
  refine' @st12 w fa cdA L h₀ _ _ _ _ _ _ _ _ _ _ _ _ _ mean mg mb B F X (news_two N) T hi hl hS hS1 hbc (by omega) (by omega) e0 ?_
  intro h' tk' m' k t1 t2 n1 F N hk6 hk7
  dsimp only
  refine wpC_execs_cons ?_
  refine wpC_any ?_
  refine' @st13 w fa cdA L h₀ _ _ _ _ mean mg mb B F X N T ?_
  intro h' tk' F N
  dsimp only
  refine wpC_execs_cons ?_
  refine wpC_any ?_
  refine' @try1 w fa cdA _ _ _ L h₀ _ _ _ _ _ _ _ mean mg mb B F X (news_three N) T ?_
  intro h' tk' m' F
  exact hret _ _ _ F
end Mine
end

section
open PySem PySem.W PyProof.Rows PySem.Calls PySem.Spec
set_option Elab.async false
set_option maxRecDepth 100000
set_option maxHeartbeats 8000000
namespace Mine
theorem anew43 : True := by
  w_top off
  exact trivial
theorem lawHolds : PySem.Challenge.rw_no0046_01.Holds := by
  refine Mine.hd ?_
  intro w s₀ s₁ mg mb G Y fa o pm cd doc dV kV ho hd hcd hD hmg hg args vals as hpre hlay hrd hwl hlo
  have KX := kIn_of Y
  have X := (Ground.X G).1
  have V := (Ground.X G).2
  refine Ground.open G ?_
  intro T B D TE TW
  try (refine guard_noD D (by decide +kernel) ?_; clear D)
  obtain ⟨_, _, M⟩ := bmod_of_top T
  obtain ⟨cdA, P, he, B0⟩ := based_of_top T rfl hmg ho hd
  have he' : cd = _ := he
  subst he'
  clear he
  wrow_args hpre hlay hrd hwl hlo
  refine wpC_call ?_
  have he := Dflts.none hD rfl
  subst he
  have he := Dflts.noKw hD
  subst he
  refine codeC_cellsN (by decide) ho (fd_plain hd) (Top.nolimit T) hcd rfl (kinds_of (by kinds_ok)) (by decide) fun h₁ tk₁ cells F N0 X0 => ?_
  obtain ⟨og, he, hog⟩ := CellsAre.one X0
  subst he
  show wpC _ (callerA.deeper (envOfC lawName lawScope _ fa (.ref cdA))) (execs lawBody (envOfC lawName lawScope _ fa (.ref cdA))) _ _ _
  (rename Heap.IsList _ _ _ => hL9)
  (rename IntsAre _ _ => hI9)
  (rename ¬ _ < _ => hc9)
  refine' @lawRun w fa cdA _ _ s₁.heap _ _ og _ _ _ _ _ _ (below_caller _) F KX N0 T hL9 hI9 (by omega) rfl hog ?_
  intro h' tk' m' F'
  show GoodWG _ _ _ _ _ (.ok (.ret (.bool true))) _
  wrow_closeG
end Mine
end

theorem PySem.Challenge.cw_no0046_01_holds : PySem.Challenge.rw_no0046_01.Holds :=
  Mine.lawHolds
