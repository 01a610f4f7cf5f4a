import PyProof.Rows.All
import Wide.All
import OpenK.AllK
import Wide.FinOn
import PySem.Challenge.RW_xm0753_01
set_option Elab.async false
set_option maxRecDepth 100000
-- XQ
namespace Mine
open PySem PySem.W PySem.Spec PySem.Calls PyProof.Rows
/-- the builtins that hold a bytearray while they run -/
def holdIds : List String := ["bytearray.__contains__", "bytearray.__mod__", "bytearray.__rmod__", "_struct.pack_into.held", "bytearray.find.held"] ++ PySem.Builtin.Bytes.decodersThatHold
def freeC : Code → Bool
  | .builtin id _ => !holdIds.contains id
  | _ => true
/-- a context in which no such builtin runs -/
def Free (Γ : PySem.Ctx) : Prop := freeC Γ.code = true ∧ ∀ x ∈ Γ.below, freeC x.1 = true
abbrev eF : Value → Shared → Prop := fun _ _ => False
def wpG {α : Type} (M : Model) (A : Around) (t : Sem α) (Q : α → Shared → Prop) (s : Shared) : Prop :=
  ∀ Γ p, Γ.In A → Free Γ → Sem.wp M Γ t (fun a _ s' => Q a s') (fun _ _ _ => False) p s
def codeG (M : Model) (A : Around) (c : Code) (R : Result → Shared → Prop) (s : Shared) : Prop :=
  ∀ Γ p, Γ.code = c → Γ.Below A → (∀ x ∈ Γ.below, freeC x.1 = true) → wpCode M Γ R p s
section
variable {α β : Type} {M : Model} {A : Around} {s : Shared}
theorem G_of {t : Sem α} {Q : α → Shared → Prop} (h : wpAny M A t Q eF s) : wpG M A t Q s := fun Γ p hΓ _ => h Γ p hΓ
theorem G_code {c : Code} {R : Result → Shared → Prop} (h : codeAny M A c R s) : codeG M A c R s := fun Γ p hc hΓ _ => h Γ p hc hΓ
theorem G_pure {a : α} {Q : α → Shared → Prop} (h : Q a s) : wpG M A (pure a) Q s := G_of (wpAny_pure h)
theorem G_mono {t : Sem α} {Q Q' : α → Shared → Prop} (h : wpG M A t Q s) (hQ : ∀ a s, Q a s → Q' a s) : wpG M A t Q' s :=
  fun Γ p hΓ hf => Sem.wp_mono M Γ t (fun a _ s => hQ a s) (fun _ _ _ h => h) p s (h Γ p hΓ hf)
theorem G_bind {m : Sem α} {f : α → Sem β} {Q : β → Shared → Prop} (h : wpG M A m (fun a s' => wpG M A (f a) Q s') s) : wpG M A (m >>= f) Q s := fun Γ p hΓ hf => by
  rw [Sem.wp_bind']
  exact Sem.wp_mono M Γ m (fun a p' s' h' => h' Γ p' hΓ hf) (fun _ _ _ h' => h') p s (h Γ p hΓ hf)
/-- a step that needs no such context, then one that does -/
theorem G_step {m : Sem α} {f : α → Sem β} {Q : β → Shared → Prop} (h : wpAny M A m (fun a s' => wpG M A (f a) Q s') eF s) : wpG M A (m >>= f) Q s := G_bind (G_of h)
theorem G_holding {vs : List Value} {m : Sem α} {Q : α → Shared → Prop} (h : wpG M A m Q s) : wpG M A (holding vs m) Q s :=
  fun Γ p hΓ hf => by rw [Sem.wp_holding]; exact h Γ p hΓ hf
theorem G_keep {vs : List Value} {m : Sem α} {Q : α → Shared → Prop} (h : wpG M A m Q s) : wpG M A (m.keep vs) Q s :=
  fun Γ p hΓ hf => by rw [Sem.wp_keep]; exact h Γ p hΓ hf
theorem G_onRaise {m : Sem α} {k : Value → Sem Unit} {Q : α → Shared → Prop} (h : wpG M A m Q s) : wpG M A (m.onRaise k) Q s := fun Γ p hΓ hf => by
  rw [Sem.wp_onRaise]
  exact Sem.wp_mono M Γ m (fun _ _ _ h' => h') (fun _ _ _ h' => h'.elim) p s (h Γ p hΓ hf)
theorem free_enter {Γ : PySem.Ctx} (hf : Free Γ) (c : Code) (h : Option Value) (p : Pos) : ∀ x ∈ (Γ.enter c h p).below, freeC x.1 = true := fun x hx => by
  rcases List.mem_cons.mp hx with rfl | hx
  · exact hf.1
  · exact hf.2 x hx
theorem G_runValue {c : Code} {Q : Value → Shared → Prop} (hc : codeG M A c (fun r s' => ∃ v, r = .ok (.ret v) ∧ Q v s') s) : wpG M A (runValue c) Q s := fun Γ p hΓ hf => by
  rw [Sem.wp_runValue]
  refine wpCode_mono (fun r s' h => ?_) (hc _ p rfl (hΓ.enter c none p (by intro x; cases x)) (free_enter hf c none p))
  obtain ⟨v, rfl, h⟩ := h
  exact h
theorem G_call {f : Value} {pos : List Value} {kw : List (Str × Value)} {Q : Value → Shared → Prop} (hc : codeG M A (.call f ⟨pos, kw⟩) (fun r s' => ∃ v, r = .ok (.ret v) ∧ Q v s') s) :
    wpG M A (call f pos kw) Q s := G_runValue hc
theorem G_runOwn {c : Code} {env : Env} {Q : Flow → Shared → Prop} (hc : codeG M A c (fun r s' => ∃ f, r = .ok f ∧ Q f s') s) : wpG M A (runOwn c env) Q s := by
  unfold runOwn
  refine G_onRaise fun Γ p hΓ hf => ?_
  rw [Sem.wp_run]
  refine wpCode_mono (fun r s' h => ?_) (hc _ p rfl (hΓ.enter c none p (by intro x; cases x)) (free_enter hf c none p))
  obtain ⟨v, rfl, h⟩ := h
  exact h
theorem G_tree {c : Code} {R : Result → Shared → Prop} (hc : freeC c = true)
    (h : wpG M (A.under c) (M.den c) (fun fin s' => match fin with | .done f => R (.ok f) s' | .again c' => c'.quiet = true ∧ codeG M A c' R s') s) : codeG M A c R s := fun Γ p hΓc hΓ hf => by
  rw [wpCode_iff_wp, hΓc]
  have hb : ∀ x ∈ Γ.below, freeC x.1 = true := hf
  refine Sem.wp_mono M Γ _ (fun fin p' s' h' => ?_) (fun _ _ _ h' => h'.elim) p s (h Γ p (hΓc ▸ hΓ.in) ⟨hΓc ▸ hc, hf⟩)
  cases fin with
  | done f => exact h'
  | again c' => exact ⟨h'.1, h'.2 (Γ.goto c') p' rfl (hΓ.goto c') hb⟩
theorem codeG_mono {c : Code} {R R' : Result → Shared → Prop} (h : codeG M A c R s) (hR : ∀ r s, R r s → R' r s) : codeG M A c R' s :=
  fun Γ p hc hΓ hf => wpCode_mono hR (h Γ p hc hΓ hf)
end
section
variable {prog : Program} {w : World} {A : Around} {s : Shared} {env : Env}
theorem G_func {body : List Stmt} {R : Result → Shared → Prop} (h : wpG (model prog w) (A.deeper env) (execs body env) (fun f s' => R (.ok (.ret (match f with | .ret v => v | _ => .none))) s') s) : codeG (model prog w) A (.func body env) R s := by
  refine G_tree rfl ?_
  show wpG _ (A.deeper env) (do point; match ← (execs body env).onRaise (leaving env) with | .ret v => ret v | _ => ret .none) _ s
  refine G_step (wpAny_point (G_bind (G_onRaise (G_mono h fun f s' h' => ?_))))
  cases f <;> exact G_pure h'
theorem G_def {R : Result → Shared → Prop} {a : Addr} {o : Obj} {fd : FuncData} {body : List Stmt} {args : Args} {binds : List (Str × Value)}
    (hroom : A.depth < recursionLimit) (ho : s.heap.get? a = some o) (hdata : o.data = .func fd) (hlim : s.heap.NoLimit) (hcd : s.heap.CodeRec fd.code fd.qualname)
    (hbody : fd.body = .stmts body) (hbind : BindsTo s fd args binds)
    (hcell : ∀ x ∈ fd.scope.names, x.2 ≠ .cell) (hloc : ∀ x ∈ binds, fd.scope.names.lookup x.1 = some .local)
    (h : ∀ h₀, h₀.Ns s.heap.objs.size (fun x => binds.reverse.lookup x) → (∀ b o, s.heap.get? b = some o → h₀.get? b = some o) →
      wpG (model prog w) (A.deeper (callEnv fd s.heap.objs.size a)) (execs body (callEnv fd s.heap.objs.size a)) (fun f s' => R (.ok (.ret (match f with | .ret v => v | _ => .none))) s')
        { s with heap := h₀, toks := s.toks + binds.length })
    (hco : fd.scope.isCoroutine = false := by rfl) (hgen : fd.scope.isGenerator = false := by rfl) (hk : fd.scope.kind = .function := by rfl) :
    codeG (model prog w) A (.call (.ref a) args) R s := by
  refine G_tree rfl ?_
  show wpG _ A.in1 (callAny (.ref a) args) _ s
  simp only [callAny]
  refine G_step (wpAny_load ho ?_)
  obtain ⟨c, oc, vs, tq, hc, hoc, hdc, hq⟩ := hcd
  simp only [hdata, callFunction, hco, hgen, hbody, hc]
  refine G_step (m := field (.ref c) 1) (wpAny_field hoc hdc hq (G_step (wpAny_pure ?_)))
  refine G_step (hbind _ _ _ _ ?_)
  refine G_step (wpAny_newFunctionEnv hcell hloc (fun h₀ hns₀ hsb₀ => ?_) hk)
  refine G_step (wpAny_enterFrame (hlim.fresh _ hsb₀) hroom (G_pure ⟨rfl, ?_⟩))
  have := G_func (A := A) (h h₀ hns₀ fun b o e => hsb₀.extBut b o (Nat.ne_of_lt (Heap.lt_size e)) (Heap.get?_push_of_some _ e))
  unfold callEnv at this
  rw [hc] at this
  exact this
theorem G_builtin {id : String} {args : Args} {b : Builtin} {R : Result → Shared → Prop} (hq : plainId id = true) (hf : freeC (.builtin id args) = true) (hb : entryFor table id = some b)
    (h : wpG (model prog w) A.in1 (b args) (fun fin s' => match fin with | .done f => R (.ok f) s' | .again c' => c'.quiet = true ∧ codeG (model prog w) A c' R s') s) : codeG (model prog w) A (.builtin id args) R s := by
  refine G_tree hf ?_
  rw [Around.under_plainId hq]
  show wpG _ _ (match entryFor table id with | some b => b args | none => unsupported ((withoutEnding? id "#data").getD id)) _ s
  rw [hb]
  exact h
end
end Mine

-- XHD
namespace Mine
open PySem PySem.W PySem.Spec PySem.Calls PyProof.Rows
theorem free_caller : Free (⟨.builtin "claim.caller" {}, none, none, [], none⟩ : PySem.Ctx) := ⟨by show (!holdIds.contains "claim.caller") = true; decide +kernel, List.forall_mem_nil _⟩
/-- the claim's own call runs in a free context -/
theorem ends_G {prog : Program} {w : World} {t : Sem PySem.Fin} {s : Shared} {R : Result → Shared → Prop} (hreg : s.asleep)
    (h : wpG (model prog w) callerA t (fun fin s' => ∃ f, fin = .done f ∧ (R (.ok f) s' ∧ leftWithCleanup s'.gens = false)) s) :
    ∃ n r s' s'', schedN (denote table) prog w n (.single s ⟨t, .builtin "claim.caller" {}, default, []⟩) = .halted (outcomeOf r) s' ∧ runN (denote table) prog w n s ⟨t, .builtin "claim.caller" {}, default, []⟩ = .halted (outcomeOf r) s' ∧ s'.forget = s''.forget ∧ R r s'' := by
  have hw := h ⟨.builtin "claim.caller" {}, none, none, [], none⟩ default caller_in free_caller
  obtain ⟨n, r, s₁, s₂, hs, hn, hfo, hR⟩ := wp_halts_full (M := model prog w) (c := .builtin "claim.caller" {}) (t := t) (R := R) (p := default) hreg
    (Sem.wp_mono _ _ t (fun fin p' s' h' => by obtain ⟨f, rfl, hf⟩ := h'; exact hf) (fun e p' s' h' => h'.elim) default s hw)
  exact ⟨n, r, s₂, s₁, hs, hn, hfo, hR⟩
/-- what the walk of the law must show: the call returns well in a free context -/
abbrev WalkF (q : Program) (loose : List Str) (XP : (Str → Option Value) → Heap → Prop) (YP : World → Heap → Prop) (r : RowW) (d : DefRec) : Prop :=
  ∀ (w : World) (s₀ s₁ : Shared) (mg mb : Str → Option Value), Ground q loose r.records XP w s₀ mg mb s₁.heap → YP w s₁.heap → ∀ (a : Addr), mg d.name = some (.ref a) → s₁.gens = #[] →
    ∀ (args : List WData) (vals : List Value) (as : List Addr), r.claim.pre args = true → WData.layableAll args = true → ReadsAllW r.records (classAt s₀.heap) s₁.heap vals args as → WellAll w.params s₁.heap vals args → (∀ a ∈ as, (a == sysModules) = false) →
      wpG (model r.prog w) callerA (PySem.call (.ref a) vals) (fun v s' => GoodWG r.claim (classAt s₀.heap) (ExcName.means s₀.heap) args s₁ (.ok (.ret v)) s') s₁
end Mine
section
open Mine PySem PySem.W PySem.Spec PySem.Calls PyProof.Rows
namespace Hd
/-- stands in the head's place: the same premises, the walk asked in free contexts alone -/
theorem PySem.W.holds_open {r : OpenRow} {q : Program} {loose : List Str} {Xt : Shared → Bool} {XP : (Str → Option Value) → Heap → Prop} {α : Type} {Yf : Shared → α} {Ya : World → α} {YP : World → Heap → Prop} {d : DefRec} {kwd : List (Str × Expr)} {N : Nat}
    (left : LeftO r.prog q loose Xt Yf Ya N) (hY : ∀ w s, Yf s = Ya w → YP w s.heap) (hYk : ∀ w h h', YP w h → (∀ b o, h.get? b = some o → h'.get? b = some o) → YP w h')
    (hX : ∀ s, Xt s = true → XP (s.heap.nsMap mainGlobals) s.heap) (hXk : ∀ mg h h', XP mg h → (∀ b o, h.get? b = some o → h'.get? b = some o) → XP mg h')
    (hdef : defOf q r.name = some (d, kwd)) (hp : r.prog.theDef r.name = some (d.params, d.body, d.scope)) (hk : kwWritten? d.params.kwonlyargs d.params.kw_defaults = some kwd) (hRf : ∀ s, Xt s = true → RecFacts r.records s.heap) (hwr : (!r.writes || r.records.isEmpty) = true)
    (k1 : r.wellSaid = true) (ok : (chainsOk q && opensWell r.prog && (frees r.toRowW && r.within.isEmpty)) = true) (hb : r.prog.bare) (hw : r.toRowW.promised)
    (call : WalkF q loose XP YP r.toRowW d) : r.Holds := by
  obtain ⟨ok1, k5⟩ := Bool.and_eq_true_iff.mp ok
  obtain ⟨hch, o1⟩ := Bool.and_eq_true_iff.mp ok1
  obtain ⟨k5, k6⟩ := Bool.and_eq_true_iff.mp k5
  obtain ⟨hsame, hu, ha, hap, hm⟩ := frees_parts k5
  refine ⟨k1, hw, ⟨hb, o1, by show r.makers.map _ = []; rw [hm]; rfl⟩, hw.witness, fun w => ⟨(left.behind hX hch w).1, fun s' hs' => ?_⟩⟩
  obtain ⟨s₀, hf, hg0, s, hT, hz, hgens, hg, G00, y⟩ := (left.behind (XP := fun mg h => XP mg h ∧ RecFacts r.records h) (fun s hs => ⟨hX s hs, hRf s hs⟩) hch w).2 s' hs'
  have G0 : Ground q loose [] XP w s (s.heap.nsMap mainGlobals) (s.heap.nsMap builtinsNs) s.heap := ⟨G00.T, G00.B, G00.D, G00.TE, G00.TD, G00.W, G00.X.1, G00.cls, G00.has, G00.apart, G00.once, G00.K⟩
  have RF := G00.X.2
  have hgens : s.gens = #[] := Array.eq_empty_of_size_eq_zero (beq_iff_eq.mp hgens)
  have G : Ground q loose r.records XP w s _ _ s.heap := RF.ground G0
  refine ⟨s₀, hf, hg0, s, hT, fun n hn => ?_, RF.1, RF.2.1, fun args hpre hlay ord hord => ?_⟩
  · obtain rfl : n = r.name := by split at hn <;> simp_all
    exact pinned_of_view hg G0 hdef hp hk
  obtain ⟨⟨vs, s₁⟩, hlaid⟩ := Option.isSome_iff_exists.mp (layAllW_isSome (P := w.params) (ord := ord) G.has args r.args s (pre_splitW hpre).1)
  have keeps := layAllW_keeps _ _ _ hlaid
  have hal := layAllW_rest _ _ _ hlaid
  obtain ⟨as, hrd, hin, hold⟩ := reads_layAllW hord _ _ _ hlaid hlay s₁.heap (fun _ _ e => e)
  have L : Laid r.records w s s₁ args vs as := ⟨⟨ord, hord, hlaid⟩, hrd, hin, hold, keeps, hal.1.trans hgens, hal.2.2.1⟩
  have G₁ := G.keeps hXk keeps
  obtain ⟨a, _, _, _, _, _, _, hfn, _⟩ := G₁.fn hdef
  have hcall := call w s s₁ _ _ G₁ (hYk _ _ _ (hY w s y) keeps) a (defOf_name hdef ▸ hfn) L.gens args vs as hpre hlay L.reads L.well (L.low G.low)
  have hi := ident_freeW hu ha hap
  have hwi : r.toRowW.claim.within = [] := List.isEmpty_iff.mp k6
  have tree : wpG (model r.prog w) callerA (do match ← nsGet mainNs r.name with
      | some f => do ret (← PySem.call f vs)
      | none => unsupported "claim.caller:no-such-global")
      (fun fin s' => ∃ f, fin = .done f ∧ ((r.toRowW.claim.Ends s args vs s₁ (.ok f) s' ∧ s'.os = s.os ∧ (r.writes = true → namesKept r.toRowW.claim.prog r.keeps s.heap s'.heap ∧ ∀ x ∈ r.toRowW.claim.records, ∀ a, classAt s.heap x.1 = some a → recordClass s'.heap a x.1 (x.2.map (·.1)) = true)) ∧ leftWithCleanup s'.gens = false)) s₁ := by
    refine G_step (wpAny_nsGet G₁.T.g ?_)
    rw [hfn]
    refine G_bind (G_mono hcall fun v s' g => G_pure ⟨_, rfl, ?_⟩)
    have z := g.laid (c := r.toRowW.claim) hsame hwi hi L
    exact ⟨⟨z.1, z.2.1, fun q => ⟨namesKept_of hT hg r.keeps keeps g.2.1.old, noTable hwr q⟩⟩, leftWithCleanup_false_of_bare z.2.2⟩
  obtain ⟨k, res, s', s'', hsched, hrun, hfo, hcase, hos, hkp⟩ := ends_G (R := fun res s' => r.toRowW.claim.Ends s args vs s₁ res s' ∧ s'.os = s.os ∧ (r.writes = true → namesKept r.toRowW.claim.prog r.keeps s.heap s'.heap ∧ ∀ x ∈ r.toRowW.claim.records, ∀ a, classAt s.heap x.1 = some a → recordClass s'.heap a x.1 (x.2.map (·.1)) = true)) (Shared.asleep_of_life hal.2.2.2 hz) tree
  obtain ⟨eh, _, _, eo, _⟩ := Shared.forget_eq hfo
  have hcase := hcase.congr eh
  rw [← eh] at hkp
  rw [← eo] at hos
  have hlife : s'.heap.life = s.heap.life := (runN_life _ _ _ hrun).trans hal.2.2.2
  refine ⟨vs, s₁, hlaid, k, _, s', hsched, ?_, (fun _ i x hx => by rw [hgens] at hx; simp at hx), hkp, by rw [hlife], Shared.rest_eq hos⟩
  rcases hcase with ⟨v, rfl, d1, d2, d3, d4, d5⟩ | ⟨e, ob, cls, rfl, d1, d2, d3, d4, d5⟩
  · exact .inl ⟨v, rfl, d1, d2, d3, fun b o y _ => d4 b o y, d5⟩
  · exact .inr ⟨e, ob, cls, rfl, d1, d2, d3, d4, fun b o y _ => d5 b o y⟩
end Hd
end

-- XH
section
open PySem PySem.W PyProof.Rows
namespace Hd
/-- the text's top without the assignments of __name__ -/
noncomputable def view : Program := _root_.PySem.W.view PySem.Challenge.rw_xm0753_01.row.prog [1, 2, 3, 5, 6, 7, 8, 9, 11, 12, 13, 14, 15, 16, 17, 18, 19, 20, 22, 23, 24, 25, 26, 27, 28, 29, 30, 31, 32, 33, 34, 35, 36]
abbrev loose : List (_root_.PySem.Str) := [_root_.PySem.Str.ofString "REPLACEMENT"]
abbrev lv : List (_root_.PySem.Str × WData) := [(_root_.PySem.Str.ofString "REPLACEMENT", .str { cps := #[65533] })]
local macro_rules | `(tactic| o_head $_) => `(tactic| assumption)
set_option maxHeartbeats 8000000 in
/-- this names the heap's constant, hd.heap_1, ahead of the head -/
theorem hd (h : PySem.Challenge.rw_xm0753_01.row.Holds) : PySem.Challenge.rw_xm0753_01.row.Holds := by k_head
/-- the looks at the text's own heap -/
noncomputable abbrev Xh : Shared → Bool := fun s => xlAt view lv s && recOk PySem.Challenge.rw_xm0753_01.row.toRowW.records s
abbrev asH : List Nat := [2, 3, 15, 22, 24, 25, 27, 28, 29, 30, 31, 32, 35, 42, 43, 44, 47, 54, 55, 56, 59, 61, 62, 64, 65, 66, 68, 69, 71, 72, 73, 75, 76, 78, 79, 80, 82, 83, 85, 86, 87, 88, 90, 91, 93, 94, 95, 97, 98, 100, 101, 102, 104, 105, 107, 108, 109, 111, 112, 114, 115, 116, 118, 119, 121, 122, 123, 125, 126, 128, 129, 130, 132, 133, 135, 136, 137, 139, 140, 142, 143, 144, 146, 147, 149, 150, 151, 153, 154, 156, 157, 158, 160, 161, 163, 164, 165, 167, 168, 170, 171, 172, 175, 176, 177, 179, 180, 182, 183, 184, 186, 187, 189, 190, 191, 194, 195, 196, 199, 200, 201, 203, 204, 206, 207, 208, 210, 211, 213, 214, 215, 217, 218, 220, 221, 222, 224, 225, 227, 228]
/-- the j-th object written -/
noncomputable def pick (l : List (Option Obj)) (j : Nat) : Obj := (l[j]?.join).getD { cls := .none }
/-- the code's constant of a def, from the def's own object -/
def pr (o : Obj) : Obj := match o.data with
  | .func f => { cls := .none, data := .func { f with globals := 0, pyModule := .none, code := .none } }
  | _ => o
/-- the heap behind the text's top: the objects written, and what is left behind beside them -/
noncomputable def endS (l : List (Option Obj)) (P : Params) (os : OsState) : Shared := ⟨⟨#[boot_o_0 P,
boot_o_1 P,
(pick l 0),
(pick l 1),
boot_o_4 P,
boot_o_5 P,
boot_o_6 P,
boot_o_7 P,
boot_o_8 P,
boot_o_9 P,
boot_o_10 P,
{ cls := Value.type "tuple", data := Data.seq #[] },
{ cls := Value.none, data := Data.fields #[Value.int 2 0, Value.int 0 0, Value.ref 20, Value.int 6 0, Value.int 0 0, Value.ref 40, Value.int 8 0, Value.int 0 0, Value.ref 52, Value.int 12 0, Value.int 0 0, Value.ref 64, Value.int 31 0, Value.int 0 0, Value.ref 71, Value.int 41 0, Value.int 0 0, Value.ref 78, Value.int 56 0, Value.int 0 0, Value.ref 85, Value.int 72 0, Value.int 0 0, Value.ref 93, Value.int 80 0, Value.int 0 0, Value.ref 100, Value.int 87 0, Value.int 0 0, Value.ref 107, Value.int 97 0, Value.int 0 0, Value.ref 114, Value.int 105 0, Value.int 0 0, Value.ref 121, Value.int 113 0, Value.int 0 0, Value.ref 128, Value.int 130 0, Value.int 0 0, Value.ref 135, Value.int 137 0, Value.int 0 0, Value.ref 142, Value.int 144 0, Value.int 0 0, Value.ref 149, Value.int 146 0, Value.int 0 0, Value.ref 156, Value.int 153 0, Value.int 0 0, Value.ref 163, Value.int 155 0, Value.int 0 0, Value.ref 170, Value.int 161 0, Value.int 0 0, Value.ref 175, Value.int 166 0, Value.int 0 0, Value.ref 182, Value.int 171 0, Value.int 0 0, Value.ref 189, Value.int 177 0, Value.int 0 0, Value.ref 194, Value.int 179 0, Value.int 0 0, Value.ref 199, Value.int 192 0, Value.int 0 0, Value.ref 206, Value.int 196 0, Value.int 0 0, Value.ref 213, Value.int 205 0, Value.int 0 0, Value.ref 220, Value.int 217 0, Value.int 0 0, Value.ref 227] },
{ cls := Value.type "code", data := Data.fields #[Value.str (Str.ofString "<module>") 182, Value.str (Str.ofString "<module>") 183, Value.str (Str.ofString "/claim/cut.py") 184, Value.int 1 0, Value.int 0 0, Value.int 0 0, Value.int 0 0, Value.int 0 0, Value.ref 11, Value.bool false, Value.int 181 0, Value.ref 12, Value.none, Value.none, Value.none, Value.none, Value.int 185 0, Value.int 1 0, Value.str (Str.ofString "/claim/cut.py") 186] },
{ cls := Value.type "frame", slots := #[some (Value.ref 13), some (Value.ref 3), some (Value.ref 3), none, some (Value.str (Str.ofString "__main__") 164), none, some (Value.ref 0)] },
(pick l 2),
{ cls := Value.type "builtin_function_or_method", data := Data.fields #[Value.builtin "type.__prepare__", Value.type "type"] },
{ cls := Value.type "dict", data := Data.dict #[{ hash := PyData.keyHash P (Str.ofString "__module__"), key := Value.str (Str.ofString "__module__") 196, val := Value.str (Str.ofString "pagebase.errors") 187 }, { hash := PyData.keyHash P (Str.ofString "__qualname__"), key := Value.str (Str.ofString "__qualname__") 198, val := Value.str (Str.ofString "PagebaseError") 197 }, { hash := PyData.keyHash P (Str.ofString "__firstlineno__"), key := Value.str (Str.ofString "__firstlineno__") 200, val := Value.int 2 199 }, { hash := PyData.keyHash P (Str.ofString "__init__"), key := Value.str (Str.ofString "__init__") 208, val := Value.ref 28 }, { hash := PyData.keyHash P (Str.ofString "__static_attributes__"), key := Value.str (Str.ofString "__static_attributes__") 210, val := Value.ref 29 }] 5 },
{ cls := Value.type "tuple", data := Data.seq #[] },
{ cls := Value.none, data := Data.fields #[Value.int 4 0, Value.int 4 0, Value.ref 27] },
{ cls := Value.type "code", data := Data.fields #[Value.str (Str.ofString "PagebaseError") 191, Value.str (Str.ofString "PagebaseError") 192, Value.str (Str.ofString "/claim/cut.py") 193, Value.int 2 0, Value.int 0 0, Value.int 0 0, Value.int 0 0, Value.int 0 0, Value.ref 18, Value.bool false, Value.int 181 0, Value.ref 19, Value.none, Value.none, Value.none, Value.none, Value.int 194 0, Value.int 2 0, Value.str (Str.ofString "/claim/cut.py") 195] },
{ cls := Value.type "frame", slots := #[some (Value.ref 20), some (Value.ref 3), some (Value.ref 17), none, some (Value.str (Str.ofString "pagebase.errors") 187), none, some (Value.ref 0)] },
(pick l 3),
{ cls := Value.none, data := Data.fields #[] },
(pick l 4),
(pick l 5),
pr (pick l 7),
(pick l 6),
(pick l 7),
(pick l 8),
(pick l 9),
(pick l 10),
(pick l 11),
{ cls := Value.type "super", data := Data.fields #[Value.ref 31, Value.ref 31, Value.ref 31] },
{ cls := Value.type "builtin_function_or_method", data := Data.fields #[Value.builtin "object.__init_subclass__", Value.ref 31] },
(pick l 12),
{ cls := Value.type "builtin_function_or_method", data := Data.fields #[Value.builtin "type.__prepare__", Value.type "type"] },
{ cls := Value.type "dict", data := Data.dict #[{ hash := PyData.keyHash P (Str.ofString "__module__"), key := Value.str (Str.ofString "__module__") 225, val := Value.str (Str.ofString "pagebase.errors") 187 }, { hash := PyData.keyHash P (Str.ofString "__qualname__"), key := Value.str (Str.ofString "__qualname__") 227, val := Value.str (Str.ofString "CorruptError") 226 }, { hash := PyData.keyHash P (Str.ofString "__firstlineno__"), key := Value.str (Str.ofString "__firstlineno__") 229, val := Value.int 6 228 }, { hash := PyData.keyHash P (Str.ofString "__static_attributes__"), key := Value.str (Str.ofString "__static_attributes__") 230, val := Value.ref 42 }] 4 },
{ cls := Value.type "tuple", data := Data.seq #[] },
{ cls := Value.none, data := Data.fields #[] },
{ cls := Value.type "code", data := Data.fields #[Value.str (Str.ofString "CorruptError") 220, Value.str (Str.ofString "CorruptError") 221, Value.str (Str.ofString "/claim/cut.py") 222, Value.int 6 0, Value.int 0 0, Value.int 0 0, Value.int 0 0, Value.int 0 0, Value.ref 38, Value.bool false, Value.int 181 0, Value.ref 39, Value.none, Value.none, Value.none, Value.none, Value.int 223 0, Value.int 6 0, Value.str (Str.ofString "/claim/cut.py") 224] },
{ cls := Value.type "frame", slots := #[some (Value.ref 40), some (Value.ref 3), some (Value.ref 37), none, some (Value.str (Str.ofString "pagebase.errors") 187), none, some (Value.ref 0)] },
(pick l 13),
(pick l 14),
(pick l 15),
{ cls := Value.type "super", data := Data.fields #[Value.ref 44, Value.ref 44, Value.ref 44] },
{ cls := Value.type "builtin_function_or_method", data := Data.fields #[Value.builtin "object.__init_subclass__", Value.ref 44] },
(pick l 16),
{ cls := Value.type "builtin_function_or_method", data := Data.fields #[Value.builtin "type.__prepare__", Value.type "type"] },
{ cls := Value.type "dict", data := Data.dict #[{ hash := PyData.keyHash P (Str.ofString "__module__"), key := Value.str (Str.ofString "__module__") 241, val := Value.str (Str.ofString "pagebase.errors") 187 }, { hash := PyData.keyHash P (Str.ofString "__qualname__"), key := Value.str (Str.ofString "__qualname__") 243, val := Value.str (Str.ofString "MisuseError") 242 }, { hash := PyData.keyHash P (Str.ofString "__firstlineno__"), key := Value.str (Str.ofString "__firstlineno__") 245, val := Value.int 8 244 }, { hash := PyData.keyHash P (Str.ofString "__static_attributes__"), key := Value.str (Str.ofString "__static_attributes__") 246, val := Value.ref 54 }] 4 },
{ cls := Value.type "tuple", data := Data.seq #[] },
{ cls := Value.none, data := Data.fields #[] },
{ cls := Value.type "code", data := Data.fields #[Value.str (Str.ofString "MisuseError") 236, Value.str (Str.ofString "MisuseError") 237, Value.str (Str.ofString "/claim/cut.py") 238, Value.int 8 0, Value.int 0 0, Value.int 0 0, Value.int 0 0, Value.int 0 0, Value.ref 50, Value.bool false, Value.int 181 0, Value.ref 51, Value.none, Value.none, Value.none, Value.none, Value.int 239 0, Value.int 8 0, Value.str (Str.ofString "/claim/cut.py") 240] },
{ cls := Value.type "frame", slots := #[some (Value.ref 52), some (Value.ref 3), some (Value.ref 49), none, some (Value.str (Str.ofString "pagebase.errors") 187), none, some (Value.ref 0)] },
(pick l 17),
(pick l 18),
(pick l 19),
{ cls := Value.type "super", data := Data.fields #[Value.ref 56, Value.ref 56, Value.ref 56] },
{ cls := Value.type "builtin_function_or_method", data := Data.fields #[Value.builtin "object.__init_subclass__", Value.ref 56] },
(pick l 20),
{ cls := Value.none, data := Data.fields #[] },
(pick l 21),
(pick l 22),
pr (pick l 24),
(pick l 23),
(pick l 24),
(pick l 25),
{ cls := Value.none, data := Data.fields #[] },
(pick l 26),
(pick l 27),
pr (pick l 29),
(pick l 28),
(pick l 29),
(pick l 30),
{ cls := Value.none, data := Data.fields #[] },
(pick l 31),
(pick l 32),
pr (pick l 34),
(pick l 33),
(pick l 34),
(pick l 35),
{ cls := Value.none, data := Data.fields #[] },
(pick l 36),
(pick l 37),
pr (pick l 39),
(pick l 38),
(pick l 39),
(pick l 40),
(pick l 41),
{ cls := Value.none, data := Data.fields #[] },
(pick l 42),
(pick l 43),
pr (pick l 45),
(pick l 44),
(pick l 45),
(pick l 46),
{ cls := Value.none, data := Data.fields #[] },
(pick l 47),
(pick l 48),
pr (pick l 50),
(pick l 49),
(pick l 50),
(pick l 51),
{ cls := Value.none, data := Data.fields #[] },
(pick l 52),
(pick l 53),
pr (pick l 55),
(pick l 54),
(pick l 55),
(pick l 56),
{ cls := Value.none, data := Data.fields #[] },
(pick l 57),
(pick l 58),
pr (pick l 60),
(pick l 59),
(pick l 60),
(pick l 61),
{ cls := Value.none, data := Data.fields #[] },
(pick l 62),
(pick l 63),
pr (pick l 65),
(pick l 64),
(pick l 65),
(pick l 66),
{ cls := Value.none, data := Data.fields #[] },
(pick l 67),
(pick l 68),
pr (pick l 70),
(pick l 69),
(pick l 70),
(pick l 71),
{ cls := Value.none, data := Data.fields #[] },
(pick l 72),
(pick l 73),
pr (pick l 75),
(pick l 74),
(pick l 75),
(pick l 76),
{ cls := Value.none, data := Data.fields #[] },
(pick l 77),
(pick l 78),
pr (pick l 80),
(pick l 79),
(pick l 80),
(pick l 81),
{ cls := Value.none, data := Data.fields #[] },
(pick l 82),
(pick l 83),
pr (pick l 85),
(pick l 84),
(pick l 85),
(pick l 86),
{ cls := Value.none, data := Data.fields #[] },
(pick l 87),
(pick l 88),
pr (pick l 90),
(pick l 89),
(pick l 90),
(pick l 91),
{ cls := Value.none, data := Data.fields #[] },
(pick l 92),
(pick l 93),
pr (pick l 95),
(pick l 94),
(pick l 95),
(pick l 96),
{ cls := Value.none, data := Data.fields #[] },
(pick l 97),
(pick l 98),
pr (pick l 100),
(pick l 99),
(pick l 100),
(pick l 101),
{ cls := Value.none, data := Data.fields #[] },
pr (pick l 103),
(pick l 102),
(pick l 103),
(pick l 104),
{ cls := Value.none, data := Data.fields #[] },
(pick l 105),
(pick l 106),
pr (pick l 108),
(pick l 107),
(pick l 108),
(pick l 109),
{ cls := Value.none, data := Data.fields #[] },
(pick l 110),
(pick l 111),
pr (pick l 113),
(pick l 112),
(pick l 113),
(pick l 114),
{ cls := Value.none, data := Data.fields #[] },
pr (pick l 116),
(pick l 115),
(pick l 116),
(pick l 117),
{ cls := Value.none, data := Data.fields #[] },
pr (pick l 119),
(pick l 118),
(pick l 119),
(pick l 120),
{ cls := Value.none, data := Data.fields #[] },
(pick l 121),
(pick l 122),
pr (pick l 124),
(pick l 123),
(pick l 124),
(pick l 125),
{ cls := Value.none, data := Data.fields #[] },
(pick l 126),
(pick l 127),
pr (pick l 129),
(pick l 128),
(pick l 129),
(pick l 130),
{ cls := Value.none, data := Data.fields #[] },
(pick l 131),
(pick l 132),
pr (pick l 134),
(pick l 133),
(pick l 134),
(pick l 135),
{ cls := Value.none, data := Data.fields #[] },
(pick l 136),
(pick l 137),
pr (pick l 139),
(pick l 138),
(pick l 139)], (boot_heap P).life⟩, Array.mk [], {}, 504, os⟩
noncomputable def atEnd (w : World) (os : OsState) : Shared := endS ((hd.heap_1 w.params).map fun p => some p.2) w.params os
/-- the text's own top, run by the kernel -/
theorem run_h (w : World) (os : OsState) : topFrom treeTable PySem.Challenge.rw_xm0753_01.row.prog w 3180 ⟨boot_heap w.params, Array.mk [], boot_drawn, boot_toks, os⟩ = some (atEnd w os) := by kernel_rfl
theorem look_h (w : World) (os : OsState) : openSeen view loose (importedModules PySem.Challenge.rw_xm0753_01.row.prog.main.body) Xh true (atEnd w os) = openGood view loose := by kernel_rfl
theorem obs_h (w : World) (os : OsState) : asH.map (atEnd w os).heap.get? = (hd.heap_1 w.params).map fun p => some p.2 := by kernel_rfl
theorem by_boot {p q : Program} {loose : List _root_.PySem.Str} {Xt : Shared → Bool} {α : Type} {Yf : Shared → α} {Ya : World → α} {N : Nat} (S : World → OsState → Shared) (e : opening p = plainProg p.main.scope.names) (hN : Nat.ble 600 N = true) (f : ∀ s, fenceModules? p s = some s)
    (run : ∀ (w : World) (os : OsState), topFrom treeTable p w N ⟨boot_heap w.params, Array.mk [], boot_drawn, boot_toks, os⟩ = some (S w os))
    (look : ∀ (w : World) (os : OsState), openSeen q loose (importedModules p.main.body) Xt true (S w os) = openGood q loose) (obs : ∀ (w : World) (os : OsState), Yf (S w os) = Ya w) : LeftO p q loose Xt Yf Ya N := fun w => by
  obtain ⟨⟨h', gs, d, k, os⟩, e', e''⟩ := Option.map_eq_some_iff.mp (boot_open e hN f w)
  obtain ⟨rfl, rfl, rfl, rfl⟩ : h' = boot_heap w.params ∧ gs = Array.mk [] ∧ d = boot_drawn ∧ k = boot_toks := by simpa using e''
  unfold openEnds
  rw [e']
  show (topFrom treeTable p w N ⟨boot_heap w.params, Array.mk [], boot_drawn, boot_toks, os⟩).map (fun s => (openSeen q loose (importedModules p.main.body) Xt true s, Yf s)) = some (openGood q loose, Ya w)
  rw [run w os]
  exact congrArg some (Prod.ext (look w os) (obs w os))
local macro_rules | `(tactic| o_law) => `(tactic| refine holds_law (by kernel_rfl) fun said => ?_)
local macro_rules | `(tactic| k_head) => `(tactic| (
  refine PySem.W.holds_open (q := view) (loose := loose) (Xt := Xh) (XP := XL view lv) (Yf := (kHook hd.heap_1 asH (fun _ => by kernel_rfl)).obs) (Ya := (kHook hd.heap_1 asH (fun _ => by kernel_rfl)).val) (YP := (kHook hd.heap_1 asH (fun _ => by kernel_rfl)).says) (N := 3180) ?hl (Hook.of _) (Hook.keeps _) (fun s e => xl_of s (Bool.and_eq_true_iff.mp e).1) XL.keeps (by rfl) (by rfl) (by rfl) (fun s e => recFacts_of (Bool.and_eq_true_iff.mp e).2) (by rfl) (by first | assumption | decide +kernel) (by decide +kernel) ⟨rfl, rfl, rfl, rfl, rfl, by decide +kernel⟩ ?hw ?hc
  (case hl => exact by_boot atEnd (by rfl) (by decide) (fun s => by rfl) run_h look_h obs_h)))
set_option maxHeartbeats 8000000 in
open_top top for PySem.Challenge.rw_xm0753_01
end Hd
end

-- XF
namespace Mine
open PySem PySem.W PySem.Spec PySem.Calls PyProof.Rows

abbrev TopV (mean : ExcName → Option Value) (mg mb : Str → Option Value) (h : Heap) : Prop := Top Hd.view (looseW Hd.view [Str.ofString "REPLACEMENT"]) mean mg mb h
abbrev ArH (hx : Option Value) (dp un : Nat) (gd : Option (List Code)) (outer : List Env) : Around := { handled := hx, depth := dp, frames := some outer, guards := gd, units := un }
abbrev Ar (dp un : Nat) (gd : Option (List Code)) (outer : List Env) : Around := ArH none dp un gd outer
/-- the handled exception stands in the ground, no context behind it -/
def HG (hx : Option Value) (g : Heap) : Prop := ∀ v, hx = some v → ∃ e ob vs, v = .ref e ∧ g.get? e = some ob ∧ ob.data = .fields vs ∧ vs[2]? = some .none
theorem HG.no {g : Heap} : HG none g := fun _ h => nomatch h
theorem HG.keeps {hx : Option Value} {g h : Heap} (x : HG hx g) (k : ∀ b o, g.get? b = some o → h.get? b = some o) : HG hx h := fun v hv => by
  obtain ⟨e, ob, vs, a, b, c, d⟩ := x v hv
  exact ⟨e, ob, vs, a, k _ _ b, c, d⟩

abbrev adrs (l : List (Addr × Obj)) : List Addr := l.map (·.1)

/-- the way out of a body: the ground it leaves, the objects of its own, what comes back -/
def Ended (g : Heap) (L : Addr) (P : Value → List (Addr × Obj) → Prop) (s : Shared) (v : Value) (s' : Shared) : Prop :=
  ∃ own' m' h' tk', s' = { s with heap := h', toks := tk' } ∧ Fr g L h' m' ∧ News g L h' own' ∧ P v own'
/-- no context behind the exception -/
def F2 (h : Heap) (e : Addr) : Prop := ∃ oe vs, h.get? e = some oe ∧ oe.data = .fields vs ∧ vs[2]? = some .none
theorem F2.hg {h : Heap} {e : Addr} (x : F2 h e) : HG (some (.ref e)) h := fun v hv => by
  obtain ⟨oe, vs, a, b, c⟩ := x
  cases hv
  exact ⟨e, oe, vs, rfl, a, b, c⟩
/-- an exception of the class at C flies -/
def RaisedX (base G : Heap) (l : List Env) (e C : Addr) (h : Heap) : Prop := RaisedSN base G l e (.ref C) [] h ∧ F2 h e
/-- an exception of the class at C leaves -/
def Flies (base g : Heap) (outer : List Env) (X : Option Addr) (s : Shared) (e : Value) (s' : Shared) : Prop :=
  ∃ C a h' tk', X = some C ∧ e = .ref a ∧ s' = { s with heap := h', toks := tk' } ∧ RaisedX base g outer a C h' ∧ g.UpToSlots h'

theorem lt_dp {dp D d R : Nat} (h : dp + D < R) (k : 1 + d ≤ D) : dp + 1 + d < R := by omega
theorem lt_un {un D d C : Nat} (h : un + 8 * D < C) (k : 3 + 8 * d ≤ 8 * D) : un + 3 + 8 * d < C := by omega
section
variable (prog : Program) (K : Params → Frag) (w : World) (mean : ExcName → Option Value) (mg mb : Str → Option Value) (hx : Option Value) (Φ : Heap → Prop)
def BodyOk (qual : Str) (scope : Scope) (f : Addr) (cdv : Value) (body : List Stmt) (binds : List (Str × Value)) (own : List (Addr × Obj)) (d : Nat) (P : Value → List (Addr × Obj) → Prop) (X : Option Addr) : Prop :=
  ∀ (dp un : Nat) (gd : Option (List Code)) (outer : List Env) (base g : Heap) (L : Addr) (s : Shared),
    Below (ArH hx dp un gd outer) base outer g → Fr g L s.heap (fun y => binds.reverse.lookup y) → News g L s.heap own → (K w.params).In g → TopV mean mg mb g → (K w.params).In base → TopV mean mg mb base → Φ g →
    dp + d < recursionLimit → un + 8 * d < cLine →
    wpAny (model prog w) ((ArH hx dp un gd outer).deeper (envOf qual scope L f cdv)) (execs body (envOf qual scope L f cdv))
      (fun fl s' => Ended g L P s (match fl with | .ret v => v | _ => .none) s')
      (fun e s' => wpAny (model prog w) ((ArH hx dp un gd outer).deeper (envOf qual scope L f cdv)) (leaving (envOf qual scope L f cdv) e) (fun _ s'' => Flies base g outer X s e s'') (fun e' s'' => Flies base g outer X s e' s'') s')
      s
def Spec (f : Addr) (vs : List Value) (own : List (Addr × Obj)) (d : Nat) (P : Value → List (Addr × Obj) → Prop) (X : Option Addr) : Prop :=
  ∀ (dp un : Nat) (gd : Option (List Code)) (env : Env) (outer : List Env) (A₀ : Around) (base h₀ : Heap) (L : Addr) (m : Str → Option Value) (news rest : List (Addr × Obj)) (s : Shared) (R : Result → Shared → Prop),
    env.frame = some L → env.scope.kind = .function → Below A₀ base outer h₀ → Fr h₀ L s.heap m → News h₀ L s.heap news → (K w.params).In base → TopV mean mg mb base → Φ (hideAll s.heap (adrs own)) →
    dp + d < recursionLimit → un + 8 * d < cLine →
    (∀ p ∈ own, p ∈ news) → (∀ p ∈ rest, p ∈ news) → (∀ p ∈ rest, ∀ q ∈ own, p.1 ≠ q.1) →
    (∀ v own' h' tk', Fr h₀ L h' m → News h₀ L h' (own' ++ rest) → (∀ p ∈ own', ∀ q ∈ rest, p.1 ≠ q.1) → (∀ b o, s.heap.get? b = some o → b ∉ adrs own → h'.get? b = some o) → P v own' → R (.ok (.ret v)) { s with heap := h', toks := tk' }) →
    (∀ C, X = some C → ∀ a h' tk', RaisedX base (hideAll s.heap (adrs own)) (env :: outer) a C h' → (hideAll s.heap (adrs own)).UpToSlots h' → R (.error (.ref a)) { s with heap := h', toks := tk' }) →
    codeAny (model prog w) (ArH hx dp un gd (env :: outer)) (.call (.ref f) ⟨vs, []⟩) R s
end

theorem spec_of {prog : Program} {K : Params → Frag} {w : World} {mean : ExcName → Option Value} {mg mb : Str → Option Value} {hx : Option Value} {Φ : Heap → Prop} {f : Addr} {vs : List Value} {own : List (Addr × Obj)} {d : Nat} {P : Value → List (Addr × Obj) → Prop} {X : Option Addr}
    {name qual : Str} {params : Arguments} {body : List Stmt} {scope : Scope} {dV kV doc pm cdv ct oc : Value} {an od : Option Addr} {osl : Array (Option Value)} {binds : List (Str × Value)}
    (hb : BodyOk prog K w mean mg mb hx Φ qual scope f cdv body binds own (d - 1) P X)
    (hd : 1 ≤ d)
    (ho : (K w.params).lookup f = some ⟨oc, od, .func (fnOf name qual params body scope dV kV doc pm an cdv ct), osl⟩) (hcd : codeIn (K w.params) cdv qual = true)
    (hbind : ∀ s, BindsTo s (fnOf name qual params body scope dV kV doc pm an cdv ct) ⟨vs, []⟩ binds) (hloc : ∀ y ∈ binds, scope.names.lookup y.1 = some .local)
    (hcell : ∀ x ∈ scope.names, x.2 ≠ .cell) (hco : scope.isCoroutine = false) (hgen : scope.isGenerator = false) (hk : scope.kind = .function) :
    Spec prog K w mean mg mb hx Φ f vs own d P X := by
  intro dp un gd env outer A₀ base h₀ L m news rest s R hf hke B F N KB TB HX hdp hun hown hrest hne hQ hE
  have Nown : News h₀ L s.heap own := fun p hp => N p (hown p hp)
  have X₀ : (K w.params).In h₀ := KB.keeps B.stays
  obtain ⟨FG, BG, st, _⟩ := groundX (A := ArH hx dp un gd (env :: outer)) (R := fun _ _ => True) B F Nown rfl hf hke
  have T₀ : TopV mean mg mb h₀ := TB.keeps B.stays
  refine codeAny_call_def (fd := fnOf name qual params body scope dV kV doc pm an cdv ct) (body := body) (binds := binds) (by show dp < recursionLimit; omega) ((X₀.keeps F.keep) _ _ ho) rfl (T₀.nolimit.keeps F.keep)
    (codeRec_of (X₀.keeps F.keep) hcd) rfl (hbind _) hcell hloc (fun h₁ hns hk₁ => ?_) hco hgen hk
  have F₁ : Fr (hideAll s.heap (adrs own)) s.heap.objs.size h₁ (fun y => binds.reverse.lookup y) := ⟨hns, fun b o e => hk₁ b o (of_hideAll _ e), Nat.le_of_eq (hideAll_size _ _)⟩
  have N₁ : News (hideAll s.heap (adrs own)) s.heap.objs.size h₁ own := fun p hp => ⟨hk₁ _ _ (Nown p hp).1, Nat.ne_of_lt (Heap.lt_size (Nown p hp).1), hideAll_none _ (List.mem_map_of_mem hp)⟩
  have BG' : Below (ArH hx dp un gd (env :: outer)) base (env :: outer) (hideAll s.heap (adrs own)) := ⟨rfl, BG.stays, BG.frames⟩
  have body' := hb dp un gd (env :: outer) base (hideAll s.heap (adrs own)) s.heap.objs.size { s with heap := h₁, toks := s.toks + binds.length } BG' F₁ N₁ (X₀.keeps st) (T₀.keeps st) KB TB HX (by omega) (by omega)
  refine wpAny_mono body' (fun fl s' hl => ?_) (fun e s' hl => ?_)
  · obtain ⟨own', m', h', tk', rfl, F', N', hP⟩ := hl
    have keepR : ∀ p ∈ rest, h'.get? p.1 = some p.2 := fun p hp => F'.keep _ _ (hideAll_get _ (N p (hrest p hp)).1 fun hm => by
      obtain ⟨q, hq, e⟩ := List.mem_map.mp hm
      exact hne p hp q hq e.symm)
    have nL : L ∉ adrs own := fun q => by
      obtain ⟨p, hp, e⟩ := List.mem_map.mp q
      exact (Nown p hp).2.1 e
    obtain ⟨oL, es, ep, hL, hLd, hLk, hLf⟩ := F.ns
    have hLg := hideAll_get (adrs own) hL nL
    refine hQ _ own' h' tk' ⟨⟨oL, es, ep, F'.keep L oL hLg, hLd, hLk, hLf⟩, fun b o e => F'.keep b o (st b o e), F.above⟩ (fun p hp => ?_) (fun p hp q hq e => ?_) (fun b o e hb => F'.keep b o (hideAll_get _ e hb)) hP
    · rcases List.mem_append.mp hp with hp | hp
      · refine ⟨(N' p hp).1, fun q => ?_, ?_⟩
        · have := (N' p hp).2.2; rw [q, hLg] at this; cases this
        · cases q : h₀.get? p.1 with
          | none => rfl
          | some o => have := (N' p hp).2.2; rw [st _ _ q] at this; cases this
      · exact ⟨keepR p hp, (N p (hrest p hp)).2⟩
    · have h1 := (N' p hp).2.2
      have h2 := hideAll_get (adrs own) (N q (hrest q hq)).1 fun hm => by
        obtain ⟨r, hr, e⟩ := List.mem_map.mp hm
        exact hne q hq r hr e.symm
      rw [e, h2] at h1; cases h1
  · refine wpAny_mono hl (fun _ s'' z => ?_) (fun e' s'' z => ?_)
    · obtain ⟨C, a, h', tk', hX, rfl, rfl, R, U⟩ := z
      exact hE C hX a h' tk' R U
    · obtain ⟨C, a, h', tk', hX, rfl, rfl, R, U⟩ := z
      exact hE C hX a h' tk' R U
noncomputable abbrev SPH (hx : Option Value) (w : World) (mean : ExcName → Option Value) (mg mb : Str → Option Value) := Spec PySem.Challenge.rw_xm0753_01.row.prog Hd.hd.heap_1 w mean mg mb hx (HG hx)
noncomputable abbrev SP (w : World) (mean : ExcName → Option Value) (mg mb : Str → Option Value) := Spec PySem.Challenge.rw_xm0753_01.row.prog Hd.hd.heap_1 w mean mg mb none (HG none)

end Mine
namespace Mine
open PySem PySem.W PySem.Spec PySem.Calls PyProof.Rows
/-- a pure def: its value alone -/
noncomputable abbrev PuH (hx : Option Value) (w : World) (mean : ExcName → Option Value) (mg mb : Str → Option Value) (f : Addr) (vs : List Value) (d : Nat) (mk : Tok → Value) : Prop :=
  SPH hx w mean mg mb f vs [] d (fun v o => o = [] ∧ ∃ t, v = mk t) none
noncomputable abbrev Pu (w : World) (mean : ExcName → Option Value) (mg mb : Str → Option Value) (f : Addr) (vs : List Value) (d : Nat) (mk : Tok → Value) : Prop :=
  SP w mean mg mb f vs [] d (fun v o => o = [] ∧ ∃ t, v = mk t) none

section
variable {prog : Program} {K : Params → Frag} {w : World} {mean : ExcName → Option Value} {mg mb : Str → Option Value} {hx : Option Value} {Φ : Heap → Prop} {f : Addr} {vs : List Value} {own : List (Addr × Obj)} {d : Nat} {P : Value → List (Addr × Obj) → Prop} {X : Option Addr}
  {dp un : Nat} {gd : Option (List Code)} {outer : List Env} {base g : Heap} {L fa : Addr} {m : Str → Option Value} {news rest : List (Addr × Obj)} {s : Shared} {Q E : Value → Shared → Prop} {qual : Str} {scope : Scope} {cdv : Value}
theorem Spec.use {env : Env} (H : Spec prog K w mean mg mb hx Φ f vs own d P X) (B : Below (ArH hx dp un gd outer) base outer g) (F : Fr g L s.heap m) (N : News g L s.heap news) (KB : (K w.params).In base) (TB : TopV mean mg mb base)
    (hf : env.frame = some L) (hk : env.scope.kind = .function) (hd : dp + 1 + d < recursionLimit) (hu : un + 3 + 8 * d < cLine) (hown : ∀ p ∈ own, p ∈ news) (hrest : ∀ p ∈ rest, p ∈ news) (hne : ∀ p ∈ rest, ∀ q ∈ own, p.1 ≠ q.1)
    (hQ : ∀ v own' h' tk', Fr g L h' m → News g L h' (own' ++ rest) → (∀ p ∈ own', ∀ q ∈ rest, p.1 ≠ q.1) → P v own' → Q v { s with heap := h', toks := tk' })
    (hE : ∀ C, X = some C → ∀ a h' tk', RaisedX base (hideAll s.heap (adrs own)) (env :: outer) a C h' → (hideAll s.heap (adrs own)).UpToSlots h' → E (.ref a) { s with heap := h', toks := tk' })
    (HX : Φ (hideAll s.heap (adrs own)) := by exact HG.no) :
    wpAny (model prog w) ((ArH hx dp un gd outer).deeper env) (call (.ref f) vs) Q E s :=
  wpAny_call (H (dp + 1) (un + 3) gd env outer (ArH hx dp un gd outer) base g L m news rest s _ hf hk B F N KB TB HX hd hu hown hrest hne (fun v own' h' tk' a b c _ e => hQ v own' h' tk' a b c e) hE)
theorem Spec.useP {env : Env} {mk : Tok → Value} (H : Spec prog K w mean mg mb hx (HG hx) f vs [] d (fun v o => o = [] ∧ ∃ t, v = mk t) none) (B : Below (ArH hx dp un gd outer) base outer g) (F : Fr g L s.heap m) (N : News g L s.heap news) (KB : (K w.params).In base) (TB : TopV mean mg mb base)
    (hf : env.frame = some L) (hk : env.scope.kind = .function) (hd : dp + 1 + d < recursionLimit) (hu : un + 3 + 8 * d < cLine)
    (hQ : ∀ t h' tk', Fr g L h' m → News g L h' news → Q (mk t) { s with heap := h', toks := tk' })
    (HX : HG hx s.heap := by first | exact HG.no | assumption | exact HG.keeps (by assumption) (Fr.keep (by assumption))) :
    wpAny (model prog w) ((ArH hx dp un gd outer).deeper env) (call (.ref f) vs) Q E s :=
  Spec.use H B F N KB TB hf hk hd hu (fun _ h => nomatch h) (fun _ h => h) (fun _ _ _ h => nomatch h)
    (fun v own' h' tk' F' N' _ hP => by obtain ⟨rfl, t, rfl⟩ := hP; exact hQ t h' tk' F' N') (fun C h => nomatch h) HX
end
end Mine
namespace Mine
open PySem PySem.W PySem.Spec PySem.Calls PyProof.Rows PyProof.V
/-- the end of a turn: the iterator's object stands, the state is said anew -/
def LoopEnd (g : Heap) (L I : Addr) (oI : Obj) (J : (Str → Option Value) → List (Addr × Obj) → Prop) (s₁ : Shared) (Q : Flow → Shared → Prop) (f : Flow) (s₂ : Shared) : Prop := match f with
  | .ret v => Q (.ret v) s₂
  | .brk => Q .next s₂
  | _ => ∃ h' tk m' nx, s₂ = { s₁ with heap := h', toks := tk } ∧ Fr g L h' m' ∧ News g L h' ((I, oI) :: nx) ∧ (∀ p ∈ nx, p.1 ≠ I) ∧ J m' nx
def Jc {σ : Type} (Led : σ → List (Addr × Obj)) (ps : σ → List (Str × Value)) (P : σ → Prop) (m : Str → Option Value) (nx : List (Addr × Obj)) : Prop :=
  ∃ c : σ, nx = Led c ∧ (∀ p ∈ ps c, m p.1 = some p.2) ∧ P c
theorem kstB_self {m : Str → Option Value} {l : List (Str × Value)} (h : ∀ p ∈ l, m p.1 = some p.2) : kstB m l = m := by
  funext y
  exact kstB_eq h fun _ => rfl
section
variable {prog : Program} {w : World} {A : Around} {E : Value → Shared → Prop} {s : Shared} {env : Env} {h₀ : Heap} {x : Str} {body : List Stmt} {Q : Flow → Shared → Prop} {σ : Type}
theorem loop_own {I : Addr} {n : Nat} {P : Nat → Value → Prop} {St : Nat → Heap → Prop} {m₀ : Str → Option Value} {news : List (Addr × Obj)} (J : Nat → (Str → Option Value) → List (Addr × Obj) → Prop)
    (W : Walks prog w A I [I] [I] n P St) (hI : env.locals ≠ I) (hI0 : h₀.get? I = none) (hnw : ∀ p ∈ news, p.1 ≠ I) (hst : St 0 s.heap) (F : Fr h₀ env.locals s.heap m₀) (N : News h₀ env.locals s.heap news) (hj : J 0 m₀ news)
    (hob : ∀ i h, St i h → ∃ o, h.get? I = some o)
    (turn : ∀ i v m₁ nx h tk oI, i < n → P i v → J i m₁ nx → (∀ p ∈ nx, p.1 ≠ I) → Fr h₀ env.locals h (fun y => if y = x then some v else m₁ y) → News h₀ env.locals h ((I, oI) :: nx) →
      wpAny (model prog w) A (execs body env) (LoopEnd h₀ env.locals I oI (J (i + 1)) { s with heap := h, toks := tk } Q) E { s with heap := h, toks := tk })
    (done : ∀ m₁ nx h tk, J n m₁ nx → Fr h₀ env.locals h m₁ → News h₀ env.locals h nx → Q .next { s with heap := h, toks := tk }) :
    LoopAtV prog w A h₀ env x body Q E (.ref I) s := by
  refine ⟨I, [I], [I], n, P, St, m₀, news, J, rfl, W, (by simpa using hI), (by simpa using hI0), (by simpa using hnw), hst, F, N, hj, ?_, ?_⟩
  · rintro i v m₁ nx s₁ own ⟨hh', tk', rfl⟩ hin hP hJ hoff hown hget hall hst' F₁ N₁
    obtain ⟨oI, hoI⟩ := hob _ _ hst'
    have hm : (I, oI) ∈ own := hall I (by simp) hI0 oI hoI
    have hne : ∀ p ∈ nx, p.1 ≠ I := fun p hp => by simpa using hoff p hp
    have N₂ : News h₀ env.locals hh' ((I, oI) :: nx) := fun p hp => N₁ p ((List.mem_cons.mp hp).elim (fun e => List.mem_append.mpr (.inl (e ▸ hm))) fun h => List.mem_append.mpr (.inr h))
    refine wpAny_mono (turn i v m₁ nx hh' tk' oI hin hP hJ hne F₁ N₂) (fun f s₂ p => ?_) fun _ _ e => e
    have fin : (∃ h' tk m' nx', s₂ = { ({ s with heap := hh', toks := tk' } : Shared) with heap := h', toks := tk } ∧ Fr h₀ env.locals h' m' ∧ News h₀ env.locals h' ((I, oI) :: nx') ∧ (∀ p ∈ nx', p.1 ≠ I) ∧ J (i + 1) m' nx') → LoopStepU h₀ env.locals [I] own (J (i + 1)) { s with heap := hh', toks := tk' } .next s₂ := by
      rintro ⟨h', tk, m', nx', e, F', N', hne', hJ'⟩
      refine ⟨rfl, h', tk, m', nx', e, F', fun p hp => ?_, (by simpa using hne'), hJ'⟩
      rcases List.mem_append.mp hp with hp | hp
      · have h1 : p.1 = I := by simpa using hown p hp
        have h2 := hget p hp
        have h2' : (hh').get? I = some p.2 := h1 ▸ h2
        have h3 : p = (I, oI) := Prod.ext h1 (Option.some.inj (h2'.symm.trans (N₂ _ (.head _)).1))
        rw [h3]; exact N' _ (.head _)
      · exact N' _ (.tail _ hp)
    cases f with
    | ret v => exact .ret p
    | brk => exact .brk p
    | next => exact .next (fin p)
    | cont => exact .cont (fin p)
  · rintro h' tk m' news' F' N' _ hJ
    exact done m' news' h' tk hJ F' N'

theorem range_own {r : Addr} {a₀ b₀ : Int} {t₀ u₀ v₀ : Tok} {n : Nat} {m₀ : Str → Option Value} (Led : σ → List (Addr × Obj)) (ps : σ → List (Str × Value)) (P : Nat → σ → Prop) (c₀ : σ)
    (hh : A.handled = none) (hr : IsRange s.heap r a₀ b₀ 1 t₀ u₀ v₀) (hsmall : Builtin.Range.small a₀ b₀ 1 = true) (hn : Builtin.Range.rangeSize a₀ b₀ 1 = (n : Int)) (F : Fr h₀ env.locals s.heap m₀) (N : News h₀ env.locals s.heap (Led c₀)) (hk : ∀ p ∈ ps c₀, m₀ p.1 = some p.2) (hp : P 0 c₀)
    (turn : ∀ (i : Nat) (c : σ) t (u : Str → Option Value) h tk I oI, i < n → P i c → (∀ p ∈ Led c, p.1 ≠ I) → Fr h₀ env.locals h (fun y => if y = x then some (.int (a₀ + (i : Int)) t) else kstB u (ps c) y) → News h₀ env.locals h ((I, oI) :: Led c) →
      wpAny (model prog w) A (execs body env) (LoopEnd h₀ env.locals I oI (Jc Led ps (P (i + 1))) { s with heap := h, toks := tk } Q) E { s with heap := h, toks := tk })
    (done : ∀ (c : σ) (u : Str → Option Value) h tk, P n c → Fr h₀ env.locals h (kstB u (ps c)) → News h₀ env.locals h (Led c) → Q .next { s with heap := h, toks := tk }) :
    wpAny (model prog w) A (pyIter (.ref r)) (fun it s₂ => LoopAtV prog w A h₀ env x body Q E it s₂) E s := by
  refine wpAny_pyIter_range hr hsmall ?_
  have W : Walks prog w A s.heap.objs.size [s.heap.objs.size] [s.heap.objs.size] n (fun i v => i < n ∧ ∃ t, v = .int (a₀ + i * 1) t)
      (fun i h => IsRangeIter h s.heap.objs.size (a₀ + (i : Nat) * 1) ((n : Int) - (i : Nat)) 1) := (Walks.range hh _ a₀ 1 n).bound
  refine loop_own (fun i => Jc Led ps (P i)) W (Nat.ne_of_lt F.ns.lt) (next_is_new F) (fun p hp => Nat.ne_of_lt (Heap.lt_size (N p hp).1)) (by show IsRangeIter _ _ _ _ _; rw [hn]; simpa using Heap.get?_push_size _ rfl) (F.push _) (fun p hp => ⟨Heap.get?_push_of_some _ (N p hp).1, (N p hp).2⟩) ⟨c₀, rfl, hk, hp⟩ (fun i h hS => ⟨_, hS⟩) ?_ ?_
  · rintro i v m₁ nx h tk oI hi ⟨_, t, rfl⟩ ⟨c, rfl, h1, hp'⟩ hne F₁ N₁
    have e1 : a₀ + (i : Int) * 1 = a₀ + (i : Int) := by omega
    rw [e1] at F₁
    refine turn i c t m₁ h tk _ oI hi hp' hne ?_ N₁
    rw [kstB_self h1]; exact F₁
  · rintro m₁ nx h tk ⟨c, rfl, h1, hp'⟩ F₁ N₁
    refine done c m₁ h tk hp' ?_ N₁
    rw [kstB_self h1]; exact F₁
end
end Mine
namespace Mine
open PySem PySem.W PySem.Spec PySem.Calls PyProof.Rows
theorem News.sub {h₀ h : Heap} {L : Addr} {l l' : List (Addr × Obj)} (N : News h₀ L h l') (hs : ∀ p ∈ l, p ∈ l') : News h₀ L h l := fun p hp => N p (hs p hp)
end Mine
namespace Mine
open PySem PySem.W PySem.Spec PySem.Calls PyProof.Rows
section
variable (prog : Program) (K : Params → Frag) (w : World) (mean : ExcName → Option Value) (mg mb : Str → Option Value) (hx : Option Value) (Φ : Heap → Prop)
/-- a body whose names lie in cells too -/
def BodyOkC (qual : Str) (scope : Scope) (f : Addr) (cdv : Value) (body : List Stmt) (binds : List (Str × Value)) (own : List (Addr × Obj)) (d : Nat) (P : Value → List (Addr × Obj) → Prop) (X : Option Addr) : Prop :=
  ∀ (dp un : Nat) (gd : Option (List Code)) (outer : List Env) (base g : Heap) (L : Addr) (s : Shared) (cells : List (Addr × Obj)),
    Below (ArH hx dp un gd outer) base outer g → Fr g L s.heap (bindL (envOfC qual scope L f cdv).kindOf binds fun _ => none) → News g L s.heap (cells ++ own) →
    CellsAre (bindC (envOfC qual scope L f cdv).kindOf binds fun _ => none) (cellsFrom (L + 1) scope.names []) cells → (K w.params).In g → TopV mean mg mb g → (K w.params).In base → TopV mean mg mb base → Φ g →
    dp + d < recursionLimit → un + 8 * d < cLine → (∀ p ∈ own, p.1 < L) →
    wpAny (model prog w) ((ArH hx dp un gd outer).deeper (envOfC qual scope L f cdv)) (execs body (envOfC qual scope L f cdv))
      (fun fl s' => Ended g L P s (match fl with | .ret v => v | _ => .none) s')
      (fun e s' => wpAny (model prog w) ((ArH hx dp un gd outer).deeper (envOfC qual scope L f cdv)) (leaving (envOfC qual scope L f cdv) e) (fun _ s'' => Flies base g outer X s e s'') (fun e' s'' => Flies base g outer X s e' s'') s')
      s
end
theorem spec_ofC {prog : Program} {K : Params → Frag} {w : World} {mean : ExcName → Option Value} {mg mb : Str → Option Value} {hx : Option Value} {Φ : Heap → Prop} {f : Addr} {vs : List Value} {own : List (Addr × Obj)} {d : Nat} {P : Value → List (Addr × Obj) → Prop} {X : Option Addr}
    {name qual : Str} {params : Arguments} {body : List Stmt} {scope : Scope} {dV kV doc pm cdv ct oc : Value} {an od : Option Addr} {osl : Array (Option Value)} {binds : List (Str × Value)}
    (hb : BodyOkC prog K w mean mg mb hx Φ qual scope f cdv body binds own (d - 1) P X)
    (hd : 1 ≤ d)
    (ho : (K w.params).lookup f = some ⟨oc, od, .func (fnOf name qual params body scope dV kV doc pm an cdv ct), osl⟩) (hcd : codeIn (K w.params) cdv qual = true)
    (hbind : ∀ s, BindsTo s (fnOf name qual params body scope dV kV doc pm an cdv ct) ⟨vs, []⟩ binds) (hkind : (binds.all fun y => scope.names.lookup y.1 == some .local || scope.names.lookup y.1 == some .cell) = true)
    (hnd : ((cellsFrom 0 scope.names []).map (·.1)).Nodup) (hco : scope.isCoroutine = false) (hgen : scope.isGenerator = false) (hk : scope.kind = .function) :
    Spec prog K w mean mg mb hx Φ f vs own d P X := by
  intro dp un gd env outer A₀ base h₀ L m news rest s R hf hke B F N KB TB HX hdp hun hown hrest hne hQ hE
  have Nown : News h₀ L s.heap own := fun p hp => N p (hown p hp)
  have X₀ : (K w.params).In h₀ := KB.keeps B.stays
  obtain ⟨FG, BG, st, _⟩ := groundX (A := ArH hx dp un gd (env :: outer)) (R := fun _ _ => True) B F Nown rfl hf hke
  have T₀ : TopV mean mg mb h₀ := TB.keeps B.stays
  refine codeAny_call_function (by show dp < recursionLimit; omega) ((X₀.keeps F.keep) _ _ ho) rfl hco hgen rfl (codeRec_of (X₀.keeps F.keep) hcd) (hbind _ _ _ _ _ ?_)
  refine wpAny_newFunctionEnv_cells hk (kindsX hkind _) fun env' he s' x => ?_
  subst he
  refine ⟨(T₀.nolimit.keeps F.keep).keeps x.toInCall.keep, codeAny_func ?_⟩
  obtain ⟨h₁, tk, rfl, _⟩ := x.done
  have hk₁ := x.toInCall.keep
  obtain ⟨cells, NC, Y⟩ := Cl.news (h₀ := s.heap) (Nat.le_refl _) fun n c hm => ⟨x.cell n c (lookup_of_mem_nodup (cellsFrom_names scope.names 0 (s.heap.objs.size + 1) [] [] rfl ▸ hnd) hm), x.above n c hm⟩
  have F₁ : Fr (hideAll s.heap (adrs own)) s.heap.objs.size h₁ (bindL (envOfC qual scope s.heap.objs.size f cdv).kindOf binds fun _ => none) := ⟨x.toInCall.ns, fun b o e => hk₁ b o (of_hideAll _ e), Nat.le_of_eq (hideAll_size _ _)⟩
  have N₁ : News (hideAll s.heap (adrs own)) s.heap.objs.size h₁ (cells ++ own) := fun p hp => by
    rcases List.mem_append.mp hp with hp | hp
    · refine ⟨(NC p hp).1, (NC p hp).2.1, ?_⟩
      cases q : (hideAll s.heap (adrs own)).get? p.1 with
      | none => rfl
      | some o => have := of_hideAll _ q; rw [(NC p hp).2.2] at this; cases this
    · exact ⟨hk₁ _ _ (Nown p hp).1, Nat.ne_of_lt (Heap.lt_size (Nown p hp).1), hideAll_none _ (List.mem_map_of_mem hp)⟩
  have BG' : Below (ArH hx dp un gd (env :: outer)) base (env :: outer) (hideAll s.heap (adrs own)) := ⟨rfl, BG.stays, BG.frames⟩
  have body' := hb dp un gd (env :: outer) base (hideAll s.heap (adrs own)) s.heap.objs.size { s with heap := h₁, toks := tk } cells BG' F₁ N₁ Y (X₀.keeps st) (T₀.keeps st) KB TB HX (by omega) (by omega) (fun p hp => Heap.lt_size (Nown p hp).1)
  refine wpAny_mono body' (fun fl s' hl => ?_) (fun e s' hl => ?_)
  · obtain ⟨own', m', h', tk', rfl, F', N', hP⟩ := hl
    have keepR : ∀ p ∈ rest, h'.get? p.1 = some p.2 := fun p hp => F'.keep _ _ (hideAll_get _ (N p (hrest p hp)).1 fun hm => by
      obtain ⟨q, hq, e⟩ := List.mem_map.mp hm
      exact hne p hp q hq e.symm)
    have nL : L ∉ adrs own := fun q => by
      obtain ⟨p, hp, e⟩ := List.mem_map.mp q
      exact (Nown p hp).2.1 e
    obtain ⟨oL, es, ep, hL, hLd, hLk, hLf⟩ := F.ns
    have hLg := hideAll_get (adrs own) hL nL
    refine hQ _ own' h' tk' ⟨⟨oL, es, ep, F'.keep L oL hLg, hLd, hLk, hLf⟩, fun b o e => F'.keep b o (st b o e), F.above⟩ (fun p hp => ?_) (fun p hp q hq e => ?_) (fun b o e hb => F'.keep b o (hideAll_get _ e hb)) hP
    · rcases List.mem_append.mp hp with hp | hp
      · refine ⟨(N' p hp).1, fun q => ?_, ?_⟩
        · have := (N' p hp).2.2; rw [q, hLg] at this; cases this
        · cases q : h₀.get? p.1 with
          | none => rfl
          | some o => have := (N' p hp).2.2; rw [st _ _ q] at this; cases this
      · exact ⟨keepR p hp, (N p (hrest p hp)).2⟩
    · have h1 := (N' p hp).2.2
      have h2 := hideAll_get (adrs own) (N q (hrest q hq)).1 fun hm => by
        obtain ⟨r, hr, e⟩ := List.mem_map.mp hm
        exact hne q hq r hr e.symm
      rw [e, h2] at h1; cases h1
  · refine wpAny_mono hl (fun _ s'' z => ?_) (fun e' s'' z => ?_)
    · obtain ⟨C, a, h', tk', hX, rfl, rfl, R, U⟩ := z
      exact hE C hX a h' tk' R U
    · obtain ⟨C, a, h', tk', hX, rfl, rfl, R, U⟩ := z
      exact hE C hX a h' tk' R U
end Mine

-- XK
namespace Mine
open PySem PySem.W PySem.Spec PySem.Calls PyProof.Rows
abbrev frs (outer : List Env) : List Addr := outer.filterMap (·.frame)
/-- the way out of a body that has caught: the outer frames may have got another trace -/
def EndedT (g : Heap) (L : Addr) (outer : List Env) (P : Value → List (Addr × Obj) → Prop) (s : Shared) (v : Value) (s' : Shared) : Prop :=
  ∃ g' own' m' h' tk', KtsTurn (frs outer) g g' ∧ s' = { s with heap := h', toks := tk' } ∧ Fr g' L h' m' ∧ News g' L h' own' ∧ P v own'
section
variable (prog : Program) (K : Params → Frag) (w : World) (mean : ExcName → Option Value) (mg mb : Str → Option Value)
def BodyOkT (qual : Str) (scope : Scope) (f : Addr) (cdv : Value) (body : List Stmt) (binds : List (Str × Value)) (own : List (Addr × Obj)) (d : Nat) (P : Value → List (Addr × Obj) → Prop) : Prop :=
  ∀ (dp un : Nat) (gd : Option (List Code)) (outer : List Env) (base g : Heap) (L : Addr) (s : Shared),
    Below (Ar dp un gd outer) base outer g → Fr g L s.heap (fun y => binds.reverse.lookup y) → News g L s.heap own → (K w.params).In g → TopV mean mg mb g → (K w.params).In base → TopV mean mg mb base → HG none g →
    dp + d < recursionLimit → un + 8 * d < cLine →
    wpAny (model prog w) ((Ar dp un gd outer).deeper (envOf qual scope L f cdv)) (execs body (envOf qual scope L f cdv))
      (fun fl s' => EndedT g L outer P s (match fl with | .ret v => v | _ => .none) s')
      (fun e s' => wpAny (model prog w) ((Ar dp un gd outer).deeper (envOf qual scope L f cdv)) (leaving (envOf qual scope L f cdv) e) (fun _ s'' => Flies base g outer none s e s'') (fun e' s'' => Flies base g outer none s e' s'') s')
      s
def SpecT (f : Addr) (vs : List Value) (own : List (Addr × Obj)) (d : Nat) (P : Value → List (Addr × Obj) → Prop) : Prop :=
  ∀ (dp un : Nat) (gd : Option (List Code)) (env : Env) (outer : List Env) (A₀ : Around) (base h₀ : Heap) (L : Addr) (m : Str → Option Value) (news rest : List (Addr × Obj)) (s : Shared) (R : Result → Shared → Prop),
    env.frame = some L → env.scope.kind = .function → Below A₀ base outer h₀ → Fr h₀ L s.heap m → News h₀ L s.heap news → (K w.params).In base → TopV mean mg mb base →
    dp + d < recursionLimit → un + 8 * d < cLine →
    (∀ p ∈ own, p ∈ news) → (∀ p ∈ rest, p ∈ news) → (∀ p ∈ rest, ∀ q ∈ own, p.1 ≠ q.1) →
    (∀ v own' h' tk' h₀', KtsTurn (frs outer) h₀ h₀' → Fr h₀' L h' m → News h₀' L h' (own' ++ rest) → (∀ p ∈ own', ∀ q ∈ rest, p.1 ≠ q.1) → Below A₀ base outer h₀' → P v own' → R (.ok (.ret v)) { s with heap := h', toks := tk' }) →
    codeAny (model prog w) (Ar dp un gd (env :: outer)) (.call (.ref f) ⟨vs, []⟩) R s
end
theorem specT_of {prog : Program} {K : Params → Frag} {w : World} {mean : ExcName → Option Value} {mg mb : Str → Option Value} {f : Addr} {vs : List Value} {own : List (Addr × Obj)} {d : Nat} {P : Value → List (Addr × Obj) → Prop}
    {name qual : Str} {params : Arguments} {body : List Stmt} {scope : Scope} {dV kV doc pm cdv ct oc : Value} {an od : Option Addr} {osl : Array (Option Value)} {binds : List (Str × Value)}
    (hb : BodyOkT prog K w mean mg mb qual scope f cdv body binds own (d - 1) P)
    (hd : 1 ≤ d)
    (ho : (K w.params).lookup f = some ⟨oc, od, .func (fnOf name qual params body scope dV kV doc pm an cdv ct), osl⟩) (hcd : codeIn (K w.params) cdv qual = true)
    (hbind : ∀ s, BindsTo s (fnOf name qual params body scope dV kV doc pm an cdv ct) ⟨vs, []⟩ binds) (hloc : ∀ y ∈ binds, scope.names.lookup y.1 = some .local)
    (hcell : ∀ x ∈ scope.names, x.2 ≠ .cell) (hco : scope.isCoroutine = false) (hgen : scope.isGenerator = false) (hk : scope.kind = .function) :
    SpecT prog K w mean mg mb f vs own d P := by
  intro dp un gd env outer A₀ base h₀ L m news rest s R hf hke B F N KB TB hdp hun hown hrest hne hQ
  have Nown : News h₀ L s.heap own := fun p hp => N p (hown p hp)
  have X₀ : (K w.params).In h₀ := KB.keeps B.stays
  obtain ⟨FG, BG, st, _⟩ := groundX (A := Ar dp un gd (env :: outer)) (R := fun _ _ => True) B F Nown rfl hf hke
  have T₀ : TopV mean mg mb h₀ := TB.keeps B.stays
  refine codeAny_call_def (fd := fnOf name qual params body scope dV kV doc pm an cdv ct) (body := body) (binds := binds) (by show dp < recursionLimit; omega) ((X₀.keeps F.keep) _ _ ho) rfl (T₀.nolimit.keeps F.keep)
    (codeRec_of (X₀.keeps F.keep) hcd) rfl (hbind _) hcell hloc (fun h₁ hns hk₁ => ?_) hco hgen hk
  have F₁ : Fr (hideAll s.heap (adrs own)) s.heap.objs.size h₁ (fun y => binds.reverse.lookup y) := ⟨hns, fun b o e => hk₁ b o (of_hideAll _ e), Nat.le_of_eq (hideAll_size _ _)⟩
  have N₁ : News (hideAll s.heap (adrs own)) s.heap.objs.size h₁ own := fun p hp => ⟨hk₁ _ _ (Nown p hp).1, Nat.ne_of_lt (Heap.lt_size (Nown p hp).1), hideAll_none _ (List.mem_map_of_mem hp)⟩
  have BG' : Below (Ar dp un gd (env :: outer)) base (env :: outer) (hideAll s.heap (adrs own)) := ⟨rfl, BG.stays, BG.frames⟩
  have body' := hb dp un gd (env :: outer) base (hideAll s.heap (adrs own)) s.heap.objs.size { s with heap := h₁, toks := s.toks + binds.length } BG' F₁ N₁ (X₀.keeps st) (T₀.keeps st) KB TB HG.no (by omega) (by omega)
  refine wpAny_mono body' (fun fl s' hl => ?_) (fun e s' hl => ?_)
  · obtain ⟨g', own', m', h', tk', T, rfl, F', N', hP⟩ := hl
    have hfs : frs (env :: outer) = L :: frs outer := by show List.filterMap _ _ = _; rw [List.filterMap_cons, hf]
    rw [hfs] at T
    have nf : ∀ b o, h₀.get? b = some o → b ∉ adrs own := fun b o e hm => by
      obtain ⟨p, hp, q⟩ := List.mem_map.mp hm
      have := (Nown p hp).2.2
      rw [q, e] at this; cases this
    have inG : ∀ b o, h₀.get? b = some o → (hideAll s.heap (adrs own)).get? b = some o := fun b o e => hideAll_get _ (F.keep b o e) (nf b o e)
    have nL : L ∉ adrs own := fun q => by
      obtain ⟨p, hp, e⟩ := List.mem_map.mp q
      exact (Nown p hp).2.1 e
    have hL0 : h₀.get? L = none := kts_self F
    have frm : ∀ b ∈ frs outer, ∃ o, h₀.get? b = some o := fun b hb => by
      obtain ⟨_, o, ho, _⟩ := B.frames.mem hb
      exact ⟨o, ho⟩
    obtain ⟨TT, S⟩ := kts_turn_at (h := h') (fs := frs outer) (g := h₀) frm
      (fun b o e nm => F'.keep _ _ (T.other b o (inG b o e) (fun hm => by
        rcases List.mem_cons.mp hm with z | z
        · rw [z, hL0] at e; cases e
        · exact nm z)))
      (fun b o e hm => by
        obtain ⟨sl, hs⟩ := T.frame b o (inG b o e) (.tail _ hm)
        exact ⟨sl, F'.keep _ _ hs⟩)
    have keepR : ∀ p ∈ rest, g'.get? p.1 = some p.2 := fun p hp => by
      have hp' := N p (hrest p hp)
      refine T.other p.1 p.2 (hideAll_get _ hp'.1 fun hm => ?_) fun hm => ?_
      · obtain ⟨q, hq, e⟩ := List.mem_map.mp hm
        exact hne p hp q hq e.symm
      · rcases List.mem_cons.mp hm with z | z
        · exact hp'.2.1 z
        · obtain ⟨o, ho⟩ := frm _ z
          rw [hp'.2.2] at ho; cases ho
    obtain ⟨oL, es, ep, hL, hLd, hLk, hLf⟩ := F.ns
    obtain ⟨sl, hLs⟩ := T.frame L oL (hideAll_get (adrs own) hL nL) (.head _)
    refine hQ _ own' h' tk' _ TT ⟨⟨_, es, ep, F'.keep _ _ hLs, hLd, hLk, hLf⟩, S, by rw [TT.size]; exact F.above⟩ (fun p hp => ?_) (fun p hp q hq e => ?_)
      ⟨B.stack, fun b o e => TT.other b o (B.stays b o e) (fun hm => by rw [(B.frames.mem hm).1] at e; cases e), B.frames.of_keeps fun b o e _ => by
        obtain ⟨sl, hs⟩ := TT.up e
        exact ⟨_, hs, rfl⟩⟩ hP
    · rcases List.mem_append.mp hp with hp | hp
      · refine ⟨(N' p hp).1, fun q => ?_, TT.none_ _ ?_⟩
        · have := (N' p hp).2.2; rw [q, hLs] at this; cases this
        · cases q : h₀.get? p.1 with
          | none => rfl
          | some o =>
            obtain ⟨sl, hs⟩ := T.up (inG _ _ q)
            have := (N' p hp).2.2; rw [hs] at this; cases this
      · exact ⟨F'.keep _ _ (keepR p hp), (N p (hrest p hp)).2.1, TT.none_ _ (N p (hrest p hp)).2.2⟩
    · have h1 := (N' p hp).2.2
      rw [e, keepR q hq] at h1; cases h1
  · refine wpAny_mono hl (fun _ s'' z => ?_) (fun e' s'' z => ?_) <;>
    · obtain ⟨C, a, h', tk', hX, rfl, rfl, R, U⟩ := z
      cases hX
end Mine

-- XW
namespace Mine
open PySem PySem.W PySem.Spec PySem.Calls PyProof.Rows
section
variable {M : Model} {A : Around} {E : Value → Shared → Prop} {s : Shared}
theorem entry_X {base : Heap} {env : Env} {outer : List Env} {L e : Addr} {oe : Obj} {vs : Array Value} {head a0 : Value} {hadNext : Bool} {Q : Unit → Shared → Prop}
    (hfr : A.frames = some (env :: outer)) (hl : s.heap.FunFrames base (env :: outer)) (hf : env.frame = some L)
    (he : s.heap.get? e = some oe) (hkb : base.StaysIn s.heap) (hen : base.get? e = none) (hd : oe.data = .fields vs) (hsz : 1 < vs.size) (h0 : vs[0]? = some a0) (h2 : vs[2]? = some .none)
    (h : ∀ h', Heap.HeldW base (env :: outer) e oe.cls a0 L h' → F2 h' e → s.heap.UpToSlots h' → Q () { s with heap := h' }) :
    wpAny M A (do let a ← frameOf env; let pl ← entryPlaceOf L hadNext; let b ← EntryCells.newEntry head a .none (rawInt L) .none pl; setField (.ref e) 1 b) Q E s := by
  have notE : ∀ b o, s.heap.get? b = some o → (∀ ws, o.data ≠ .fields ws) → b ≠ e := fun b o hb hnf q => by
    subst q
    rw [he] at hb
    cases hb
    exact hnf vs hd
  have hene : e ∉ (env :: outer).filterMap (·.frame) := fun hm => by
    obtain ⟨_, o, ho, hnf⟩ := hl.mem hm
    exact notE _ _ ho hnf rfl
  refine wpAny_bind (wpAny_frameOf_fun hfr hl hf fun h₁ hs₁ => wpAny_bind (wpAny_entryPlaceOf fun pl hpl => ?_))
  unfold EntryCells.newEntry newFields
  refine wpAny_bind (wpAny_newObj_type ?_ (hpl.sizeOk5 _ _ _ _ _))
  have hts : (([head, .ref L, .none, rawInt L, .none] ++ (if pl.isEmpty then List.replicate 6 Value.none else pl)).toArray : Array Value)[3]? = some (rawInt L) := by
    first | (simp; done) | (rcases hpl with rfl | ⟨_, _, _, _, _, _, _, rfl⟩ <;> simp)
  generalize (([head, .ref L, .none, rawInt L, .none] ++ (if pl.isEmpty then List.replicate 6 Value.none else pl)).toArray : Array Value) = ts at hts ⊢
  have he₁ : h₁.get? e = some oe := (hs₁.2.1 e hene).trans he
  have keep₁ : ∀ b o, base.get? b = some o → h₁.get? b = some o := fun b o hb => (hs₁.2.1 b fun hm => by rw [(hl.mem hm).1] at hb; cases hb).trans (hkb b o hb)
  have he₂ := Heap.get?_push_of_some (h := h₁) { cls := .type "traceback", dict := none, data := .fields ts } he₁
  have hT₂ : (h₁.push { cls := .type "traceback", dict := none, data := .fields ts }).get? h₁.objs.size = some { cls := .type "traceback", dict := none, data := .fields ts } := Heap.get?_push_size h₁ rfl
  have hTe : h₁.objs.size ≠ e := Nat.ne_of_gt (Heap.lt_size he₁)
  refine wpAny_setField he₂ hd hsz ?_
  have hd₃ := Obj.data_mapFields hd (·.setIfInBounds 1 (Value.ref h₁.objs.size))
  have he₃ := Heap.get?_update_self (Obj.mapFields (·.setIfInBounds 1 (Value.ref h₁.objs.size))) he₂ (Obj.isFreed_of_fields hd₃)
  have off : ∀ b, b ≠ e → ((h₁.push { cls := .type "traceback", dict := none, data := .fields ts }).update e (Obj.mapFields (·.setIfInBounds 1 (Value.ref h₁.objs.size)))).get? b = (h₁.push { cls := .type "traceback", dict := none, data := .fields ts }).get? b :=
    fun b hb => Heap.get?_update_other _ _ (Ne.symm hb)
  have old : ∀ b o, b ≠ e → h₁.get? b = some o → ((h₁.push { cls := .type "traceback", dict := none, data := .fields ts }).update e (Obj.mapFields (·.setIfInBounds 1 (Value.ref h₁.objs.size)))).get? b = some o :=
    fun b o hb ho => (off b hb).trans (Heap.get?_push_of_some _ ho)
  have hbT : base.get? h₁.objs.size = none := by
    cases q : base.get? h₁.objs.size with
    | none => rfl
    | some o => exact absurd (Heap.lt_size (keep₁ _ _ q)) (Nat.lt_irrefl _)
  refine h _ ⟨fun b o hb => old b o (fun q => by rw [q, hen] at hb; cases hb) (keep₁ b o hb), hen, hl.of_keeps fun b o hb hnf => ?_, ?_⟩ ⟨_, _, he₃, hd₃, by rw [Array.getElem?_setIfInBounds_ne (by decide)]; exact h2⟩ fun b o hb hnf => ?_
  · obtain ⟨sl, hs⟩ := hs₁.2.2 b o hb
    exact ⟨_, old b _ (notE b o hb hnf) hs, rfl⟩
  · exact ⟨_, _, h₁.objs.size, _, _, he₃, ⟨Obj.cls_mapFields _ _, by rw [Array.getElem?_setIfInBounds_ne (by decide)]; exact h0⟩, hd₃, by simp [hsz], hbT, hTe, (off _ hTe).trans hT₂, rfl, hts⟩
  · obtain ⟨sl, hs⟩ := hs₁.2.2 b o hb
    exact ⟨sl, old b _ (notE b o hb hnf) hs⟩
theorem lands_X {base : Heap} {l : List Env} {e : Addr} {cls a0 fl : Value} {Q : Unit → Shared → Prop} (f1 : base.StaysIn s.heap) (f2 : base.get? e = none) (f3 : s.heap.FunFrames base l) (f4 : s.heap.TracedAtW base e cls a0 fl) (h2 : F2 s.heap e)
    (hQ : ∀ h', Heap.FlyingW base l e cls a0 h' → F2 h' e → s.heap.UpToSlots h' → Q () { s with heap := h' }) : wpAny M A (setFlight (.ref e) none) Q E s := by
  obtain ⟨oe, vs, T, oT, ts, he, hcls, hd, h1, hnT, hTe, hT, hdT, h3⟩ := f4
  have hsz : 3 < ts.size := (Array.getElem?_eq_some_iff.mp h3).1
  unfold setFlight
  refine wpAny_bind (wpAny_field he hd h1 ?_)
  rw [if_pos (show (Value.ref T != Value.none) = true from by simp)]
  refine wpAny_setField hT hdT hsz ?_
  have hT' := Heap.get?_update_self (Obj.mapFields (·.setIfInBounds 3 ((none : Option Addr).elim Value.none fun f => rawInt f))) hT (Obj.isFreed_of_fields (Obj.data_mapFields hdT _))
  have off : ∀ b, b ≠ T → (s.heap.update T (Obj.mapFields (·.setIfInBounds 3 ((none : Option Addr).elim Value.none fun f => rawInt f)))).get? b = s.heap.get? b := fun b hb => Heap.get?_update_other _ _ (Ne.symm hb)
  have notT : ∀ b o, s.heap.get? b = some o → (∀ ws, o.data ≠ .fields ws) → b ≠ T := fun b o hb hnf q => by
    subst q
    rw [hT] at hb
    cases hb
    exact hnf ts hdT
  obtain ⟨oe2, vs2, he2, hd2, h22⟩ := h2
  refine hQ _ ⟨fun b o hb => (off b fun q => by rw [q, hnT] at hb; cases hb).trans (f1 b o hb), f2, f3.of_keeps fun b o hb hnf => ⟨o, (off b (notT b o hb hnf)).trans hb, rfl⟩, ?_⟩ ⟨oe2, vs2, (off e (Ne.symm hTe)).trans he2, hd2, h22⟩
    fun b o hb hnf => ⟨o.slots, (off b (notT b o hb hnf)).trans hb⟩
  exact ⟨oe, vs, T, _, _, (off e (Ne.symm hTe)).trans he, hcls, hd, h1, hnT, hTe, hT', Obj.data_mapFields hdT _, by simp [hsz]⟩
theorem looks_X {base : Heap} {env : Env} {outer : List Env} {L e : Addr} {cls a0 : Value} {Q : Unit → Shared → Prop}
    (hfr : A.frames = some (env :: outer)) (hf : env.frame = some L) (hfl : Heap.FlyingW base (env :: outer) e cls a0 s.heap) (h2 : F2 s.heap e)
    (hQ : ∀ h', Heap.HeldW base (env :: outer) e cls a0 L h' → F2 h' e → s.heap.UpToSlots h' → Q () { s with heap := h' }) : wpAny M A (noteFrame (.ref e) env) Q E s := by
  obtain ⟨f1, f2, f3, oe, vs, T, oT, ts, he, ⟨hcls, h0⟩, hd, h1, hnT, hTe, hT, hdT, h3⟩ := hfl
  subst hcls
  obtain ⟨oe2, vs2, he2, hd2, h22⟩ := h2
  rw [he] at he2
  cases he2
  rw [hd] at hd2
  cases hd2
  unfold noteFrame
  simp only [hf]
  refine wpAny_bind (wpAny_field he hd h1 ?_)
  rw [if_pos (show (Value.ref T != Value.none) = true from by simp)]
  refine wpAny_bind (wpAny_field hT hdT h3 ?_)
  rw [if_neg (show ¬ ((Value.none == rawInt L) = true) from by simp [rawInt])]
  refine wpAny_bind (wpAny_setField hT hdT (Array.getElem?_eq_some_iff.mp h3).1 ?_)
  have off : ∀ b, b ≠ T → (s.heap.update T (Obj.mapFields (·.setIfInBounds 3 Value.none))).get? b = s.heap.get? b := fun b hb => Heap.get?_update_other _ _ (Ne.symm hb)
  have notT : ∀ b o, s.heap.get? b = some o → (∀ ws, o.data ≠ .fields ws) → b ≠ T := fun b o hb hnf q => by
    subst q
    rw [hT] at hb
    cases hb
    exact hnf ts hdT
  exact entry_X hfr (f3.of_keeps fun b o hb hnf => ⟨o, (off b (notT b o hb hnf)).trans hb, rfl⟩) hf ((off e (Ne.symm hTe)).trans he)
    (fun b o hb => (off b fun q => by rw [q, hnT] at hb; cases hb).trans (f1 b o hb)) f2 hd (Array.getElem?_eq_some_iff.mp h1).1 h0 h22
    fun h' x y z => hQ h' x y fun b o hb hnf => z b o ((off b (notT b o hb hnf)).trans hb) hnf
theorem first_X {base : Heap} {env : Env} {outer : List Env} {L e : Addr} {oe : Obj} {vs : Array Value} {a0 : Value} {Q : Unit → Shared → Prop}
    (hfr : A.frames = some (env :: outer)) (hl : s.heap.FunFrames base (env :: outer)) (hf : env.frame = some L)
    (he : s.heap.get? e = some oe) (hkb : base.StaysIn s.heap) (hen : base.get? e = none) (hd : oe.data = .fields vs) (h1 : vs[1]? = some .none) (h0 : vs[0]? = some a0) (h2 : vs[2]? = some .none)
    (h : ∀ h', Heap.FlyingW base outer e oe.cls a0 h' → F2 h' e → s.heap.UpToSlots h' → Q () { s with heap := h' }) : wpAny M A (leaving env (.ref e)) Q E s := by
  unfold leaving
  refine wpAny_bind ?_
  unfold noteFrame
  simp only [hf]
  refine wpAny_bind (wpAny_field he hd h1 ?_)
  rw [if_neg (by decide)]
  refine entry_X hfr hl hf he hkb hen hd (Array.getElem?_eq_some_iff.mp h1).1 h0 h2 fun h' x y z => ?_
  refine lands_X x.1 x.2.1 x.2.2.1 x.2.2.2 y fun h'' x2 y2 z2 => ?_
  obtain ⟨k1, k2, ⟨_, _, k3⟩, k4⟩ := x2
  exact h h'' ⟨k1, k2, k3, k4⟩ y2 (z.trans z2)
section
variable {base g g₂ : Heap} {outer : List Env} {L a e C : Addr} {m : Str → Option Value} {name : Str} {scope : Scope} {cd : Value} {Q : Unit → Shared → Prop}
theorem leave_onX (K : Below A base outer g) (F : Fr g L g₂ m) (R : RaisedX base g₂ (envOf name scope L a cd :: outer) e C s.heap) (hsm : g₂.UpToSlots s.heap)
    (hQ : ∀ h', RaisedX base g outer e C h' → g.UpToSlots h' → Q () { s with heap := h' }) :
    wpAny M (A.deeper (envOf name scope L a cd)) (leaving (envOf name scope L a cd) (.ref e)) Q E s := by
  obtain ⟨⟨B, a0, hB, hBG, _, hfl⟩, h2⟩ := R
  unfold leaving
  refine wpAny_bind (looks_X (Around.frames_deeper K.stack) rfl hfl h2 fun h₄ x y z => ?_)
  refine lands_X x.1 x.2.1 x.2.2.1 x.2.2.2 y fun h₅ x2 y2 z2 => ?_
  obtain ⟨k1, k2, ⟨_, _, k3⟩, k4⟩ := x2
  exact hQ h₅ ⟨⟨B, a0, hB, (fun b o q nm => hBG b o (F.keep b o q) (fun hm => by
    rcases kts_mem hm with z | z
    · rw [z, kts_self F] at q
      cases q
    · exact nm z)), (fun _ h => nomatch h), k1, k2, k3, k4⟩, y2⟩ ((Heap.UpToSlots.of_keeps F.keep).trans (hsm.trans (z.trans z2)))
end
end
end Mine
namespace Mine
open PySem PySem.W PySem.Spec PySem.Calls PyProof.Rows
section
variable {prog : Program} {w : World} {dp un : Nat} {gd : Option (List Code)} {E : Value → Shared → Prop} {s' : Shared} {base g G : Heap} {outer : List Env} {bm : List Value} {L a e C : Addr} {m : Str → Option Value} {name : Str} {scope : Scope} {cd : Value}
  {b₀ : Stmt} {suite : List Stmt} {pos np : Pos} {rest : List ExceptHandler} {Q : Flow → Shared → Prop} {KF : Frag}
  {p : Program} {loose : List Str} {mean : ExcName → Option Value} {mg mb : Str → Option Value} {x : Str}
theorem caught_X (R : RaisedX base G (envOf name scope L a cd :: outer) e C s'.heap) (F : Fr g L G m) (K : Below (Ar dp un gd outer) base outer g) (hsm : G.UpToSlots s'.heap) (XB : KF.In base) (TB : Top p loose mean mg mb base)
    (ex : nsIn KF mainGlobals x = some (some (.ref C))) (q : ∃ nm qn N bs hdct sn sub ab col dd k0 k1 k2 k3 k5 ne, KF.lookup C = some (excClassObj nm qn C N bs bm hdct sn sub ab col dd k0 k1 k2 k3 k5 ne)) (hbase : bm.contains (.type "BaseException") = true)
    (k : ∀ h' g' oe, KtsTurn (frs outer) g g' → Fr g' L h' m → News g' L h' [(e, oe)] → Below (ArH (some (.ref e)) dp un gd outer) base outer g' → KF.In g' → Top p loose mean mg mb g' → F2 h' e →
      wpAny (model prog w) ((ArH (some (.ref e)) dp un gd outer).deeper (envOf name scope L a cd)) (execs (b₀ :: suite) (envOf name scope L a cd)) Q E { s' with heap := h' })
    (hk : scope.kind = .function := by rfl) (hx : (envOf name scope L a cd).kindOf x = some .globalImplicit := by rfl) (hd : (x == ("__debug__" : Str)) = false := by decide)
    (hE : PassesOwnAt (model prog w) (((Ar dp un gd outer).deeper (envOf name scope L a cd)).mark (some (.ref e))) ((Ar dp un gd outer).deeper (envOf name scope L a cd)) (envOf name scope L a cd) E := by passes_own) :
    wpAny (model prog w) ((Ar dp un gd outer).deeper (envOf name scope L a cd)) (noteFrame (.ref e) (envOf name scope L a cd))
      (fun _ s₂ => wpAny (model prog w) ((Ar dp un gd outer).deeper (envOf name scope L a cd)) (setFlight (.ref e) none) (fun _ s₃ =>
        wpAny (model prog w) ((Ar dp un gd outer).deeper (envOf name scope L a cd)) (handleBy (.ref e) (envOf name scope L a cd) (.ExceptHandler (some (.Name x np)) none (b₀ :: suite) pos :: rest)) Q E s₃) E s₂) E s' := by
  obtain ⟨⟨B, a0, hB, hBG, _, hfl⟩, h2⟩ := R
  refine looks_X (Around.frames_deeper K.stack) rfl hfl h2 fun h₄ x4 y4 z4 => ?_
  refine lands_X x4.1 x4.2.1 x4.2.2.1 x4.2.2.2 y4 fun h₅ hheld y5 z5 => ?_
  have hsm₅ := z4.trans z5
  obtain ⟨g₅, T₅, F₅, K₅⟩ := kts_ground K F hBG hheld.1 (hsm.trans hsm₅)
  have X₅ : KF.In g₅ := XB.keeps K₅.stays
  have P₅ : TopRead p loose mg mb g₅ := topRead_of (TB.keeps K₅.stays)
  obtain ⟨ob, hob, hobc⟩ := hheld.there
  obtain ⟨nm, q', N, bs, hdct, sn, sub, ab, col, dd, k0, k1, k2, k3, k5, newId, hC⟩ := q
  have hC₅ := F₅.keep _ _ (X₅ _ _ hC)
  refine wpAny_handleBy_cons (codeAny_handlers_test (name_K F₅ X₅ P₅ ex ?_ hk hx hd)) (by intro q; cases q)
  refine wpAny_excMatches_sub_self hC₅ hob hobc hbase (codeAny_handlers_suite ?_)
  refine lands_X hheld.1 hheld.2.1 hheld.2.2.1 hheld.2.2.2.at y5 fun h₆ hfl₆ y6 hsm₆ => ?_
  obtain ⟨g₆, T₆, F₆, K₆⟩ := kts_ground K F hBG hfl₆.1 ((hsm.trans hsm₅).trans hsm₆)
  have X₆ : KF.In g₆ := XB.keeps K₆.stays
  have P₆ : Top p loose mean mg mb g₆ := TB.keeps K₆.stays
  obtain ⟨oe, ws, hoe, hoec, hoed, hoe0⟩ := hfl₆.first
  have ne₆ : g₆.get? e = none := T₆.none_ _ (kts_fresh F hBG hfl₆.2.1 fun o ho m => by
    obtain ⟨_, o', ho', hd⟩ := K.frames.mem m
    rw [ho] at ho'
    cases ho'
    obtain ⟨sl, hs⟩ := ((hsm.trans hsm₅).trans hsm₆) _ _ (F.keep _ _ ho) hd
    rw [hoe] at hs
    cases hs
    exact hd _ hoed)
  exact wpAny_passesOwnAt hE (k h₆ g₆ oe T₆ F₆ (News.more F₆ News.nil hoe (fun es n q => by rw [hoed] at q; cases q) ne₆) ⟨rfl, K₆.stays, K₆.frames⟩ X₆ P₆ y6)
end
end Mine

-- XM
namespace Mine
open PySem PySem.W PySem.Spec PySem.Calls PyProof.Rows

/-- the low octets of a number, the lowest first -/
noncomputable def lows : Int → Nat → List Int
  | _, 0 => []
  | r, j + 1 => r % 256 :: lows (r / 256) j
/-- the highest first -/
noncomputable def bigs (r : Int) (j : Nat) : List Int := (lows r j).reverse
theorem lows_length : ∀ (j : Nat) (r : Int), (lows r j).length = j
  | 0, _ => rfl
  | j + 1, r => by rw [lows, List.length_cons, lows_length j]
theorem bigs_length (r : Int) (j : Nat) : (bigs r j).length = j := by rw [bigs, List.length_reverse, lows_length]
theorem lows_in : ∀ (j : Nat) (r : Int), ∀ x ∈ lows r j, 0 ≤ x ∧ x < 256
  | 0, _, _, h => nomatch h
  | j + 1, r, x, h => by
    rw [lows] at h
    rcases List.mem_cons.mp h with rfl | h
    · omega
    · exact lows_in j _ x h
theorem bigs_in (r : Int) (j : Nat) : ∀ x ∈ bigs r j, 0 ≤ x ∧ x < 256 := fun x h => lows_in j r x (List.mem_reverse.mp h)
theorem put_fold : ∀ (l : List Int) (r : Int) (acc : List Int), (l.foldl (fun (p : Int × List Int) (_ : Int) => (p.1.fdiv (2 ^ Int.toNat 8), p.2 ++ [Builtin.bitAnd p.1 255])) (r, acc)).2 = acc ++ lows r l.length
  | [], r, acc => by simp [lows]
  | _ :: l, r, acc => by
    rw [List.foldl_cons, put_fold l, List.length_cons, lows, bitAnd_m8, List.append_assoc]
    have e : r.fdiv (2 ^ Int.toNat 8) = r / 256 := by
      rw [Int.fdiv_eq_ediv_of_nonneg _ (by decide)]; rfl
    rw [e]; rfl
theorem emod_step (r m : Int) (hm : 0 < m) : r % (256 * m) = r % 256 + 256 * (r / 256 % m) := by
  have h1 : r = 256 * (r / 256) + r % 256 := (Int.mul_ediv_add_emod r 256).symm
  have h2 : r / 256 = m * (r / 256 / m) + r / 256 % m := (Int.mul_ediv_add_emod _ _).symm
  have h3 := Int.emod_nonneg (r / 256) (Int.ne_of_gt hm)
  have h4 := Int.emod_lt_of_pos (r / 256) hm
  have h5 : r = (r % 256 + 256 * (r / 256 % m)) + (256 * m) * (r / 256 / m) := by
    have : 256 * (r / 256) = 256 * (m * (r / 256 / m)) + 256 * (r / 256 % m) := by rw [← Int.mul_add, ← h2]
    rw [Int.mul_assoc]; omega
  have h6 : r % (256 * m) = (r % 256 + 256 * (r / 256 % m)) % (256 * m) := by
    conv => lhs; rw [h5]
    exact Int.add_mul_emod_self_left _ _ _
  rw [h6]
  exact Int.emod_eq_of_lt (by omega) (by omega)
theorem pow256_pos (j : Nat) : (0 : Int) < 256 ^ j := Int.pow_pos (by decide)
theorem lows_mod : ∀ (j : Nat) (r : Int), lows (r % 256 ^ j) j = lows r j
  | 0, _ => rfl
  | j + 1, r => by
    rw [lows, lows]
    have e1 : r % 256 ^ (j + 1) % 256 = r % 256 := Int.emod_emod_of_dvd _ ⟨256 ^ j, by rw [Int.pow_succ, Int.mul_comm]⟩
    have e2 : r % 256 ^ (j + 1) / 256 = r / 256 % 256 ^ j := by
      rw [Int.pow_succ, Int.mul_comm, emod_step _ _ (pow256_pos j)]
      omega
    rw [e1, e2, lows_mod j]
/-- the number that octets make, the highest first -/
def fromB (l : List Int) : Int := l.foldl (fun a b => a * 256 + b) 0
theorem fromB_snoc (l : List Int) (x : Int) : fromB (l ++ [x]) = fromB l * 256 + x := by simp [fromB]
theorem fromB_bigs : ∀ (j : Nat) (r : Int), fromB (bigs r j) = r % 256 ^ j
  | 0, r => by simp [bigs, lows, fromB, Int.emod_one]
  | j + 1, r => by
    have e : bigs r (j + 1) = bigs (r / 256) j ++ [r % 256] := by simp [bigs, lows]
    rw [e, fromB_snoc, fromB_bigs j, Int.pow_succ, Int.mul_comm (256 ^ j) 256, emod_step _ _ (pow256_pos j)]
    omega
theorem bigs_mod (r : Int) (j : Nat) : bigs (r % 256 ^ j) j = bigs r j := by rw [bigs, lows_mod, bigs]
theorem div_step (n : Int) (i : Nat) : n / 256 ^ i / 256 = n / 256 ^ (i + 1) := by
  rw [Int.pow_succ, Int.ediv_ediv_of_nonneg (Int.le_of_lt (pow256_pos i))]
theorem lows_snoc : ∀ (i : Nat) (n : Int), lows n (i + 1) = lows n i ++ [n / 256 ^ i % 256]
  | 0, n => by simp [lows]
  | i + 1, n => by
    rw [lows, lows_snoc i, lows, List.cons_append]
    have e : n / 256 / 256 ^ i = n / 256 ^ (i + 1) := by
      rw [Int.pow_succ, Int.mul_comm, Int.ediv_ediv_of_nonneg (by decide)]
    rw [e]
theorem bigs_step (n : Int) (i : Nat) : [n / 256 ^ i % 256] ++ bigs n i = bigs n (i + 1) := by
  rw [bigs, bigs, lows_snoc, List.reverse_append]; rfl
theorem rsh8 (r : Int) : r.fdiv (2 ^ Int.toNat 8) = r / 256 := by
  rw [Int.fdiv_eq_ediv_of_nonneg _ (by decide)]; rfl
/-- a fact hidden from the walk's closers -/
structure Hid (P : Prop) : Prop where
  out : P
theorem ints_rev {vs : List Value} {ns : List Int} (h : IntsAre vs ns) : IntsAre vs.reverse ns.reverse := by
  induction h with
  | nil => exact .nil
  | cons n t _ ih => rw [List.reverse_cons, List.reverse_cons]; exact ih.append (.cons n t .nil)
theorem bitAnd_nat (a b : Nat) : Builtin.bitAnd (a : Int) (b : Int) = ((a &&& b : Nat) : Int) := by
  rfl
theorem and_zero (k a x : Nat) (h : x < 2 ^ k) : (2 ^ k * a) &&& x = 0 := by
  apply Nat.eq_of_testBit_eq
  intro i
  rw [Nat.testBit_and, Nat.testBit_two_pow_mul, Nat.zero_testBit]
  by_cases hi : k ≤ i
  · rw [Nat.testBit_lt_two_pow (Nat.lt_of_lt_of_le h (Nat.pow_le_pow_right (by decide) hi)), Bool.and_false]
  · rw [show decide (i ≥ k) = false from decide_eq_false hi, Bool.false_and, Bool.false_and]
theorem bitOr_8 (a x : Int) (ha : 0 ≤ a) (h0 : 0 ≤ x) (h : x < 256) : Builtin.bitOr (a * 2 ^ Int.toNat 8) x = a * 256 + x := by
  obtain ⟨a, rfl⟩ := Int.eq_ofNat_of_zero_le ha
  obtain ⟨x, rfl⟩ := Int.eq_ofNat_of_zero_le h0
  have e : ((a : Int) * 2 ^ Int.toNat 8) = ((2 ^ 8 * a : Nat) : Int) := by
    rw [show (2 : Nat) ^ 8 = 256 from rfl, Int.natCast_mul, show (2 : Int) ^ Int.toNat 8 = 256 from rfl]; omega
  rw [bitOr_and, e, bitAnd_nat, and_zero 8 a x (by omega), show (2 : Nat) ^ 8 = 256 from rfl, Int.natCast_mul]; omega
/-- octets, as ints -/
def Oct (l : List Int) : Prop := ∀ x ∈ l, 0 ≤ x ∧ x < 256
theorem Oct.append {a b : List Int} (x : Oct a) (y : Oct b) : Oct (a ++ b) := fun z h => (List.mem_append.mp h).elim (x z) (y z)
theorem Oct.getD {l : List Int} (x : Oct l) (i : Nat) : 0 ≤ l.getD i 0 ∧ l.getD i 0 < 256 := by
  by_cases h : i < l.length
  · rw [List.getD_eq_getElem?_getD, List.getElem?_eq_getElem h]; exact x _ (List.getElem_mem h)
  · rw [List.getD_eq_getElem?_getD, List.getElem?_eq_none (Nat.le_of_not_lt h)]; exact ⟨by decide, by decide⟩
theorem byteArr_append (a b : List Int) : byteArr a ++ byteArr b = byteArr (a ++ b) := by simp [byteArr]
theorem byteArr_getD {l : List Int} (x : Oct l) {i : Nat} (h : i < l.length) : ((((l.map fun n : Int => n.toNat.toUInt8).getD i 0).toNat : Nat) : Int) = l.getD i 0 := by
  rw [List.getD_eq_getElem?_getD, List.getD_eq_getElem?_getD, List.getElem?_map, List.getElem?_eq_getElem h]
  exact byte_back (x _ (List.getElem_mem h)).1 (x _ (List.getElem_mem h)).2
theorem fromB_take (l : List Int) (i : Nat) (h : i < l.length) : fromB (l.take (i + 1)) = fromB (l.take i) * 256 + l.getD i 0 := by
  rw [List.take_add_one, List.getElem?_eq_getElem h, List.getD_eq_getElem?_getD, List.getElem?_eq_getElem h]
  exact fromB_snoc _ _
theorem fromB_bound : ∀ (l : List Int), Oct l → 0 ≤ fromB l ∧ fromB l < 256 ^ l.length := by
  intro l h
  have key : ∀ (n : Nat) (l : List Int), l.length = n → Oct l → 0 ≤ fromB l ∧ fromB l < 256 ^ l.length := by
    intro n
    induction n with
    | zero => intro l e _; rw [List.length_eq_zero_iff.mp e]; exact ⟨by decide, by decide⟩
    | succ n ih =>
      intro l e h
      have hne : l ≠ [] := fun q => by rw [q] at e; cases e
      have hl := List.dropLast_concat_getLast hne
      have h1 := ih l.dropLast (by rw [List.length_dropLast, e]; rfl) fun x hx => h x (List.dropLast_subset _ hx)
      have h2 := h _ (List.getLast_mem hne)
      rw [← hl, fromB_snoc, List.length_append, List.length_singleton, Int.pow_succ]
      generalize (256 : Int) ^ l.dropLast.length = p at *
      omega
  exact key _ l rfl h
section
variable {prog : Program} {w : World} {A : Around} {E : Value → Shared → Prop} {s : Shared} {Q : Value → Shared → Prop} {value slice : Expr} {t : Tok}
theorem item_B {ns : List Int} {i : Int} {ui : Tok} (hin : Oct ns) (hfit : ns.length ≤ 1000) (h0 : 0 ≤ i) (h1 : i < (ns.length : Int)) (h : Q (.int (ns.getD i.toNat 0) s.toks) { s with toks := s.toks + 1 })
    (hs : subscripted slice false (.bytes (byteArr ns) t) (.int i ui) = operate [.bytes (byteArr ns) t, .int i ui] (getItem (.bytes (byteArr ns) t) (.int i ui)) := by with_unfolding_all rfl)
    (ht : ∀ r, letTemporaryGo value (.bytes (byteArr ns) t) r = pure () := by intro _; with_unfolding_all rfl) :
    wpAny (model prog w) A (subscriptTail value slice (.bytes (byteArr ns) t) (.int i ui)) Q E s := by
  have e := byteArr_getD hin (i := i.toNat) (by omega)
  rw [← e] at h
  unfold byteArr at *
  exact KBy.item_N (by rw [List.length_map]; omega) h0 (by rw [List.length_map]; exact h1) h hs ht
theorem add_B {a b : List Int} {t u : Tok} (hsz : a.length + b.length ≤ 1000) (h : ∀ t' k, Q (.bytes (byteArr (a ++ b)) t') { s with toks := k }) : wpAny (model prog w) A (binaryOp .Add (.bytes (byteArr a) t) (.bytes (byteArr b) u)) Q E s := by
  refine KBy.add_bytes (by rw [byteArr_size, byteArr_size]; omega) fun t' k => ?_
  rw [byteArr_append]; exact h t' k
end
end Mine
namespace Mine
open PySem PySem.W PySem.Spec PySem.Calls PyProof.Rows
theorem pow256_le {i : Nat} (h : i ≤ 8) : (256 : Int) ^ i ≤ 18446744073709551616 := by
  have : ∀ j ∈ List.range 9, (256 : Int) ^ j ≤ 18446744073709551616 := by decide
  exact this i (List.mem_range.mpr (by omega))
end Mine
namespace Mine
open PySem PySem.W PySem.Spec PySem.Calls PyProof.Rows
theorem pow_gen {prog : Program} {w : World} {A : Around} {E : Value → Shared → Prop} {s : Shared} {a n : Int} {t u : Tok} {Q : Value → Shared → Prop} (hn : 0 ≤ n) (hn2 : n ≤ 1000000) (ha : a.natAbs < 2 ^ 64) (h : ∀ p : Int, Hid (p = a ^ n.toNat) → Q (.int p s.toks) { s with toks := s.toks + 1 }) :
    wpAny (model prog w) A (binaryOp .Pow (.int a t) (.int n u)) Q E s := pow_int_small hn hn2 ha (h _ ⟨rfl⟩)
end Mine
namespace Mine
open PySem PySem.W PySem.Spec PySem.Calls PyProof.Rows
theorem Fr.butI {g h h' : Heap} {L I : Addr} {m : Str → Option Value} (F : Fr g L h m) (hk : ∀ b o, b ∉ [I] → h.get? b = some o → h'.get? b = some o) (hL : L ≠ I) (hI : g.get? I = none) : Fr g L h' m :=
  ⟨F.ns.at' fun o e => hk L o (by simpa using hL) e, fun b o e => hk b o (by rintro q; rw [List.mem_singleton.mp q, hI] at e; cases e) (F.keep b o e), F.above⟩
theorem News.butI {g h h' : Heap} {L I : Addr} {l : List (Addr × Obj)} (N : News g L h l) (hk : ∀ b o, b ∉ [I] → h.get? b = some o → h'.get? b = some o) (hI : ∀ p ∈ l, p.1 ≠ I) : News g L h' l :=
  fun p hp => ⟨hk _ _ (by simpa using hI p hp) (N p hp).1, (N p hp).2⟩
end Mine
namespace Mine
open PySem PySem.W PySem.Spec PySem.Calls PyProof.Rows
/-- an object that, wherever it stands, is that namespace -/
def NsObj (o : Obj) (m : Str → Option Value) : Prop := ∀ (h : Heap) (a : Addr), h.get? a = some o → h.Ns a m
theorem nsObj_of {h : Heap} {C : Addr} {m : Str → Option Value} (hn : h.Ns C m) : ∃ o, h.get? C = some o ∧ NsObj o m := by
  obtain ⟨o, es, ep, e, r⟩ := hn
  exact ⟨o, e, fun h' a e' => ⟨o, es, ep, e', r⟩⟩
theorem News.addNs {g h h₂ : Heap} {L C : Addr} {o : Obj} {m : Str → Option Value} {l : List (Addr × Obj)} (N : News g L h l) (F : Fr g L h₂ m) (hC : h₂.objs.size ≤ C) (e : h.get? C = some o) : News g L h ((C, o) :: l) := fun p hp => by
  rcases List.mem_cons.mp hp with rfl | hp
  · refine ⟨e, Nat.ne_of_gt (Nat.lt_of_lt_of_le F.ns.lt hC), ?_⟩
    cases q : g.get? C with
    | none => rfl
    | some o' => exact absurd (Heap.lt_size (F.keep _ _ q)) (Nat.not_lt.mpr hC)
  · exact N p hp
theorem blk_name {M : Model} {A : Around} {E : Value → Shared → Prop} {s : Shared} {g : Heap} {L C : Addr} {oC : Obj} {m₃ : Str → Option Value} {news : List (Addr × Obj)} {env : Env} {x : Str} {pos : Pos} {v : Value} {Q : Value → Shared → Prop}
    (N : News g L s.heap news) (hO : NsObj oC m₃) (hm : (C, oC) ∈ news) (hl : env.locals = C) (hk : env.scope.kind = .function) (hx : env.kindOf x = some .local) (hv : m₃ x = some v) (hd : (x == ("__debug__" : Str)) = false) (h : Q v s) : wpAny M A (eval (.Name x pos) env) Q E s :=
  wpAny_Name (wpAny_loadName_local hk hx (hl ▸ hO _ _ (N _ hm).1) hv h) hd
end Mine

-- XE
namespace Mine
open PySem PySem.W PySem.Spec PySem.Calls PyProof.Rows

abbrev bmX : List Value := [.ref 31, .type "Exception", .type "BaseException", .type "object"]
section
variable {M : Model} {A : Around} {E : Value → Shared → Prop} {h : Heap} {g : Array GenState} {d : Drawn} {t : Nat} {os : OsState}
variable {nm q : Str} {C N : Addr} {bs : List Value} {hdct : Bool} {sn : List Str} {sub : List Value} {ab : Bool} {col : Option Bool} {dd : Option Addr} {k0 k1 k2 k3 k5 : Option Value}
theorem x_has (C : Addr) : (Value.ref C :: bmX).contains (.type "Exception") = true := by simp
theorem x_base (C : Addr) : (Value.ref C :: bmX).contains (.type "BaseException") = true := by simp
theorem x_noA (C : Addr) : (Value.ref C :: bmX).contains (.type "AttributeError") = false := by
  rw [List.contains_cons]; rfl
theorem x_noN (C : Addr) : (Value.ref C :: bmX).contains (.type "NameError") = false := by
  rw [List.contains_cons]; rfl
theorem x_check_new {rest : List Value} {Q : Unit → Shared → Prop} (hC : h.get? C = some (excClassObj nm q C N bs bmX hdct sn sub ab col dd k0 k1 k2 k3 k5 "Exception.__new__"))
    (hq : Q () ⟨h, g, d, t, os⟩) : wpAny M A (checkBuiltinCall "Exception.__new__" ⟨.ref C :: rest, []⟩) Q E ⟨h, g, d, t, os⟩ := by
  have Fn := PySem.F.excBase_Exception
  have hcont := x_has C
  have hstar := Fn.noStar
  simp only [checkBuiltinCall, Fn.newKind, Fn.newSplit, Fn.newRow]
  repeat (first | refine wpAny_loadPart_at hC ?_ | (refine wpAny_isSubtype_exc hC ?_; rw [hcont]) | refine wpAny_staticBase_exc hC ?_ | refine wpAny_madeBy_exc hC ?_ | simp only [bne_self_eq_false, Bool.false_eq_true, if_false] | wp_step)
  exact hq
end
section
variable {prog : Program} {w : World} {A : Around} {R : Result → Shared → Prop} {h : Heap} {g : Array GenState} {d : Drawn} {t : Nat} {os : OsState}
variable {nm q : Str} {C N : Addr} {bs : List Value} {hdct : Bool} {sn : List Str} {sub : List Value} {ab : Bool} {col : Option Bool} {dd : Option Addr} {k0 k1 k2 k3 k5 : Option Value}
abbrev excObj (C n : Addr) : Obj := { cls := .ref C, data := .fields #[.ref n, .none, .none, .none, .bool false, .none] }
abbrev tupObj (rest : List Value) : Obj := { cls := .type "tuple", data := .seq rest.toArray }
theorem x_new {rest : List Value} (hC : h.get? C = some (excClassObj nm q C N bs bmX hdct sn sub ab col dd k0 k1 k2 k3 k5 "Exception.__new__"))
    (hq : R (.ok (.ret (.ref (h.objs.size + 1)))) ⟨(h.push (tupObj rest)).push (excObj C h.objs.size), g, d, t, os⟩) (hrest : rest.length ≤ sizeLine := by size_fits) :
    codeAny (model prog w) A (.builtin "Exception.__new__" ⟨.ref C :: rest, []⟩) R ⟨h, g, d, t, os⟩ := by
  have Fn := PySem.F.excBase_Exception
  have hends := Fn.ends
  have hcB := x_has C
  have hcA := x_noA C
  have hcN := x_noN C
  refine codeAny_builtinAt Fn.entry ?_
  unfold Builtin.«BaseException.__new__»
  refine PySem.wpAt_bind ?_
  show PySem.wpAt _ _ _ (stack >>= _) _ _ _
  refine PySem.wpAt_bind (PySem.wpAt_stack fun p below => PySem.wpAt_of_wpAny ?_)
  wp_walk
  refine PySem.wpAt_of_wpAny ?_
  rw [Fn.owner]
  repeat (first | with_reducible refine wpAny_madeHere_exc Fn.canon hC ?_ | with_reducible refine wpAny_loadPart_at hC ?_ | (with_reducible refine wpAny_isSubtype_exc hC ?_; first | rw [hcB] | rw [hcA] | rw [hcN]) | wp_step)
  show R _ _
  rw [Heap.size_push]
  exact hq
end
section
variable {prog : Program} {w : World} {A : Around} {R : Result → Shared → Prop} {h : Heap} {g : Array GenState} {d : Drawn} {t : Nat} {os : OsState} {K : Frag}
variable {nm q : Str} {C N fI : Addr} {bs : List Value} {hdct : Bool} {sn : List Str} {sub : List Value} {ab : Bool} {col : Option Bool} {dd : Option Addr} {k0 k1 k2 k3 k5 : Option Value}
theorem x_made (hC : h.get? C = some (excClassObj nm q C N bs bmX hdct sn sub ab col dd k0 k1 k2 k3 k5 "Exception.__new__")) : Looks (model prog w) h (Bind.madeBy (.ref C)) (some "Exception.__new__") := by
  intro A Q E s k hq
  obtain ⟨h', g, d, t, os⟩ := s
  exact wpAny_madeBy_exc (k _ _ hC) hq
theorem x_make {rest : List Value} (X : K.In h) (hC : h.get? C = some (excClassObj nm q C N bs bmX hdct sn sub ab col dd k0 k1 k2 k3 k5 "Exception.__new__"))
    (hcl : specialIn K (.ref C) "__call__" = some (some (.builtin "type.__call__"))) (htyp : instIn K (.ref C) (.type "type") = some true) (hcc : clsIn K C = some { name := nm, bases := bs, mro := .ref C :: bmX, ns := N, qualname := q, hasDict := hdct, slotNames := sn, subclasses := sub, abstract := ab, collection := col, hasDel := false })
    (hi : findIn K (.ref C) "__init__" = some (some (.ref fI))) (hf : typeIn K (.ref fI) = some (.type "function")) (hself : mroIn K C (.ref C) = some true)
    (hq : codeAny (model prog w) (A.under (.builtin "type.__call__" ⟨.ref C :: rest, []⟩)) (.call (.ref fI) ⟨.ref (h.objs.size + 1) :: rest, []⟩) (InitBack (h.objs.size + 1) R) ⟨(h.push (tupObj rest)).push (excObj C h.objs.size), g, d, t, os⟩)
    (hrest : rest.length ≤ sizeLine) :
    codeAny (model prog w) A (.call (.ref C) ⟨rest, []⟩) R ⟨h, g, d, t, os⟩ := by
  have Fn := PySem.F.excBase_Exception
  have made := x_made (prog := prog) (w := w) hC
  have call : Looks (model prog w) h (specialOf (.ref C) "__call__") (some (.builtin "type.__call__")) := looks_specialIn X hcl
  have typ : Looks (model prog w) h (isInstance (.ref C) (.type "type")) true := looks_instIn X htyp
  have self : Looks (model prog w) h (isSubtype (.ref C) (.ref C)) true := looks_mroIn X hself
  have e4 : (Value.ref C :: bmX).isEmpty = false := rfl
  have hiL := looks_findIn (M := model prog w) X hi
  refine codeAny_of_tree ?_
  show wpAny _ _ (callAny (.ref C) _) _ _ _
  refine nd_load hC ?_
  show wpAny _ _ (callAny.viaDunder (.ref C) _) _ _ _
  unfold callAny.viaDunder
  refine wpAny_bind (call.at ?_)
  dsimp only
  rw [tc_bind]
  refine wpAny_bind (wpAny_pure (wpAny_bind (wpAny_pure ?_)))
  refine wpAny_pure (a := Fin.again (.call (.builtin "type.__call__") ⟨.ref C :: rest, []⟩)) (And.intro rfl ?_)
  refine codeAny_call_builtin_at (Code.quiet_builtin _ (by decide +kernel)) entry_typeCall (check_slot tc_kind tc_split typ (tc_args _ _ _) ?_)
  unfold Builtin.«type.__call__»
  have hm : Looks (model prog w) h (mroOf (.ref C)) (.ref C :: bmX) := ((Looks.ld (part := none) hC).andThen .now).andThen .now
  repeat (first | simp only [e4, Bool.false_eq_true, if_false] | with_reducible refine wpAny_call ?_ | lk)
  refine codeAny_call_builtin_code (Code.quiet_builtin _ Fn.quiet) (x_check_new hC ?_)
  refine x_new hC ?_ hrest
  have k : ∀ b o, h.get? b = some o → ((h.push (tupObj rest)).push (excObj C h.objs.size)).get? b = some o := fun b o e => Heap.get?_push_of_some _ (Heap.get?_push_of_some _ e)
  have hx : ((h.push (tupObj rest)).push (excObj C h.objs.size)).get? (h.objs.size + 1) = some (excObj C h.objs.size) := by heap_get
  have t1 : Looks (model prog w) ((h.push (tupObj rest)).push (excObj C h.objs.size)) (typeOf (.ref (h.objs.size + 1))) (.ref C) := (Looks.ld hx).andThen .now
  have s1 := self.keeps k
  have i1 := hiL.keeps k
  have b1 := (bind_fn (M := model prog w) X (.ref (h.objs.size + 1)) hf).keeps k
  show wpAny _ _ _ _ _ _
  unfold isInstance callSpecial? specialOf
  repeat (first | with_reducible refine wpAny_call ?_ | lk)
  refine codeAny_mono hq fun r s' z => ?_
  rcases r with e | (v | _ | _ | _) <;> first | exact z | exact z.elim | skip
  obtain ⟨rfl, z⟩ := z
  exact wpAny_pure (wpAny_pure z)
end
section
open Builtin Builtin.ObjectAttr
theorem x_refuse (self : Value) (C : Addr) : refuseLoop self "__setattr__" (.ref C :: bmX) = pure () := by
  rw [refuseLoop_ref, refuseLoop_ref]; kernel_rfl
section
variable {prog : Program} {w : World} {A : Around} {R : Result → Shared → Prop} {s : Shared} {K : Frag} {x C : Addr} {E : Value → Shared → Prop}
theorem x_osa {ox : Obj} {cd : ClassData} {name : Str} {tk : Tok} {v : Value} (X : K.In s.heap) (hx : s.heap.get? x = some ox) (hcl : ox.cls = .ref C) (hno : notCls ox = true) (hdn : ox.dict = none) (hc : clsIn K C = some cd) (hm : cd.mro = .ref C :: bmX) (hh : cd.hasDict = true) (ht : takerIn K C name = some none)
    {vs : Array Value} (hdat : ox.data = .fields vs)
    (h : ∀ h' d, (∀ b o, b ≠ x → s.heap.get? b = some o → h'.get? b = some o) → h'.get? x = some { ox with dict := some d } → R (.ok (.ret .none)) { s with heap := h', toks := s.toks + 1 }) :
    codeAny (model prog w) A (.call (.builtin "object.__setattr__") ⟨[.ref x, .str name tk, v], []⟩) R s := by
  have SF := PySem.F.store_object
  have I : InstAt s.heap x ox C none := ⟨hx, hcl, hno, by rw [hdn]; trivial⟩
  have ne : cd.mro.isEmpty = false := by rw [hm]; rfl
  have sub : Looks (model prog w) s.heap (isInstance (.ref x) (.type "object")) true := I.type.andThen (looks_mroIn X (by unfold mroIn; rw [hc, Option.bind_some, if_neg (by rw [ne]; decide), hm, List.contains_cons]; rfl))
  refine codeAny_call_builtin SF.slot.plain SF.entry (@check_slot (model prog w) _ _ s "object.__setattr__" "object" "__setattr__" (.ref x) [.str name tk, v] [] _ SF.kind SF.split sub (SF.args (.ref x) (.str name tk) v) ?_)
  obtain ⟨attr, ha, hr⟩ := Option.bind_eq_some_iff.mp ht
  have hmL : Looks (model prog w) s.heap (mroOf (.ref C)) cd.mro := (looks_clsIn X hc).andThen .now
  have L3 : Looks (model prog w) s.heap (storeTaker? attr) none := by
    cases attr with
    | none => cases hr; exact .now
    | some a =>
      obtain ⟨b, hb, hq⟩ := Option.map_eq_some_iff.mp hr
      refine (looks_takesIn X hb).andThen ?_
      cases b with
      | true => simp at hq
      | false => exact .now
  rw [osa_eq, refuse_eq]
  refine wpAny_bind (wpAny_bind (I.type.here (wpAny_bind (hmL.here ?_))))
  rw [hm, x_refuse]
  refine wpAny_pure (wpAny_bind (I.type.here (wpAny_bind ((looks_findIn X ha).here (wpAny_bind (L3.here ?_))))))
  dsimp only
  obtain ⟨oc, odi, oda, osl⟩ := ox
  dsimp only at hcl hdn hdat
  subst hcl hdn hdat
  refine wpAny_bind (wpAny_pure (wpAny_bind (wpAny_bind (wpAny_loadPart hx (wpAny_bind ((looks_clsIn X hc).here ?_))))))
  rw [hh]
  rw [if_neg (by decide)]
  dsimp only
  rw [if_neg (by rw [show typeHasDict (.ref C) = true from rfl]; decide)]
  have hlt := Heap.lt_size hx
  have hx1 := Heap.get?_push_of_some emptyDict hx
  refine wpAny_bind (wpAny_alloc (wpAny_bind (wpAny_update hx1 ?_)))
  have hx2 := Heap.get?_update_self (fun o : Obj => ({ cls := o.cls, dict := some s.heap.objs.size, data := o.data, slots := o.slots } : Obj)) hx1 rfl
  have D2 := (Heap.get?_update_other (s.heap.push emptyDict) (fun o : Obj => ({ cls := o.cls, dict := some s.heap.objs.size, data := o.data, slots := o.slots } : Obj)) (Nat.ne_of_lt hlt)).trans (Heap.get?_push_size s.heap rfl)
  refine wpAny_pure (a := some s.heap.objs.size) ?_
  refine wpAny_bind (wpAny_pure (wpAny_bind ?_))
  unfold nsSet
  refine wpAny_bind (wpAny_bind (wpAny_askSetting (wpAny_pure (wpAny_bind (wpAny_mkText (wpAny_bind (wpAny_loadPart D2 ?_)))))))
  dsimp only
  rw [show aRefKeyMayBeTheName name #[] = false from by rw [aRefKeyMayBeTheName_at]; simp, if_neg (by decide)]
  have putE : ∀ hsh key, Obj.putName name hsh key v emptyDict = dictOf [⟨hsh, key, v⟩] 1 := fun hsh key => by
    have := putName_dict name hsh key v [] 0
    exact this
  refine wpAny_updatePart D2 ?_
  have D3 := Heap.get?_update_self (Obj.putName name (if name.cps.isEmpty = true then 0 else reduceHash ((model prog w).w.params.strHash name.cps)) (.str name s.toks) v) D2 (by rw [putE]; rfl)
  rw [putE] at D3
  have hx3 := (Heap.get?_update_other _ (Obj.putName name (if name.cps.isEmpty = true then 0 else reduceHash ((model prog w).w.params.strHash name.cps)) (.str name s.toks) v) (Nat.ne_of_gt hlt)).trans hx2
  refine wpAny_bind (wpAny_lookBehind D3 (pastItsLine_dict (by show 1 ≤ sizeLine + 1; rw [sizeLine_eq]; decide)) ?_)
  refine wpAny_pure (h _ s.heap.objs.size (fun b o hb e => ?_) hx3)
  rw [Heap.get?_update_other _ _ (Nat.ne_of_gt (Heap.lt_size e)), Heap.get?_update_other _ _ (Ne.symm hb)]
  exact Heap.get?_push_of_some _ e
theorem x_set {ox : Obj} {cd : ClassData} {name : Str} {v : Value} {Q : Unit → Shared → Prop} {vs : Array Value} (X : K.In s.heap) (hx : s.heap.get? x = some ox) (hcl : ox.cls = .ref C) (hno : notCls ox = true) (hdn : ox.dict = none) (hc : clsIn K C = some cd) (hm : cd.mro = .ref C :: bmX) (hh : cd.hasDict = true) (ht : takerIn K C name = some none)
    (hs : findIn K (.ref C) "__setattr__" = some (some (.builtin "object.__setattr__"))) (hdat : ox.data = .fields vs)
    (h : ∀ h' d, (∀ b o, b ≠ x → s.heap.get? b = some o → h'.get? b = some o) → h'.get? x = some { ox with dict := some d } → Q () { s with heap := h', toks := s.toks + 1 + 1 }) :
    wpAny (model prog w) A (setAttr (.ref x) name v) Q E s :=
  have I : InstAt s.heap x ox C none := ⟨hx, hcl, hno, by rw [hdn]; trivial⟩
  set_plain X I hs (x_osa (s := { s with toks := s.toks + 1 }) X hx hcl hno hdn hc hm hh ht hdat fun h' d k e => h h' d k e)
end
end

/-- a new exception of the class at C, made by its own __init__ -/
structure NewX (h h' : Heap) (e C : Addr) : Prop where
  keeps : ∀ b o, h.get? b = some o → h'.get? b = some o
  new : h.get? e = none
  there : ∃ ob tp, h'.get? e = some ob ∧ ob.cls = .ref C ∧ ob.data = .fields #[tp, .none, .none, .none, .bool false, .none]
theorem under_tc (dp un : Nat) (gd : Option (List Code)) (o : List Env) (C : Addr) (rest : List Value) : (Ar dp un gd o).under (.builtin "type.__call__" ⟨.ref C :: rest, []⟩) = Ar (dp + 1) (un + 1) gd o := by
  cases gd <;> rfl
/-- what is raised -/
def XRaised (C : Addr) (E : Value → Shared → Prop) (v : Value) (s₁ : Shared) : Prop :=
  ∃ nm q N bs hdct sn sub ab col dd k0 k1 k2 k3 k5 e ob t, v = .ref e ∧ s₁.heap.get? C = some (excClassObj nm q C N bs bmX hdct sn sub ab col dd k0 k1 k2 k3 k5 "Exception.__new__") ∧
      s₁.heap.get? e = some ob ∧ ob.cls = .ref C ∧ ob.data = .fields #[t, .none, .none, .none, .bool false, .none] ∧ E (.ref e) s₁
end Mine

-- XG
namespace Mine
open PySem PySem.W PySem.Spec PySem.Calls PyProof.Rows
theorem entry_unchain : entryFor table "proto.unchain" = some Builtin.«proto.unchain» := entryFor_of_tree (by kernel_rfl)
section
variable {prog : Program} {w : World} {A : Around} {E : Value → Shared → Prop} {s : Shared}
theorem next_range_endH {it e : Addr} {ob : Obj} {vs : Array Value} {x left step : Int} {Q : Option Value → Shared → Prop} (hh : A.handled = some (.ref e)) (he : s.heap.get? e = some ob) (hd : ob.data = .fields vs) (hv : vs[2]? = some .none)
    (hit : IsRangeIter s.heap it x left step) (hleft : left ≤ 0) (hQ : ∀ h', Heap.ExtBut it s.heap h' → Q none { s with heap := h' }) : wpAny (model prog w) A (pyNext (.ref it)) Q E s := by
  have hT : s.TypeIs (.ref it) "range_iterator" := ⟨_, hit, rfl⟩
  unfold pyNext
  refine wpAny_bind (wpAny_attempt (wpAny_callSpecial?_slot (name := Str.ofString "__next__") hT F.slot_range_iterator_next
    (wpAny_call_entry F.slot_range_iterator_next hT F.entry_range_iterator_next ?_ (F.args_range_iterator_next_1 _))))
  show wpAny _ _ (field (.ref it) 0 >>= _) _ _ s
  refine wpAny_bind (wpAny_field hit rfl (x := rawInt x) rfl ?_)
  show wpAny _ _ (field (.ref it) 1 >>= _) _ _ s
  refine wpAny_bind (wpAny_field hit rfl (x := rawInt left) rfl ?_)
  show wpAny _ _ (field (.ref it) 2 >>= _) _ _ s
  refine wpAny_bind (wpAny_field hit rfl (x := rawInt step) rfl ?_)
  show wpAny _ _ (if left ≤ 0 then _ else _) _ _ s
  rw [if_pos hleft]
  refine wpAny_bind (wpAny_rule ?_)
  refine wpAny_bind ?_
  show wpAny _ _ (newExc (.type "StopIteration") [] >>= _) _ _ _
  refine wpAny_bind ?_
  simp only [newExc, newTuple]
  refine wpAny_bind (wpAny_newObj_type ?_ (by size_fits))
  refine wpAny_bind (m := firstArgMember _ _) (wpAny_of_eq (a := Value.none) (by first | rfl | (simp only [firstArgMember]; rfl)) ?_)
  refine wpAny_newObj_type ?_ (by size_fits)
  simp only [raiseNew]
  refine wpAny_bind (wpAny_handled ?_)
  rw [show A.in1.handled = some (.ref e) from hh]
  have hlt := Heap.lt_size he
  have hne : (Value.ref e != Value.ref (s.heap.push { cls := .type "tuple", data := .seq ([] : List Value).toArray }).objs.size) = true := by
    rw [Heap.size_push]
    simp only [bne_iff_ne, ne_eq, Value.ref.injEq]
    exact Nat.ne_of_lt (Nat.lt_succ_of_lt hlt)
  dsimp only
  rw [if_pos hne]
  have he1 := Heap.get?_push_of_some { cls := .type "tuple", data := .seq ([] : List Value).toArray } he
  have he2 := Heap.get?_push_of_some { cls := .type "StopIteration", data := .fields (#[.ref s.heap.objs.size, .none, .none, .none, .bool false, .none] ++ ownMembersOf (.type "StopIteration") []) } he1
  refine wpAny_bind (wpAny_holding (wpAny_runValue (codeAny_builtin entry_unchain ?_)))
  show wpAny _ _ (field (.ref e) 2 >>= _) _ _ _
  refine wpAny_bind (wpAny_field he2 hd hv ?_)
  show wpAny _ _ (ret .none) _ _ _
  refine wpAny_pure ?_
  show wpAny _ _ _ _ _ _
  have hn := Heap.get?_push_size (s.heap.push { cls := .type "tuple", data := .seq ([] : List Value).toArray }) (o := { cls := .type "StopIteration", data := .fields (#[.ref s.heap.objs.size, .none, .none, .none, .bool false, .none] ++ ownMembersOf (.type "StopIteration") []) }) rfl
  unfold updateField
  refine wpAny_bind (wpAny_bind (wpAny_load hn ?_))
  dsimp only
  rw [if_pos (by rw [Array.size_append]; exact Nat.lt_of_lt_of_le (show 2 < 6 by decide) (Nat.le_add_right 6 _))]
  refine wpAny_update hn (wpAny_throw ?_)
  refine wpAny_bind (wpAny_isInstance (T := "StopIteration") (b := true) ⟨_, Heap.get?_update_self _ hn rfl, rfl⟩ isSubtype_stop ?_)
  refine wpAny_pure (hQ _ ?_)
  intro b hb o ho
  rw [Heap.get?_update_other _ _ (fun q => ?_)]
  · exact Heap.get?_push_of_some _ (Heap.get?_push_of_some _ ho)
  · have := Heap.lt_size ho
    rw [← q, Heap.size_push] at this
    exact absurd this (Nat.not_lt.mpr (Nat.le_succ _))
end
theorem walks_range {prog : Program} {w : World} {A : Around} {g : Heap} (hh : HG A.handled g) (I : Addr) (a : Int) (n : Nat) :
    ∃ es St, Walks prog w A I (I :: es) [I] n (fun i v => i < n ∧ ∃ t, v = .int (a + i * 1) t) St ∧ (∀ b ∈ es, ∃ o, g.get? b = some o) ∧
      (∀ h : Heap, (∀ b o, g.get? b = some o → h.get? b = some o) → IsRangeIter h I a (n : Int) 1 → St 0 h) ∧ (∀ i h, St i h → ∃ o, h.get? I = some o) := by
  cases hc : A.handled with
  | none =>
    refine ⟨[], _, (Walks.range hc I a 1 n).bound, fun b hb => (nomatch hb), fun h _ x => ?_, fun i h x => ⟨_, x⟩⟩
    simpa using x
  | some v =>
    obtain ⟨e, ob, vs, rfl, he, hd, hv⟩ := hh v hc
    refine ⟨[e], fun i h => IsRangeIter h I (a + (i : Nat) * 1) ((n : Int) - (i : Nat)) 1 ∧ h.get? e = some ob ∧ e ≠ I, ?_, fun b hb => ⟨ob, by rw [List.mem_singleton.mp hb]; exact he⟩, fun h k x => ⟨by simpa using x, k _ _ he, fun q => ?_⟩, fun i h x => ⟨_, x.1⟩⟩
    · constructor
      · intro b hb; exact List.mem_cons.mpr (.inl (List.mem_singleton.mp hb))
      · intro i h h' st hk
        exact ⟨hk I (.head _) _ st.1, hk e (.tail _ (.head _)) _ st.2.1, st.2.2⟩
      · intro i s Q E hi st hQ
        refine wpAny_pyNext_range_item st.1 (by omega) fun h' hit' hs' => ?_
        refine hQ _ h' _ ⟨hi, _, rfl⟩ ⟨?_, (hs'.2 e st.2.2).trans st.2.1, st.2.2⟩ fun b o hb e => hs'.extBut b o (fun h => hb (by simp [h])) e
        have e1 : a + ((i + 1 : Nat) : Int) * 1 = a + (i : Int) * 1 + 1 := by push_cast; omega
        have e2 : (n : Int) - ((i + 1 : Nat) : Int) = (n : Int) - (i : Int) - 1 := by push_cast; omega
        rw [e1, e2]; exact hit'
      · intro s Q E st hQ
        exact next_range_endH hc st.2.1 hd hv st.1 (by omega) fun h' he' => hQ h' s.toks fun b o hb e => he' b o (fun h => hb (by simp [h])) e
      · intro i s Q E st hQ
        exact wpAny_pyIter_rangeiter st.1 hQ
    · subst q
      have := k _ _ he
      rw [show h.get? e = _ from x] at this
      cases this
      cases hd
      simp [rawInt] at hv
end Mine

-- XC
namespace Mine
open PySem PySem.W PySem.Spec PySem.Calls PyProof.Rows
theorem Fr.but {g h h' : Heap} {L a : Addr} {m : Str → Option Value} (F : Fr g L h m) (hs : Heap.SameBut a h h') (hL : L ≠ a) (hg : g.get? a = none) : Fr g L h' m :=
  ⟨F.ns.sameBut hs hL, fun b o e => (hs.2 b (fun q => by rw [q, hg] at e; cases e)).trans (F.keep b o e), F.above⟩
theorem News.but {g h h' : Heap} {L a : Addr} {l : List (Addr × Obj)} (N : News g L h l) (hs : Heap.SameBut a h h') (ha : ∀ p ∈ l, p.1 ≠ a) : News g L h' l :=
  fun p hp => ⟨(hs.2 _ (ha p hp)).trans (N p hp).1, (N p hp).2⟩
section
variable {prog : Program} {w : World} {A : Around} {E : Value → Shared → Prop} {s : Shared} {σ : Type}
/-- the tests of a turn -/
def CTests (prog : Program) (w : World) (A : Around) (s : Shared) (cenv : Env) (x : Str) (ifs : List Expr) (g : Heap) (L I D C : Addr) (n : Nat) (PV : Nat → Value → Prop) (Led : σ → List (Addr × Obj)) (P : Nat → List Value → σ → Prop) (Go : Nat → List Value → σ → Value → Prop) (m : Str → Option Value) : Prop :=
  ∀ i ys c v h tk oI oD oC mC E', i < n → PV i v → P i ys c → NsObj oC mC → mC x = some v → Fr g L h m → News g L h ((C, oC) :: (D, oD) :: (I, oI) :: Led c) →
    wpAny (model prog w) A (forIn ifs true fun c r => if r = true then do let ok ← isTrue c cenv (eval c cenv); pure (ForInStep.yield ok) else pure (ForInStep.yield r))
      (fun ok s₄ => ∃ h' tk', s₄ = { s with heap := h', toks := tk' } ∧ Fr g L h' m ∧ News g L h' ((C, oC) :: (D, oD) :: (I, oI) :: Led c) ∧ (ok = false → P (i + 1) ys c) ∧ (ok = true → Go i ys c v)) E' { s with heap := h, toks := tk }
/-- the element of a turn -/
def CElt (prog : Program) (w : World) (A : Around) (s : Shared) (cenv : Env) (x : Str) (elt : Expr) (g : Heap) (L I D C : Addr) (n : Nat) (PV : Nat → Value → Prop) (Led : σ → List (Addr × Obj)) (P : Nat → List Value → σ → Prop) (Go : Nat → List Value → σ → Value → Prop) (m : Str → Option Value) : Prop :=
  ∀ i ys c v h tk oI oD oC mC E', i < n → PV i v → Go i ys c v → NsObj oC mC → mC x = some v → Fr g L h m → News g L h ((C, oC) :: (D, oD) :: (I, oI) :: Led c) → (∀ p ∈ Led c, p.1 ≠ C ∧ p.1 ≠ D ∧ p.1 ≠ I) →
    wpAny (model prog w) A (eval elt cenv)
      (fun y s₄ => ∃ h' tk' c', s₄ = { s with heap := h', toks := tk' } ∧ Fr g L h' m ∧ News g L h' ((C, oC) :: (D, oD) :: (I, oI) :: Led c') ∧ P (i + 1) (ys ++ [y]) c') E' { s with heap := h, toks := tk }

theorem compLoop_own {elt iter : Expr} {x : Str} {px : Pos} {ifs : List Expr} {scope : Scope} {pos : Pos} {I D C L : Addr} {g : Heap} {cenv : Env} {n : Nat} {PV : Nat → Value → Prop} {St : Nat → Heap → Prop} {R : Result → Shared → Prop}
    (Led : σ → List (Addr × Obj)) (as : List Addr) (has : ∀ c, (Led c).map (·.1) = as) (P : Nat → List Value → σ → Prop) (Go : Nat → List Value → σ → Value → Prop) {m : Str → Option Value} {c₀ : σ} {nn₀ : Nat}
    {es : List Addr} (W : Walks prog w A I (I :: es) [I] n PV St) (hes : ∀ b ∈ es, ∃ o, g.get? b = some o) (hob : ∀ i h, St i h → ∃ o, h.get? I = some o) (hC : cenv.locals = C) (hx : cenv.kindOf x = some .local) (hp : (cenv.scope.kind == .class || (cenv.scope.kind == .module && cenv.locals != cenv.globals)) = false)
    (hID : I ≠ D) (hIC : I ≠ C) (hDC : D ≠ C) (hLI : L ≠ I) (hLD : L ≠ D) (hLC : L ≠ C) (gI : g.get? I = none) (gD : g.get? D = none) (gC : g.get? C = none) (aI : I ∉ as) (aD : D ∉ as) (aC : C ∉ as) (hsz : n ≤ sizeLine)
    (hlen : ∀ i ys c, P i ys c → ys.length ≤ i)
    (hst : St 0 s.heap) (hD : s.heap.get? D = some (listOf #[] nn₀)) (hn : ∃ mC, s.heap.Ns C mC) (F : Fr g L s.heap m) (N : News g L s.heap (Led c₀)) (hP : P 0 [] c₀)
    (htests : CTests prog w A s cenv x ifs g L I D C n PV Led P Go m) (helt : CElt prog w A s cenv x elt g L I D C n PV Led P Go m) (hgo : ∀ i ys c v, Go i ys c v → ys.length ≤ i)
    (hR : ∀ h' tk ys nn c, h'.get? D = some (listOf ys.toArray nn) → P n ys c → Fr g L h' m → News g L h' (Led c) → (∃ mC, h'.Ns C mC) → R (.ok .next) { s with heap := h', toks := tk }) :
    codeAny (model prog w) A (.compLoop (.ListComp elt [⟨.Name x px, iter, ifs, 0⟩] scope pos) 0 (.ref I) (.ref D) cenv) R s := by
  have off : ∀ {c : σ} {a : Addr}, a ∉ as → ∀ p ∈ Led c, p.1 ≠ a := fun {c a} ha p hp q => ha (has c ▸ q ▸ List.mem_map_of_mem hp)
  have kp : ∀ {ha hb : Heap}, Fr g L ha m → Fr g L hb m → (∀ o, ha.get? I = some o → hb.get? I = some o) → ∀ b ∈ I :: es, ∀ o, ha.get? b = some o → hb.get? b = some o := by
    intro ha hb FA FB hI b hm o e
    rcases List.mem_cons.mp hm with rfl | hm
    · exact hI o e
    · obtain ⟨o', ho'⟩ := hes b hm
      rw [FA.keep b o' ho'] at e
      cases e
      exact FB.keep b _ ho'
  refine codeAny_compLoop_tests
    (fun k s' => ∃ h' tk ys nn c i, s' = { s with heap := h', toks := tk } ∧ St i h' ∧ h'.get? D = some (listOf (List.toArray ys) nn) ∧ (∃ mC, h'.Ns C mC) ∧ Fr g L h' m ∧ News g L h' (Led c) ∧ P i ys c ∧ i ≤ n ∧ k = n + 1 - i) ?_ (n + 1)
    ⟨s.heap, s.toks, [], nn₀, c₀, 0, rfl, hst, hD, hn, F, N, hP, Nat.zero_le _, rfl⟩
  rintro k s' ⟨H, tk, ys, nn, c, i, rfl, hst', hD', ⟨mC, hn'⟩, F', N', hP', hi, rfl⟩
  by_cases hlt : i < n
  · refine W.item i _ _ _ hlt hst' fun v h₁ tk₁ hPv hst₁ hk₁ => ?_
    have F₁ := Fr.butI F' hk₁ hLI gI
    have N₁ := News.butI N' hk₁ (off aI)
    have hD₁ := hk₁ D _ (by simpa using Ne.symm hID) hD'
    have hn₁ : h₁.Ns C mC := hn'.at' fun o e => hk₁ C o (by simpa using Ne.symm hIC) e
    refine wpAny_assign_Name (wpAny_storeName_local hx (hC ▸ hn₁) (fun h₂ hn₂ hs₂ => ?_) hp)
    rw [hC] at hn₂ hs₂
    have F₂ := Fr.but F₁ hs₂ hLC gC
    have N₂ := News.but N₁ hs₂ (off aC)
    have hD₂ := (hs₂.2 D hDC).trans hD₁
    have hst₂ : St (i + 1) h₂ := W.frame _ _ _ hst₁ (kp F₁ F₂ fun o e => (hs₂.2 I hIC).trans e)
    obtain ⟨oI, hoI⟩ := hob _ _ hst₂
    obtain ⟨oC, hoC, hNC⟩ := nsObj_of hn₂
    have NN : News g L h₂ ((C, oC) :: (D, listOf ys.toArray nn) :: (I, oI) :: Led c) := by
      intro p hp
      rcases List.mem_cons.mp hp with rfl | hp
      · exact ⟨hoC, Ne.symm hLC, gC⟩
      rcases List.mem_cons.mp hp with rfl | hp
      · exact ⟨hD₂, Ne.symm hLD, gD⟩
      rcases List.mem_cons.mp hp with rfl | hp
      · exact ⟨hoI, Ne.symm hLI, gI⟩
      · exact N₂ p hp
    refine wpAny_mono (htests i ys c v h₂ _ oI _ oC _ _ hlt hPv hP' hNC (by simp) F₂ NN) (fun ok s₃ h₃ => ?_) fun _ _ e => e
    obtain ⟨h₃, tk₃, rfl, F₃, N₃, hf, ht⟩ := h₃
    cases ok with
    | false =>
      simp only [Bool.false_eq_true, if_false]
      refine ⟨n + 1 - (i + 1), by omega, h₃, tk₃, ys, nn, c, i + 1, rfl, ?_, (N₃ _ (.tail _ (.head _))).1, ⟨_, hNC _ _ (N₃ _ (.head _)).1⟩, F₃, fun p hp => N₃ p (.tail _ (.tail _ (.tail _ hp))), hf rfl, hlt, rfl⟩
      exact W.frame _ _ _ hst₂ (kp F₂ F₃ fun o e => by
        rw [hoI] at e
        exact (N₃ _ (.tail _ (.tail _ (.head _)))).1.trans e)
    | true =>
      simp only [if_true]
      refine wpAny_mono (helt i ys c v h₃ _ oI _ oC _ _ hlt hPv (ht rfl) hNC (by simp) F₃ N₃ fun p hp => ⟨off aC p hp, off aD p hp, off aI p hp⟩) (fun y s₄ h₄ => ?_) fun _ _ e => e
      obtain ⟨h₄, tk₄, c', rfl, F₄, N₄, hP₄⟩ := h₄
      have hys : ys.toArray.size ≤ sizeLine := by
        have := hgo i ys c v (ht rfl)
        rw [List.size_toArray]; omega
      refine append_at (hsz := hys) (N₄ _ (.tail _ (.head _))).1 fun h₅ hs₅ hD₅ => ?_
      rw [List.push_toArray] at hD₅
      have F₅ := Fr.but F₄ hs₅ hLD gD
      refine ⟨n + 1 - (i + 1), by omega, h₅, tk₄, ys ++ [y], nn + 1, c', i + 1, rfl, ?_, hD₅, ⟨_, hNC _ _ ((hs₅.2 C (Ne.symm hDC)).trans (N₄ _ (.head _)).1)⟩, F₅, News.but (fun p hp => N₄ p (.tail _ (.tail _ (.tail _ hp)))) hs₅ (off aD), hP₄, hlt, rfl⟩
      exact W.frame _ _ _ hst₂ (kp F₂ F₅ fun o e => by
        rw [hoI] at e
        exact ((hs₅.2 I hID).trans (N₄ _ (.tail _ (.tail _ (.head _)))).1).trans e)
  · have hin : i = n := by omega
    subst hin
    refine W.done _ _ _ hst' fun h₁ tk₁ hk₁ => ?_
    exact hR h₁ tk₁ ys nn c (hk₁ D _ (by simpa using Ne.symm hID) hD') hP' (Fr.butI F' hk₁ hLI gI) (News.butI N' hk₁ (off aI)) ⟨mC, hn'.at' fun o e => hk₁ C o (by simpa using Ne.symm hIC) e⟩
end
end Mine

-- XD
namespace Mine
open PySem PySem.W PySem.Spec PySem.Calls PyProof.Rows
section
variable {prog : Program} {w : World} {A : Around} {E : Value → Shared → Prop} {σ : Type} {env : Env} {elt iter : Expr} {x : Str} {px : Pos} {ifs : List Expr} {scope : Scope} {cl : List (Str × Addr)} {pos : Pos} {L : Addr} {g : Heap} {m : Str → Option Value}
/-- the block of a comprehension, from the iterator on -/
def CompAt (prog : Program) (w : World) (A : Around) (E : Value → Shared → Prop) (env : Env) (elt : Expr) (x : Str) (px : Pos) (iter : Expr) (ifs : List Expr) (scope : Scope) (cl : List (Str × Addr)) (pos : Pos) (g : Heap) (L : Addr) (m : Str → Option Value) (Done : List Value → List (Addr × Obj) → Prop) (it : Value) (s : Shared) : Prop :=
  ∀ RR : Value → Addr → Result → Shared → Prop, (∀ D C h' tk ys nn l mC, L ≠ D → L ≠ C → g.get? D = none → g.get? C = none → D ≠ C → (∀ p ∈ l, p.1 ≠ D ∧ p.1 ≠ C) → h'.Ns C mC → h'.get? D = some (listOf (List.toArray ys) nn) → Done ys l → Fr g L h' m → News g L h' l → RR (.ref D) C (.ok .next) { s with heap := h', toks := tk }) →
    wpAny (model prog w) A (newList []) (fun acc s₃ => wpAny (model prog w) A (newFunctionEnv scope env.globals cl [] env.qual none .none (some env)) (fun cenv s₄ =>
      codeAny (model prog w) A (.compStart (.ListComp elt [⟨.Name x px, iter, ifs, 0⟩] scope pos) 0 it acc { cenv with scope := relabel scope env }) (RR acc cenv.locals) s₄) E s₃) E s
theorem comp_block_own {s : Shared} {I : Addr} {n : Nat} {PV : Nat → Value → Prop} {St : Nat → Heap → Prop} (Led : σ → List (Addr × Obj)) (as : List Addr) (has : ∀ c, (Led c).map (·.1) = as) (P : Nat → List Value → σ → Prop) (Go : Nat → List Value → σ → Value → Prop) {c₀ : σ}
    {es : List Addr} (W : Walks prog w A I (I :: es) [I] n PV St) (hes : ∀ b ∈ es, ∃ o, g.get? b = some o) (hob : ∀ i h, St i h → ∃ o, h.get? I = some o) (hcell : ∀ y ∈ scope.names, y.2 ≠ .cell) (hkind : scope.kind = .function) (hx : scope.names.lookup x = some .local)
    (hLI : L ≠ I) (gI : g.get? I = none) (aI : I ∉ as) (hsz : n ≤ sizeLine) (hst : St 0 s.heap) (F : Fr g L s.heap m) (N : News g L s.heap (Led c₀)) (hP : P 0 [] c₀) (hlen : ∀ i ys c, P i ys c → ys.length ≤ i) (hgo : ∀ i ys c v, Go i ys c v → ys.length ≤ i)
    (htests : ∀ D C, CTests prog w A s (compEnvC scope cl C env) x ifs g L I D C n PV Led P Go m) (helt : ∀ D C, CElt prog w A s (compEnvC scope cl C env) x elt g L I D C n PV Led P Go m) :
    CompAt prog w A E env elt x px iter ifs scope cl pos g L m (fun ys l => ∃ c, P n ys c ∧ l = Led c) (.ref I) s := by
  intro RR hRR
  refine wpAny_newObj_type (wpAny_newFunctionEnv hcell (by intro y hy; simp at hy) (fun h₁ hns₁ hsb₁ => ?_) hkind)
  dsimp only at hns₁ hsb₁ ⊢
  generalize hH2 : s.heap.push { cls := .type "list", dict := none, data := .seq ([] : List Value).toArray } = H2 at hns₁ hsb₁ ⊢
  have hC : H2.objs.size = s.heap.objs.size + 1 := by rw [← hH2, Heap.size_push]
  have hDC : s.heap.objs.size ≠ H2.objs.size := by rw [hC]; exact Nat.ne_of_lt (Nat.lt_succ_self _)
  have below : ∀ b, b < s.heap.objs.size → b ≠ H2.objs.size ∧ b ≠ s.heap.objs.size := fun b hb => ⟨by rw [hC]; exact Nat.ne_of_lt (Nat.lt_succ_of_lt hb), Nat.ne_of_lt hb⟩
  have old : ∀ b o, s.heap.get? b = some o → h₁.get? b = some o := fun b o e => hsb₁.extBut b o (below b (Heap.lt_size e)).1 (Heap.get?_push_of_some _ (hH2 ▸ Heap.get?_push_of_some _ e))
  have hacc : h₁.get? s.heap.objs.size = some (listOf #[] 0) := hsb₁.extBut _ _ hDC (Heap.get?_push_of_some _ (hH2 ▸ Heap.get?_push_size _ rfl))
  have hst₁ : St 0 h₁ := W.frame _ _ _ hst fun b _ o e => old b o e
  obtain ⟨oI, hoI⟩ := hob _ _ hst
  have hIlt := Heap.lt_size hoI
  have freshg : ∀ a, s.heap.objs.size ≤ a → g.get? a = none := fun a ha => by
    cases e : g.get? a with
    | none => rfl
    | some o' => exact absurd (Heap.lt_size (F.keep _ _ e)) (Nat.not_lt.mpr ha)
  have freshL : ∀ a, s.heap.objs.size ≤ a → L ≠ a := fun a ha q => Nat.lt_irrefl _ (Nat.lt_of_lt_of_le F.ns.lt (q ▸ ha))
  have freshas : ∀ a, s.heap.objs.size ≤ a → a ∉ as := fun a ha q => by
    rw [← has c₀] at q
    obtain ⟨p, hp, e⟩ := List.mem_map.mp q
    have := Heap.lt_size (N p hp).1
    rw [e] at this
    exact absurd this (Nat.not_lt.mpr ha)
  have hle : s.heap.objs.size ≤ H2.objs.size := by rw [hC]; exact Nat.le_succ _
  have F₁ : Fr g L h₁ m := ⟨F.ns.at' fun o e => old _ _ e, fun b o e => old _ _ (F.keep b o e), F.above⟩
  have N₁ : News g L h₁ (Led c₀) := fun p hp => ⟨old _ _ (N p hp).1, (N p hp).2⟩
  have loop : ∀ s₃ : Shared, s₃ = { s with heap := h₁, toks := s.toks + ([] : List (Str × Value)).length } →
      codeAny (model prog w) A (.compLoop (.ListComp elt [⟨.Name x px, iter, ifs, 0⟩] scope pos) 0 (.ref I) (.ref s.heap.objs.size) (compEnvC scope cl H2.objs.size env))
        (RR (.ref s.heap.objs.size) H2.objs.size) s₃ := by
    rintro s₃ rfl
    refine compLoop_own (cenv := compEnvC scope cl H2.objs.size env) Led as has P Go W hes hob rfl (lookup_relabel_local hx) (by simp [compEnvC, relabel, hkind])
      (Nat.ne_of_lt hIlt) (Nat.ne_of_lt (Nat.lt_of_lt_of_le hIlt hle)) hDC hLI (freshL _ (Nat.le_refl _)) (freshL _ hle) gI (freshg _ (Nat.le_refl _)) (freshg _ hle) aI (freshas _ (Nat.le_refl _)) (freshas _ hle) hsz hlen hst₁ hacc ⟨_, hns₁⟩ F₁ N₁ hP
      (htests _ _) (helt _ _) hgo ?_
    intro h' tk ys nn c hD hP' F' N' hn'
    obtain ⟨mC, hn'⟩ := hn'
    refine hRR _ _ h' tk ys nn (Led c) mC (freshL _ (Nat.le_refl _)) (freshL _ hle) (freshg _ (Nat.le_refl _)) (freshg _ hle) hDC (fun p hp => ?_) hn' hD ⟨c, hP', rfl⟩ F' N'
    have hp' : p.1 ∈ as := has c ▸ List.mem_map_of_mem hp
    exact ⟨fun q => freshas _ (Nat.le_refl _) (q ▸ hp'), fun q => freshas _ hle (q ▸ hp')⟩
  exact codeAny_compStart_list (loop _ rfl) (W.self 0 _ _ _ hst₁ (loop _ rfl))

/-- what a comprehension asks of the iterator -/
def CompUse (prog : Program) (w : World) (A : Around) (E : Value → Shared → Prop) (env : Env) (elt : Expr) (x : Str) (px : Pos) (iter : Expr) (ifs : List Expr) (scope : Scope) (cl : List (Str × Addr)) (pos : Pos) (Q : Value → Shared → Prop) (it : Value) (s : Shared) : Prop :=
  ∃ g L m Done, CompAt prog w A E env elt x px iter ifs scope cl pos g L m Done it s ∧
    ∀ D h' tk ys nn l, Done ys l → (∀ p ∈ l, p.1 ≠ D) → Fr g L h' m → News g L h' ((D, listOf (List.toArray ys) nn) :: l) → Q (.ref D) { s with heap := h', toks := tk }
theorem eval_comp_own {s : Shared} {Q : Value → Shared → Prop}
    (hclos : closureFor scope env = pure cl) (hkind : scope.kind = .function) (hnames : ∀ y ∈ scope.names, y.2 = .local → scope.names.lookup y.1 = some .local)
    (h : wpAny (model prog w) A (eval iter env) (fun xv s₁ => wpAny (model prog w) A (pyIter xv) (fun it s₂ => CompUse prog w A E env elt x px iter ifs scope cl pos Q it s₂) E s₁) E s)
    (hs : ∀ x, foldedSetIterable iter env x = pure x := by intro _; rfl) :
    wpAny (model prog w) A (eval (.ListComp elt [⟨.Name x px, iter, ifs, 0⟩] scope pos) env) Q E s := by
  rw [eval_ListComp]
  refine wpAny_comprehension_free (use := none) rfl hs hclos hkind hnames (wpAny_mono h (fun xv s₁ h₁ => wpAny_mono h₁ (fun it s₂ h₂ => ?_) fun _ _ e => e) fun _ _ e => e)
  obtain ⟨g, L, m, Done, hC, hQ⟩ := h₂
  refine hC (fun acc C => compPost (model prog w) A E none Q acc C) ?_
  intro D C h' tk ys nn l mC hLD hLC gD gC hDC hne hn hD hdone F N
  refine ⟨mC, hn, fun h'' hs'' => hQ D h'' tk ys nn l hdone (fun p hp => (hne p hp).1) (Fr.but F hs'' hLC gC) (fun p hp => ?_)⟩
  rcases List.mem_cons.mp hp with rfl | hp
  · exact ⟨(hs''.2 _ hDC).trans hD, Ne.symm hLD, gD⟩
  · exact News.but N hs'' (fun p hp => (hne p hp).2) p hp

/-- the same, with its target -/
def CompUseA (prog : Program) (w : World) (A : Around) (E : Value → Shared → Prop) (env : Env) (elt : Expr) (x : Str) (px : Pos) (iter : Expr) (ifs : List Expr) (scope : Scope) (cl : List (Str × Addr)) (pos : Pos) (y : Str) (Q : Flow → Shared → Prop) (it : Value) (s : Shared) : Prop :=
  ∃ g m Done, CompAt prog w A E env elt x px iter ifs scope cl pos g env.locals m Done it s ∧
    ∀ D h' tk ys nn l, Done ys l → (∀ p ∈ l, p.1 ≠ D) → Fr g env.locals h' (fun z => if z = y then some (.ref D) else m z) → News g env.locals h' ((D, listOf (List.toArray ys) nn) :: l) → Q .next { s with heap := h', toks := tk }
theorem assign_comp_own {s : Shared} {y : Str} {py : Pos} {spos : Pos} {Q : Flow → Shared → Prop}
    (hsw : swapsWith (.ListComp elt [⟨.Name x px, iter, ifs, 0⟩] scope pos) (some (.Name y py)) spos.line env = pure true)
    (hclos : closureFor scope env = pure cl) (hkind : scope.kind = .function)
    (hnames : ∀ z ∈ scope.names, z.2 = .local → scope.names.lookup z.1 = some .local)
    (hy : env.kindOf y = some .local) (hp : (env.scope.kind == .class || (env.scope.kind == .module && env.locals != env.globals)) = false)
    (h : wpAny (model prog w) A (eval iter env) (fun xv s₁ => wpAny (model prog w) A (pyIter xv) (fun it s₂ => CompUseA prog w A E env elt x px iter ifs scope cl pos y Q it s₂) E s₁) E s)
    (hs : ∀ x, foldedSetIterable iter env x = pure x := by intro _; rfl) :
    wpAny (model prog w) A (exec (.Assign [.Name y py] (.ListComp elt [⟨.Name x px, iter, ifs, 0⟩] scope pos) spos) env) Q E s := by
  rw [exec_Assign_Name_used _ _ _ _ hsw]
  refine wpAny_bind (wpAny_standAt (wpAny_bind ?_))
  show wpAny _ A (do let _ ← comprehension (.ListComp elt [⟨.Name x px, iter, ifs, 0⟩] scope pos) scope env _ (newList []) false (eval iter env) (some (assign (.Name y py) env))) _ _ s
  refine wpAny_bind (wpAny_mono (wpAny_comprehension_free (use := some (assign (.Name y py) env)) (Q := fun _ s' => Q .next s') rfl hs hclos hkind hnames
    (wpAny_mono h (fun xv s₁ h₁ => wpAny_mono h₁ (fun it s₂ h₂ => ?_) fun _ _ e => e) fun _ _ e => e)) (fun _ s' hq => wpAny_pure (wpAny_pure hq)) fun _ _ e => e)
  obtain ⟨g, m, Done, hC, hQ⟩ := h₂
  refine hC (fun acc C => compPost (model prog w) A E (some (assign (.Name y py) env)) (fun _ s' => Q .next s') acc C) ?_
  intro D C h' tk ys nn l mC hLD hLC gD gC hDC hne hn hD hdone F N
  show wpAny _ A (assign (.Name y py) env (.ref D)) _ _ _
  refine wpAny_assign_Name (wpAny_storeName_local hy F.ns (fun h₂ hn₂ hs₂ => ?_) hp)
  refine ⟨mC, hn.sameBut hs₂ (Ne.symm hLC), fun h₃ hs₃ => ?_⟩
  refine hQ D h₃ _ ys nn l hdone (fun p hp => (hne p hp).1) (Fr.but ⟨hn₂, fun b o e => (hs₂.2 b ?_).trans (F.keep b o e), F.above⟩ hs₃ hLC gC) (fun p hp => ?_)
  · rintro rfl
    have := Heap.lt_size e
    exact absurd this (Nat.not_lt.mpr F.above)
  rcases List.mem_cons.mp hp with rfl | hp
  · exact ⟨(hs₃.2 _ hDC).trans ((hs₂.2 _ (Ne.symm hLD)).trans hD), Ne.symm hLD, gD⟩
  · exact ⟨(hs₃.2 _ (hne p hp).2).trans ((hs₂.2 _ (N p hp).2.1).trans (N p hp).1), (N p hp).2⟩

theorem range_comp {s : Shared} {r : Addr} {a₀ b₀ : Int} {t₀ u₀ v₀ : Tok} {n : Nat} {Q : Value → Shared → Prop} (Led : σ → List (Addr × Obj)) (as : List Addr) (has : ∀ c, (Led c).map (·.1) = as) (P : Nat → List Value → σ → Prop) (Go : Nat → List Value → σ → Value → Prop) (c₀ : σ)
    (hh : HG A.handled g) (hr : IsRange s.heap r a₀ b₀ 1 t₀ u₀ v₀) (hsmall : Builtin.Range.small a₀ b₀ 1 = true) (hn : Builtin.Range.rangeSize a₀ b₀ 1 = (n : Int)) (hsz : n ≤ sizeLine)
    (hcell : ∀ y ∈ scope.names, y.2 ≠ .cell) (hkind : scope.kind = .function) (hx : scope.names.lookup x = some .local)
    (F : Fr g L s.heap m) (N : News g L s.heap (Led c₀)) (hP : P 0 [] c₀) (hlen : ∀ i ys c, P i ys c → ys.length ≤ i) (hgo : ∀ i ys c v, Go i ys c v → ys.length ≤ i)
    (htests : ∀ I D C, CTests prog w A s (compEnvC scope cl C env) x ifs g L I D C n (fun i v => i < n ∧ ∃ t, v = .int (a₀ + i * 1) t) Led P Go m)
    (helt : ∀ I D C, CElt prog w A s (compEnvC scope cl C env) x elt g L I D C n (fun i v => i < n ∧ ∃ t, v = .int (a₀ + i * 1) t) Led P Go m)
    (hQ : ∀ it s₂, CompAt prog w A E env elt x px iter ifs scope cl pos g L m (fun ys l => ∃ c, P n ys c ∧ l = Led c) it s₂ → (∃ h tk, s₂ = { s with heap := h, toks := tk }) → Q it s₂) :
    wpAny (model prog w) A (pyIter (.ref r)) Q E s := by
  refine wpAny_pyIter_range hr hsmall ?_
  obtain ⟨es, St, W, hes, hSt, hob⟩ := walks_range hh s.heap.objs.size a₀ n
  refine hQ _ _ (comp_block_own Led as has P Go W hes hob hcell hkind hx (Nat.ne_of_lt F.ns.lt) (next_is_new F) (fun q => ?_) hsz (hSt _ (F.push _).keep (by rw [hn]; exact Heap.get?_push_size _ rfl)) (F.push _) (fun p hp => ⟨Heap.get?_push_of_some _ (N p hp).1, (N p hp).2⟩) hP hlen hgo (htests _) (helt _)) ⟨_, _, rfl⟩
  rw [← has c₀] at q
  obtain ⟨p, hp, e⟩ := List.mem_map.mp q
  exact Nat.lt_irrefl _ (e ▸ Heap.lt_size (N p hp).1)
end
end Mine
namespace Mine
open PySem PySem.W PySem.Spec PySem.Calls PyProof.Rows
section
variable {prog : Program} {w : World} {A : Around} {s : Shared} {σ : Type}
/-- the end of a test -/
def TestEnd (g : Heap) (L : Addr) (l : List (Addr × Obj)) (m : Str → Option Value) (Pf Pt : Prop) (s : Shared) (ok : Bool) (s₄ : Shared) : Prop :=
  ∃ h' tk', s₄ = { s with heap := h', toks := tk' } ∧ Fr g L h' m ∧ News g L h' l ∧ (ok = false → Pf) ∧ (ok = true → Pt)
/-- the end of an element -/
def EltEnd (g : Heap) (L : Addr) (l : List (Addr × Obj)) (Led : σ → List (Addr × Obj)) (m : Str → Option Value) (P : Value → σ → Prop) (s : Shared) (y : Value) (s₄ : Shared) : Prop :=
  ∃ h' tk' c', s₄ = { s with heap := h', toks := tk' } ∧ Fr g L h' m ∧ News g L h' (l ++ Led c') ∧ P y c'
variable {cenv : Env} {x : Str} {elt : Expr} {g : Heap} {L I D C : Addr} {n : Nat} {PV : Nat → Value → Prop} {Led : σ → List (Addr × Obj)} {P : Nat → List Value → σ → Prop} {Go : Nat → List Value → σ → Value → Prop} {m : Str → Option Value}
theorem ctests_none (hG : ∀ i ys c v, i < n → PV i v → P i ys c → Go i ys c v) : CTests prog w A s cenv x [] g L I D C n PV Led P Go m := by
  intro i ys c v h tk oI oD oC mC E' hi hPV hP hO hm F N
  exact wpAny_pure ⟨h, tk, rfl, F, N, (by simp), fun _ => hG i ys c v hi hPV hP⟩
theorem ctests_one {t : Expr} (h : ∀ i ys c v h tk oI oD oC mC E', i < n → PV i v → P i ys c → NsObj oC mC → mC x = some v → Fr g L h m → News g L h ((C, oC) :: (D, oD) :: (I, oI) :: Led c) →
    wpAny (model prog w) A (isTrue t cenv (eval t cenv)) (TestEnd g L ((C, oC) :: (D, oD) :: (I, oI) :: Led c) m (P (i + 1) ys c) (Go i ys c v) { s with heap := h, toks := tk }) E' { s with heap := h, toks := tk }) :
    CTests prog w A s cenv x [t] g L I D C n PV Led P Go m := by
  intro i ys c v h' tk oI oD oC mC E' hi hPV hP hO hm F N
  exact wpAny_tests_one (h i ys c v h' tk oI oD oC mC E' hi hPV hP hO hm F N)
theorem celt_mk (h : ∀ i ys c v h tk oI oD oC mC E', i < n → PV i v → Go i ys c v → NsObj oC mC → mC x = some v → Fr g L h m → News g L h ((C, oC) :: (D, oD) :: (I, oI) :: Led c) → (∀ p ∈ Led c, p.1 ≠ C ∧ p.1 ≠ D ∧ p.1 ≠ I) →
    wpAny (model prog w) A (eval elt cenv) (EltEnd g L [(C, oC), (D, oD), (I, oI)] Led m (fun y c' => P (i + 1) (ys ++ [y]) c') { s with heap := h, toks := tk }) E' { s with heap := h, toks := tk }) :
    CElt prog w A s cenv x elt g L I D C n PV Led P Go m := h
end
end Mine
namespace Mine
open PySem PySem.W PySem.Spec PySem.Calls PyProof.Rows
section
variable {prog : Program} {w : World} {A : Around} {E : Value → Shared → Prop} {σ : Type} {env : Env} {elt iter : Expr} {x : Str} {px : Pos} {ifs : List Expr} {scope : Scope} {cl : List (Str × Addr)} {pos : Pos} {L : Addr} {g : Heap} {m : Str → Option Value}
theorem range_compA {s : Shared} {r : Addr} {a₀ b₀ : Int} {t₀ u₀ v₀ : Tok} {n : Nat} {y : Str} {Q : Flow → Shared → Prop} (Led : σ → List (Addr × Obj)) (as : List Addr) (has : ∀ c, (Led c).map (·.1) = as) (P : Nat → List Value → σ → Prop) (Go : Nat → List Value → σ → Value → Prop) (c₀ : σ)
    (hh : HG A.handled g) (hr : IsRange s.heap r a₀ b₀ 1 t₀ u₀ v₀) (hsmall : Builtin.Range.small a₀ b₀ 1 = true) (hn : Builtin.Range.rangeSize a₀ b₀ 1 = (n : Int)) (hsz : n ≤ sizeLine)
    (hcell : ∀ y ∈ scope.names, y.2 ≠ .cell) (hkind : scope.kind = .function) (hx : scope.names.lookup x = some .local)
    (F : Fr g env.locals s.heap m) (N : News g env.locals s.heap (Led c₀)) (hP : P 0 [] c₀) (hlen : ∀ i ys c, P i ys c → ys.length ≤ i) (hgo : ∀ i ys c v, Go i ys c v → ys.length ≤ i)
    (htests : ∀ I D C, CTests prog w A s (compEnvC scope cl C env) x ifs g env.locals I D C n (fun i v => i < n ∧ ∃ t, v = .int (a₀ + i * 1) t) Led P Go m)
    (helt : ∀ I D C, CElt prog w A s (compEnvC scope cl C env) x elt g env.locals I D C n (fun i v => i < n ∧ ∃ t, v = .int (a₀ + i * 1) t) Led P Go m)
    (hQ : ∀ D h' tk ys nn c, P n ys c → (∀ p ∈ Led c, p.1 ≠ D) → Fr g env.locals h' (fun z => if z = y then some (.ref D) else m z) → News g env.locals h' ((D, listOf (List.toArray ys) nn) :: Led c) → Q .next { s with heap := h', toks := tk }) :
    wpAny (model prog w) A (pyIter (.ref r)) (fun it s₂ => CompUseA prog w A E env elt x px iter ifs scope cl pos y Q it s₂) E s :=
  range_comp Led as has P Go c₀ hh hr hsmall hn hsz hcell hkind hx F N hP hlen hgo htests helt fun it s₂ hc hs => by
    obtain ⟨h, tk, rfl⟩ := hs
    exact ⟨g, m, _, hc, fun D h' tk ys nn l hd hne F' N' => by obtain ⟨c, hP', rfl⟩ := hd; exact hQ D h' tk ys nn c hP' hne F' N'⟩
theorem range_compE {s : Shared} {r : Addr} {a₀ b₀ : Int} {t₀ u₀ v₀ : Tok} {n : Nat} {Q : Value → Shared → Prop} (Led : σ → List (Addr × Obj)) (as : List Addr) (has : ∀ c, (Led c).map (·.1) = as) (P : Nat → List Value → σ → Prop) (Go : Nat → List Value → σ → Value → Prop) (c₀ : σ)
    (hh : HG A.handled g) (hr : IsRange s.heap r a₀ b₀ 1 t₀ u₀ v₀) (hsmall : Builtin.Range.small a₀ b₀ 1 = true) (hn : Builtin.Range.rangeSize a₀ b₀ 1 = (n : Int)) (hsz : n ≤ sizeLine)
    (hcell : ∀ y ∈ scope.names, y.2 ≠ .cell) (hkind : scope.kind = .function) (hx : scope.names.lookup x = some .local)
    (F : Fr g L s.heap m) (N : News g L s.heap (Led c₀)) (hP : P 0 [] c₀) (hlen : ∀ i ys c, P i ys c → ys.length ≤ i) (hgo : ∀ i ys c v, Go i ys c v → ys.length ≤ i)
    (htests : ∀ I D C, CTests prog w A s (compEnvC scope cl C env) x ifs g L I D C n (fun i v => i < n ∧ ∃ t, v = .int (a₀ + i * 1) t) Led P Go m)
    (helt : ∀ I D C, CElt prog w A s (compEnvC scope cl C env) x elt g L I D C n (fun i v => i < n ∧ ∃ t, v = .int (a₀ + i * 1) t) Led P Go m)
    (hQ : ∀ D h' tk ys nn c, P n ys c → (∀ p ∈ Led c, p.1 ≠ D) → Fr g L h' m → News g L h' ((D, listOf (List.toArray ys) nn) :: Led c) → Q (.ref D) { s with heap := h', toks := tk }) :
    wpAny (model prog w) A (pyIter (.ref r)) (fun it s₂ => CompUse prog w A E env elt x px iter ifs scope cl pos Q it s₂) E s :=
  range_comp Led as has P Go c₀ hh hr hsmall hn hsz hcell hkind hx F N hP hlen hgo htests helt fun it s₂ hc hs => by
    obtain ⟨h, tk, rfl⟩ := hs
    exact ⟨g, L, m, _, hc, fun D h' tk ys nn l hd hne F' N' => by obtain ⟨c, hP', rfl⟩ := hd; exact hQ D h' tk ys nn c hP' hne F' N'⟩
end
end Mine

-- XT1
namespace Mine
open PySem PySem.W PySem.Spec PySem.Calls PyProof.Rows
theorem enc_tree2 (x : Str) (t u : Tok) : Builtin.«str.encode» ⟨[.str x t, .str (Str.ofString "utf-8") u], []⟩ = (do ret (← Builtin._codecs.encodeRoad "str.encode" (.str x t) x (Str.ofString "utf-8") none)) := by
  with_unfolding_all rfl
/-- the signs of the law's texts -/
abbrev menu : List Nat := [97, 0, 233, 128512]
/-- a text of the law -/
structure Sgn (cs : List Nat) : Prop where
  few : cs.length ≤ 3
  own : ∀ c ∈ cs, c ∈ menu
abbrev txt (cs : List Nat) : Str := ⟨cs.toArray⟩
abbrev sg (c : Nat) : Str := ⟨#[c]⟩
def encI (c : Nat) : List Int := (Str.utf8Of c).map fun b => (b.toNat : Int)
/-- its octets -/
def u8 (cs : List Nat) : List Int := cs.flatMap encI
theorem menu_sur {c : Nat} (h : c ∈ menu) : Str.isSurrogate c = false := (by decide : ∀ c ∈ menu, Str.isSurrogate c = false) c h
theorem byte_encI (c : Nat) : (encI c).map (fun n : Int => n.toNat.toUInt8) = Str.utf8Of c := by
  unfold encI
  rw [List.map_map]
  conv => rhs; rw [← List.map_id (Str.utf8Of c)]
  refine List.map_congr_left fun b _ => ?_
  show (((b.toNat : Nat) : Int).toNat).toUInt8 = b
  rw [Int.toNat_natCast]
  exact UInt8.ofNat_toNat
theorem byte_u8 (cs : List Nat) : byteArr (u8 cs) = (cs.flatMap Str.utf8Of).toArray := by
  unfold byteArr u8
  congr 1
  induction cs with
  | nil => rfl
  | cons c cs ih => rw [List.flatMap_cons, List.flatMap_cons, List.map_append, ih, byte_encI]
/-- all texts of the law -/
def menu3 : List (List Nat) := [] :: ([97, 0, 233, 128512].flatMap fun a => [a] :: ([97, 0, 233, 128512].flatMap fun b => [a, b] :: ([97, 0, 233, 128512].map fun c => [a, b, c])))
theorem enc_map (id : String) (errors : Option Str) (self : Value) : (menu3.map fun cs => Builtin._codecs.encodeNarrow id Builtin._codecs.utf8Codec errors self ⟨cs.toArray⟩) = menu3.map fun cs => pure (cs.flatMap Str.utf8Of).toArray := by kernel_rfl
theorem menu3_in {cs : List Nat} (h : Sgn cs) : cs ∈ menu3 := by
  match cs, h with
  | [], _ => exact .head _
  | [a], h => exact (by decide +kernel : ∀ a ∈ menu, [a] ∈ menu3) a (h.own a (.head _))
  | [a, b], h => exact (by decide +kernel : ∀ a ∈ menu, ∀ b ∈ menu, [a, b] ∈ menu3) a (h.own a (.head _)) b (h.own b (.tail _ (.head _)))
  | [a, b, c], h => exact (by decide +kernel : ∀ a ∈ menu, ∀ b ∈ menu, ∀ c ∈ menu, [a, b, c] ∈ menu3) a (h.own a (.head _)) b (h.own b (.tail _ (.head _))) c (h.own c (.tail _ (.tail _ (.head _))))
  | a :: b :: c :: d :: r, h => exact absurd h.few (by simp)
theorem enc_all {cs : List Nat} (h : Sgn cs) (id : String) (errors : Option Str) (self : Value) : Builtin._codecs.encodeNarrow id Builtin._codecs.utf8Codec errors self (txt cs) = pure (byteArr (u8 cs)) := by
  rw [byte_u8]
  exact List.map_inj_left.mp (enc_map id errors self) cs (menu3_in h)
theorem encI_in {c : Nat} (h : c ∈ menu) : Oct (encI c) ∧ (encI c).length ≤ 4 :=
  (by decide +kernel : ∀ c ∈ menu, (∀ x ∈ encI c, 0 ≤ x ∧ x < 256) ∧ (encI c).length ≤ 4) c h
theorem u8_in {cs : List Nat} (h : ∀ c ∈ cs, c ∈ menu) : Oct (u8 cs) ∧ (u8 cs).length ≤ 4 * cs.length := by
  induction cs with
  | nil => exact ⟨(fun _ h => nomatch h), Nat.le_refl _⟩
  | cons c cs ih =>
    have h1 := encI_in (h c (.head _))
    have h2 := ih fun x hx => h x (.tail _ hx)
    refine ⟨h1.1.append h2.1, ?_⟩
    show (encI c ++ u8 cs).length ≤ _
    rw [List.length_append, List.length_cons]
    omega
theorem Sgn.oct {cs : List Nat} (h : Sgn cs) : Oct (u8 cs) := (u8_in h.own).1
theorem Sgn.len {cs : List Nat} (h : Sgn cs) : (u8 cs).length ≤ 12 := by
  have h1 := (u8_in h.own).2
  have h2 := h.few
  omega
theorem call_enc {prog : Program} {w : World} {A : Around} {E Q : Value → Shared → Prop} {s : Shared} {cs : List Nat} {t u : Tok} (h : Sgn cs) (hQ : Q (.bytes (byteArr (u8 cs)) s.toks) { s with toks := s.toks + 1 }) :
    wpAny (model prog w) A (call (.builtin "str.encode") [.str (txt cs) t, .str (Str.ofString "utf-8") u]) Q E s := by
  refine call_gives F.slot_str_encode (typeIs_str _ _ _) F.entry_str_encode (F.args_str_encode_2 _ _) (m := .bytes (byteArr (u8 cs))) ?_ ⟨?_, hQ⟩
  · rw [enc_tree2, encodeRoad_utf8, enc_all h]
    simp only [pure_bind]
    exact Gives.tree (.bytes (byteArr (u8 cs)))
  · have := h.len
    rw [byteArr_size, sizeLine_eq]; omega
theorem join_sg (cs : List Nat) : Txt.join (Str.ofString "") (cs.map sg) = txt cs := by
  have key : ∀ (l : List Nat) (acc : Array Nat), (l.map sg).foldl (fun acc p => acc ++ (Str.ofString "").cps ++ p.cps) acc = acc ++ l.toArray := by
    intro l
    induction l with
    | nil => intro acc; simp
    | cons c l ih =>
      intro acc
      rw [List.map_cons, List.foldl_cons, ih]
      show acc ++ #[] ++ #[c] ++ l.toArray = _
      simp
  cases cs with
  | nil => rfl
  | cons c cs =>
    show Str.mk ((cs.map sg).foldl (fun acc p => acc ++ (Str.ofString "").cps ++ p.cps) #[c]) = _
    rw [key]
    simp
theorem pick_upto {vs : List Value} {y : Int} (h : 0 ≤ y) : (slicePick vs.toArray none (some y) none).toList = vs.take y.toNat := by
  have e : sliceBounds none (some y) none vs.toArray.size = (((0 : Nat) : Int), ((min y.toNat vs.toArray.size : Nat) : Int), 1) := by
    simp only [sliceBounds, Option.getD_none, show (1 : Int) > 0 by decide, if_true, if_neg (show ¬ (y < 0) by omega)]
    congr 1
    congr 1
    omega
  rw [kmk_pick_nat _ e]
  show (vs.drop 0).take (min y.toNat vs.toArray.size - 0) = _
  rw [List.drop_zero, Nat.sub_zero, List.size_toArray, kmk_take_min]
theorem strs_append {vs ws : List Value} {xs ys : List Str} (h : StrsAre vs xs) (h2 : StrsAre ws ys) : StrsAre (vs ++ ws) (xs ++ ys) := by
  induction h with
  | nil => exact h2
  | cons y t _ ih => exact .cons y t ih
theorem strs_take {vs : List Value} {xs : List Str} (h : StrsAre vs xs) (n : Nat) : StrsAre (vs.take n) (xs.take n) := by
  induction h generalizing n with
  | nil => rw [List.take_nil, List.take_nil]; exact .nil
  | cons y t _ ih =>
    cases n with
    | zero => exact .nil
    | succ n => exact .cons y t (ih n)
theorem strs_len {vs : List Value} {xs : List Str} (h : StrsAre vs xs) : vs.length = xs.length := by
  induction h with
  | nil => rfl
  | cons y t _ ih => rw [List.length_cons, List.length_cons, ih]
theorem pick_str {xs : List Value} {cs : List Nat} (h : StrsAre xs (cs.map sg)) {i : Nat} {v : Value} (hv : xs[i]? = some v) : ∃ c t, v = .str (sg c) t ∧ c ∈ cs := by
  induction cs generalizing xs i with
  | nil => cases h; simp at hv
  | cons c cs ih =>
    cases h with
    | cons y t h =>
      cases i with
      | zero => simp at hv; exact ⟨c, t, hv.symm, .head _⟩
      | succ i =>
        simp at hv
        obtain ⟨k, t, e, hk⟩ := ih h hv
        exact ⟨k, t, e, .tail _ hk⟩
theorem join_L {prog : Program} {w : World} {A : Around} {E Q : Value → Shared → Prop} {s : Shared} {g : Heap} {L D : Addr} {news : List (Addr × Obj)} {ys : List Value} {nn : Nat} {cs : List Nat} {t : Tok} (N : News g L s.heap news) (hm : (D, listOf ys.toArray nn) ∈ news) (hi : StrsAre ys (cs.map sg)) (h3 : cs.length ≤ 3)
    (hQ : ∀ t' k, Q (.str (txt cs) t') { s with toks := k }) : wpAny (model prog w) A (call (.builtin "str.join") [.str (Str.ofString "") t, .ref D]) Q E s := by
  refine join_listW (items := ys.toArray) (ys := cs.map sg) ⟨_, (N _ hm).1, rfl, _, rfl⟩ hi (by decide) ?_ fun t' k => ?_
  · have : ((cs.map sg).map (·.length)) = cs.map fun _ => 1 := by rw [List.map_map]; rfl
    rw [this, List.length_map]
    match cs, h3 with
    | [], _ => decide
    | [a], _ => simp
    | [a, b], _ => simp
    | [a, b, c], _ => simp
    | _ :: _ :: _ :: _ :: _, h => exact absurd h (by simp)
  · rw [join_sg]; exact hQ t' k
end Mine

-- XU
namespace Mine
open PySem PySem.W PySem.Spec PySem.Calls PyProof.Rows PyProof.V
/-- the end of a turn of a while loop -/
def WhileEnd {σ : Type} (g : Heap) (L : Addr) (Led : σ → List (Addr × Obj)) (ps : σ → List (Str × Value)) (P : Nat → σ → Prop) (n : Nat) (s : Shared) (f : Flow) (s₃ : Shared) : Prop :=
  f = .next ∧ ∃ h' tk m₂ c n', s₃ = { s with heap := h', toks := tk } ∧ Fr g L h' m₂ ∧ News g L h' (Led c) ∧ (∀ p ∈ ps c, m₂ p.1 = some p.2) ∧ n' < n ∧ P n' c
theorem while_own {prog : Program} {w : World} {A : Around} {E : Value → Shared → Prop} {Q : Flow → Shared → Prop} {s : Shared} {env : Env} {g : Heap} {L : Addr} {σ : Type} {test : Expr} {body : List Stmt} {pos : Pos} {m : Str → Option Value}
    (Led : σ → List (Addr × Obj)) (ps : σ → List (Str × Value)) (P : Nat → σ → Prop) (c₀ : σ) (n₀ : Nat) (F : Fr g L s.heap m) (N : News g L s.heap (Led c₀)) (hk : ∀ p ∈ ps c₀, m p.1 = some p.2) (hp : P n₀ c₀)
    (turn : ∀ n c (u : Str → Option Value) h tk, P n c → Fr g L h (kstB u (ps c)) → News g L h (Led c) →
      wpAny (model prog w) A (isTrue test env (eval test env)) (fun b s₂ => if b = true then wpAny (model prog w) A (execs body env) (WhileEnd g L Led ps P n { s with heap := h, toks := tk }) E s₂ else Q .next s₂) E { s with heap := h, toks := tk })
    (hE : PassesOwn (model prog w) A env E := by passes_own) :
    wpAny (model prog w) A (exec (.While test body [] pos) env) Q E s := by
  refine While_inv (fun n m₁ nx => ∃ c, nx = Led c ∧ (∀ p ∈ ps c, m₁ p.1 = some p.2) ∧ P n c) F N ⟨c₀, rfl, hk, hp⟩ ?_ hE
  rintro n m₁ nx h₁ tk₁ F₁ N₁ ⟨c, rfl, hps, hP⟩
  refine wpAny_mono (turn n c m₁ h₁ tk₁ hP (by rw [kstB_self hps]; exact F₁) N₁) (fun b s₂ h₂ => ?_) fun _ _ e => e
  cases b with
  | false => exact h₂
  | true =>
    simp only [if_true] at h₂ ⊢
    refine wpAny_mono h₂ (fun f s₃ h₃ => ?_) fun _ _ e => e
    obtain ⟨rfl, h', tk, m₂, c', n', rfl, F₂, N₂, hps₂, hn, hP₂⟩ := h₃
    exact ⟨rfl, h', tk, m₂, Led c', n', rfl, F₂, N₂, hn, ⟨c', rfl, hps₂, hP₂⟩⟩
end Mine

-- XQ2
namespace Mine
open PySem PySem.W PySem.Spec PySem.Calls PyProof.Rows PyProof.V
section
variable {M : Model} {A : Around} {s : Shared} {env : Env}
theorem G_nil {Q : Flow → Shared → Prop} (h : Q .next s) : wpG M A (execs [] env) Q s := G_pure h
theorem G_cons {st : Stmt} {rest : List Stmt} {Q : Flow → Shared → Prop} (h : wpG M A (exec st env) (fun f s' => match f with | .next => wpG M A (execs rest env) Q s' | f => Q f s') s) : wpG M A (execs (st :: rest) env) Q s := by
  rw [execs_cons]
  refine G_bind (G_mono h fun f s' h' => ?_)
  cases f <;> first | exact h' | exact G_pure h'
theorem G_IfG {test : Expr} {body orelse : List Stmt} {pos : Pos} {Q : Flow → Shared → Prop} (h : wpG M A (isTrue test env (eval test env)) (fun b s' => if b = true then wpG M A (execs body env) Q s' else wpG M A (execs orelse env) Q s') s) :
    wpG M A (exec (.If test body orelse pos) env) Q s := by
  show wpG M A (standAt pos >>= fun _ => isTrue test env (eval test env) >>= fun b => if b = true then execs body env else execs orelse env) Q s
  refine G_step (wpAny_standAt (G_bind (G_mono h fun b s' h' => ?_)))
  cases b <;> exact h'
theorem G_If {test : Expr} {body orelse : List Stmt} {pos : Pos} {Q : Flow → Shared → Prop} (h : wpAny M A (isTrue test env (eval test env)) (fun b s' => if b = true then wpG M A (execs body env) Q s' else wpG M A (execs orelse env) Q s') eF s) :
    wpG M A (exec (.If test body orelse pos) env) Q s := G_IfG (G_of h)
theorem G_Assign {x : Str} {px pos : Pos} {value : Expr} {Q : Flow → Shared → Prop} (h : wpG M A (eval value env) (fun v s₁ => wpAny M A (storeName env x v) (fun _ s₂ => Q .next s₂) eF s₁) s)
    (hs : swapsWith value (some (.Name x px)) pos.line env = pure false := by rfl) : wpG M A (exec (.Assign [.Name x px] value pos) env) Q s := by
  rw [exec_Assign_Name env x px value pos hs]
  refine G_step (wpAny_standAt (G_bind (G_mono h fun v s₁ h₁ => ?_)))
  refine G_step (wpAny_standAt (G_step (wpAny_bindName (wpAny_mono h₁ (fun _ s₂ h₂ => G_pure h₂) fun _ _ h => h))))
theorem G_Return {e : Expr} {pos : Pos} {Q : Flow → Shared → Prop} (h : wpG M A (eval e env) (fun v => Q (.ret v)) s) : wpG M A (exec (.Return (some e) pos) env) Q s := by
  rw [exec_Return_some]
  exact G_step (wpAny_standAt (G_bind (G_mono h fun v s' h' => G_pure h')))
theorem G_Expr {e : Expr} {pos : Pos} {Q : Flow → Shared → Prop} (h : wpG (M := M) A (eval e env) (fun v s' => v = .none ∧ Q .next s') s)
    (hi : interactive env = false := by rfl) (hs : swapsWith e none pos.line env = pure false := by rfl) : wpG M A (exec (.Expr e pos) env) Q s := by
  rw [exec_Expr env e pos hi hs]
  refine G_step (wpAny_standAt (G_bind (G_mono h fun v s' h' => ?_)))
  obtain ⟨rfl, h'⟩ := h'
  rw [dropValue_plain (fun a q => by cases q)]
  exact G_pure h'
theorem G_Not {x : Expr} {px : Pos} {e : Sem Value} {Q : Bool → Shared → Prop} (h : wpG M A (isTrue x env (eval x env)) (fun b s' => Q (!b) s') s) : wpG M A (isTrue (.UnaryOp .Not x px) env e) Q s :=
  G_bind (G_mono h fun b s' h' => G_pure h')
theorem G_truth {f : Expr} {args : List Expr} {kws : List Keyword} {px : Pos} {Q : Bool → Shared → Prop} (h : wpG M A (eval (.Call f args kws px) env) (fun v s' => wpAny M A (truthy v) Q eF s') s) : wpG M A (isTrue (.Call f args kws px) env (eval (.Call f args kws px) env)) Q s :=
  G_bind (G_mono h fun v s' h' => G_step (wpAny_standAt (G_holding (G_of h'))))
theorem G_CallName {id : Str} {p pos : Pos} {args : List Expr} {Q : Value → Shared → Prop} (h : wpAny M A (eval (.Name id p) env) (fun f s₁ => wpG M A (callWith pos f [] (backTo pos (starEach args env)) []) Q s₁) eF s) :
    wpG M A (eval (.Call (.Name id p) args [] pos) env) Q s := by
  rw [arm_eval_Call_Name']
  exact G_step h
theorem G_tail {t : Sem Value} {Q : Value → Shared → Prop} (h : wpG M A t Q s) : wpG M A (t >>= fun r => holding [r] point >>= fun _ => pure r) Q s :=
  G_bind (G_mono h fun r s₂ hr => G_step (wpAny_holding (wpAny_point (G_pure hr))))
theorem G_machine {pos : Pos} {f : Value} {first : List Value} {args : List (Bool × Sem Value)} {Q : Value → Shared → Prop} (hk : keeperOf f = pure .machine) (hplain : args.any (·.1) = false)
    (h : wpAny M A (evalArgs f true args []) (fun a s₁ => wpG M A (call f (first ++ a.pos) a.kw) Q s₁) eF s) : wpG M A (callWith pos f first args []) Q s := by
  unfold callWith
  refine G_step (wpAny_holding (wpAny_mono h (fun a s₁ h₁ => G_step (wpAny_standAt ?_)) fun _ _ x => x))
  simp only [hplain, List.any_nil, Bool.or_false, hk]
  exact G_step (wpAny_pure (G_tail h₁))
/-- a def is called -/
def CallG (M : Model) (A : Around) (a : Addr) (Q : Value → Shared → Prop) (vs : List Value) (s₁ : Shared) : Prop := (∃ o fd, s₁.heap.get? a = some o ∧ o.data = .func fd) ∧ wpG M A (call (.ref a) vs) Q s₁
theorem G_function {pos : Pos} {a : Addr} {first : List Value} {args : List (Bool × Sem Value)} {Q : Value → Shared → Prop} (hplain : args.any (·.1) = false)
    (h : wpAny M A (evalArgs (.ref a) true args []) (fun x s₁ => x.kw = [] ∧ CallG M A a Q (first ++ x.pos) s₁) eF s) :
    wpG M A (callWith pos (.ref a) first args []) Q s := by
  unfold callWith
  refine G_step (wpAny_holding (wpAny_mono h (fun x s₁ h₁ => G_step (wpAny_standAt ?_)) fun _ _ x => x))
  simp only [hplain, List.any_nil, Bool.or_false]
  refine G_step (m := keeperOf (.ref a)) ?_
  unfold keeperOf
  obtain ⟨hkw, ⟨o, fd, ho, hdat⟩, hcall⟩ := h₁
  rw [hkw]
  refine wpAny_bind (wpAny_load ho ?_)
  rw [hdat]
  refine wpAny_pure ?_
  dsimp only
  split <;> first
    | exact G_tail hcall
    | exact G_tail (by unfold callMarked; exact G_keep hcall)
theorem G_machineS {pos : Pos} {f : Value} {first : List Value} {e : Expr} {rest : List Expr} {Q : Value → Shared → Prop} (hk : keeperOf f = pure .machine) (hplain : (backTo pos (starEach (e :: rest) env)).any (·.1) = false)
    (h : wpAny M A (spliced (backTo pos (starEach (e :: rest) env))) (fun vs s₁ => wpG M A (call f (first ++ vs)) Q s₁) eF s)
    (he : backTo pos (starEach (e :: rest) env) = (false, eval e env) :: backTo pos (starEach rest env) := by rfl) : wpG M A (callWith pos f first (backTo pos (starEach (e :: rest) env)) []) Q s := by
  refine G_machine hk hplain ?_
  rw [he] at h ⊢
  exact Calls.evalArgs_plain h
theorem G_functionS {pos : Pos} {a : Addr} {first : List Value} {e : Expr} {rest : List Expr} {Q : Value → Shared → Prop} (hplain : (backTo pos (starEach (e :: rest) env)).any (·.1) = false)
    (h : wpAny M A (spliced (backTo pos (starEach (e :: rest) env))) (fun vs s₁ => CallG M A a Q (first ++ vs) s₁) eF s)
    (he : backTo pos (starEach (e :: rest) env) = (false, eval e env) :: backTo pos (starEach rest env) := by rfl) : wpG M A (callWith pos (.ref a) first (backTo pos (starEach (e :: rest) env)) []) Q s := by
  refine G_function hplain ?_
  rw [he] at h ⊢
  exact Calls.evalArgs_plain (wpAny_mono h (fun vs s₁ h₁ => ⟨rfl, h₁⟩) fun _ _ x => x)
end
section
variable {prog : Program} {w : World} {A : Around} {s : Shared} {env : Env}
theorem G_method {o : Expr} {name : Str} {apos pos : Pos} {args : List Expr} {T id : String} {Q : Value → Shared → Prop}
    (hbase : attributeBase o name env (eval o env) = eval o env)
    (hfew : methodCallForm (args.length + ([] : List Keyword).length) (backTo pos (starEach args env)) (backToKw pos (keywordEach [] env)) = true)
    (hline : (apos.endLine == pos.line) = true)
    (pa : PlainAttrs T) (slot : Slot T name id) (hty : typeOf (.builtin id) = pure (.type "method_descriptor"))
    (h : wpAny (model prog w) A (eval o env) (fun ov s₁ => s₁.TypeIs ov T ∧ (∀ a, ov = .ref a → ∃ ob, s₁.heap.get? a = some ob ∧ ob.dict = none) ∧
      wpG (model prog w) A (callWith pos (.builtin id) [ov] (backTo pos (starEach args env)) []) Q s₁) eF s) :
    wpG (model prog w) A (eval (.Call (.Attribute o name apos) args [] pos) env) Q s := by
  rw [arm_eval_Call, hbase]
  refine G_step (wpAny_mono h (fun ov s₁ h₁ => ?_) fun _ _ e => e)
  obtain ⟨hT, hd, hc⟩ := h₁
  refine G_step (wpAny_standAt ?_)
  have hpos : methodCallPos true o env apos pos = pure pos := by unfold methodCallPos; simp [hline]
  unfold methodCall
  rw [hfew]
  refine G_step (wpAny_holding (getMethod_builtin hT pa slot hty hd ?_))
  exact G_step (wpAny_of_eq hpos hc)
theorem G_loop {c : Code} {R : Result → Shared → Prop} (hq : c.quiet = true) (hc : freeC c = true) (I : Nat → Shared → Prop)
    (turn : ∀ n s, I n s → wpG (model prog w) (A.under c) ((model prog w).den c) (fun fin s' => match fin with
        | .done f => R (.ok f) s'
        | .again c' => (c' = c ∧ ∃ m, m < n ∧ I m s') ∨ (c'.quiet = true ∧ codeG (model prog w) A c' R s')) s)
    (n : Nat) (h : I n s) : codeG (model prog w) A c R s := by
  induction n using Nat.strongRecOn generalizing s with
  | ind n ih =>
    refine G_tree hc (G_mono (turn n s h) fun fin s' hf => ?_)
    cases fin with
    | done f => exact hf
    | again c' =>
      rcases hf with ⟨rfl, m, hm, hI⟩ | hf
      · exact ⟨hq, ih m hm hI⟩
      · exact hf
theorem G_forCode {R : Result → Shared → Prop} {x : Str} {px : Pos} {it : Value} {body : List Stmt} (I : Nat → Shared → Prop)
    (turn : ∀ n s, I n s → wpAny (model prog w) A (pyNext it) (fun r s₁ => match r with
      | none => R (.ok .next) s₁
      | some v => wpAny (model prog w) A (assign (.Name x px) env v) (fun _ s₂ => wpG (model prog w) A (execs body env) (fun f s₃ => match f with
          | .next | .cont => ∃ m, m < n ∧ I m s₃
          | .brk => R (.ok .next) s₃
          | .ret v => R (.ok (.ret v)) s₃) s₂) eF s₁) eF s)
    (n : Nat) (h : I n s) : codeG (model prog w) A (.forLoop (.Name x px) it body [] env) R s := by
  refine G_loop rfl rfl I (fun n s hI => ?_) n h
  show wpG _ A ((forTurn (.Name x px) it body [] env).onRaise (fun x => do noteFrame x env; theTreesLotGoes x)) _ s
  refine G_onRaise ?_
  simp only [forTurn]
  refine G_step (wpAny_standAt (G_bind (G_onRaise (G_of (wpAny_mono (turn n s hI) (fun r s₁ h₁ => ?_) fun _ _ h => h)))))
  cases r with
  | none =>
    refine G_pure (.inr ⟨rfl, G_tree rfl ?_⟩)
    show wpG _ A (do return Fin.done (← (execs [] env).onRaise (fun x => do noteFrame x env; theTreesLotGoes x))) _ _
    exact G_bind (G_onRaise (G_nil (G_pure h₁)))
  | some v =>
    refine G_step (wpAny_of_eq (show letOwnedTupleGo (.Name x px) it v = pure () from rfl) ?_)
    refine G_step (wpAny_mono h₁ (fun _ s₂ h₂ => G_bind (G_mono h₂ fun f s₃ h₃ => ?_)) fun _ _ h => h)
    cases f with
    | next => exact G_pure (.inl ⟨rfl, h₃⟩)
    | cont => exact G_pure (.inl ⟨rfl, h₃⟩)
    | brk => exact G_pure h₃
    | ret v => exact G_pure h₃
theorem G_For {x : Str} {px pos : Pos} {iter : Expr} {body : List Stmt} {Q : Flow → Shared → Prop}
    (h : wpAny (model prog w) A (eval iter env) (fun xv s₁ => wpAny (model prog w) A (pyIter xv) (fun it s₂ =>
      codeG (model prog w) A (.forLoop (.Name x px) it body [] env) (fun r s' => ∃ f, r = .ok f ∧ Q f s') s₂) eF s₁) eF s)
    (hs : ∀ x, foldedSetIterable iter env x = pure x := by intro _; rfl) : wpG (model prog w) A (exec (.For (.Name x px) iter body [] pos) env) Q s := by
  rw [exec_For]
  refine G_step (wpAny_standAt (G_step (wpAny_mono h (fun xv s₁ h₁ => ?_) fun _ _ h => h)))
  refine G_step (wpAny_of_eq (hs xv) (G_step (wpAny_standAt (G_step (wpAny_holding (wpAny_mono h₁ (fun it s₂ h₂ => G_runOwn h₂) fun _ _ h => h))))))
end
end Mine

-- XQ3
namespace Mine
open PySem PySem.W PySem.Spec PySem.Calls PyProof.Rows PyProof.V
theorem G_loopOwn {prog : Program} {w : World} {A : Around} {s : Shared} {env : Env} {σ : Type} {I : Addr} {n : Nat} {P : Nat → Value → Prop} {St : Nat → Heap → Prop} {m₀ : Str → Option Value} {Q : Flow → Shared → Prop} {h₀ : Heap} {x : Str} {px : Pos} {body : List Stmt}
    (Led : σ → List (Addr × Obj)) (ps : σ → List (Str × Value)) (Pc : Nat → σ → Prop) (c₀ : σ)
    (W : Walks prog w A I [I] [I] n P St) (hob : ∀ i h, St i h → ∃ o, h.get? I = some o) (hx : env.kindOf x = some .local) (hp : (env.scope.kind == .class || (env.scope.kind == .module && env.locals != env.globals)) = false)
    (hI : env.locals ≠ I) (hI0 : h₀.get? I = none) (hst : St 0 s.heap) (F : Fr h₀ env.locals s.heap m₀) (N : News h₀ env.locals s.heap (Led c₀)) (hne : ∀ p ∈ Led c₀, p.1 ≠ I) (hk : ∀ p ∈ ps c₀, m₀ p.1 = some p.2) (hp0 : Pc 0 c₀)
    (turn : ∀ (i : Nat) (c : σ) (v : Value) (u : Str → Option Value) h tk oI, i < n → P i v → Pc i c → (∀ p ∈ Led c, p.1 ≠ I) → Fr h₀ env.locals h (fun y => if y = x then some v else kstB u (ps c) y) → News h₀ env.locals h ((I, oI) :: Led c) →
      wpG (model prog w) A (execs body env) (LoopEnd h₀ env.locals I oI (Jc Led ps (Pc (i + 1))) { s with heap := h, toks := tk } Q) { s with heap := h, toks := tk })
    (done : ∀ (c : σ) (u : Str → Option Value) h tk, Pc n c → Fr h₀ env.locals h (kstB u (ps c)) → News h₀ env.locals h (Led c) → Q .next { s with heap := h, toks := tk }) :
    codeG (model prog w) A (.forLoop (.Name x px) (.ref I) body [] env) (fun r s' => ∃ f, r = .ok f ∧ Q f s') s := by
  refine G_forCode (fun k s' => ∃ i h tk c m', s' = { s with heap := h, toks := tk } ∧ St i h ∧ Fr h₀ env.locals h m' ∧ News h₀ env.locals h (Led c) ∧ (∀ p ∈ Led c, p.1 ≠ I) ∧ (∀ p ∈ ps c, m' p.1 = some p.2) ∧ Pc i c ∧ i ≤ n ∧ k = n + 1 - i) ?_ (n + 1)
    ⟨0, s.heap, s.toks, c₀, m₀, rfl, hst, F, N, hne, hk, hp0, Nat.zero_le _, rfl⟩
  rintro k s' ⟨i, h, tk, c, m', rfl, hst', F', N', hne', hk', hPc, hi, rfl⟩
  have next : ∀ h₁ : Heap, (∀ b o, b ∉ [I] → h.get? b = some o → h₁.get? b = some o) → Fr h₀ env.locals h₁ m' ∧ News h₀ env.locals h₁ (Led c) := fun h₁ hk₁ =>
    ⟨⟨F'.ns.at' fun o e => hk₁ _ o (by simpa using hI) e, fun b o e => hk₁ b o (fun q => by rw [List.mem_singleton.mp q, hI0] at e; cases e) (F'.keep b o e), F'.above⟩, fun p hp => ⟨hk₁ _ _ (by simpa using hne' p hp) (N' p hp).1, (N' p hp).2⟩⟩
  by_cases hlt : i < n
  · refine W.item i _ _ _ hlt hst' fun v h₁ tk₁ hP hst₁ hk₁ => ?_
    obtain ⟨F₁, N₁⟩ := next h₁ hk₁
    refine wpAny_assign_Name (wpAny_storeName_local hx F₁.ns (fun h₂ hn₂ hs₂ => ?_) hp)
    have F₂ := F₁.set hn₂ hs₂
    have N₂ := N₁.set hs₂
    obtain ⟨oI, hoI⟩ := hob _ _ hst₁
    have hoI₂ : h₂.get? I = some oI := (hs₂.2 I (Ne.symm hI)).trans hoI
    have hst₂ : St (i + 1) h₂ := W.frame _ _ _ hst₁ fun b hb o e => (hs₂.2 b fun q => by rw [List.mem_singleton.mp hb] at q; exact hI q.symm).trans e
    have N₃ : News h₀ env.locals h₂ ((I, oI) :: Led c) := fun p hp => by
      rcases List.mem_cons.mp hp with rfl | hp
      · exact ⟨hoI₂, Ne.symm hI, hI0⟩
      · exact N₂ p hp
    refine G_mono (turn i c v m' h₂ _ oI hlt hP hPc hne' (by rw [kstB_self hk']; exact F₂) N₃) fun f s₃ h₃ => ?_
    have fin : (∃ h' tk' m₁ nx, s₃ = { ({ s with heap := h₂, toks := tk₁ + 1 } : Shared) with heap := h', toks := tk' } ∧ Fr h₀ env.locals h' m₁ ∧ News h₀ env.locals h' ((I, oI) :: nx) ∧ (∀ p ∈ nx, p.1 ≠ I) ∧ Jc Led ps (Pc (i + 1)) m₁ nx) →
        ∃ m, m < n + 1 - i ∧ ∃ j h tk c m', s₃ = { s with heap := h, toks := tk } ∧ St j h ∧ Fr h₀ env.locals h m' ∧ News h₀ env.locals h (Led c) ∧ (∀ p ∈ Led c, p.1 ≠ I) ∧ (∀ p ∈ ps c, m' p.1 = some p.2) ∧ Pc j c ∧ j ≤ n ∧ m = n + 1 - j := by
      rintro ⟨h', tk', m₁, nx, rfl, F₄, N₄, hne₄, ⟨c', rfl, hk₄, hP₄⟩⟩
      refine ⟨n + 1 - (i + 1), by omega, i + 1, h', tk', c', m₁, rfl, W.frame _ _ _ hst₂ fun b hb o e => ?_, F₄, fun p hp => N₄ p (.tail _ hp), hne₄, hk₄, hP₄, hlt, rfl⟩
      rw [List.mem_singleton.mp hb] at e ⊢
      rw [hoI₂] at e
      cases e
      exact (N₄ _ (.head _)).1
    cases f with
    | ret v => exact ⟨_, rfl, h₃⟩
    | brk => exact ⟨_, rfl, h₃⟩
    | next => exact fin h₃
    | cont => exact fin h₃
  · have hin : i = n := by omega
    subst hin
    refine W.done _ _ _ hst' fun h₁ tk₁ hk₁ => ?_
    obtain ⟨F₁, N₁⟩ := next h₁ hk₁
    exact ⟨_, rfl, done c m' h₁ tk₁ hPc (by rw [kstB_self hk']; exact F₁) N₁⟩
section
variable (prog : Program) (K : Params → Frag) (w : World) (mean : ExcName → Option Value) (mg mb : Str → Option Value)
/-- the contracts of XF and XK for contexts in which no bytearray is held; no exception leaves -/
def BodyOkG (qual : Str) (scope : Scope) (f : Addr) (cdv : Value) (body : List Stmt) (binds : List (Str × Value)) (own : List (Addr × Obj)) (d : Nat) (P : Value → List (Addr × Obj) → Prop) : Prop :=
  ∀ (dp un : Nat) (gd : Option (List Code)) (outer : List Env) (base g : Heap) (L : Addr) (s : Shared),
    Below (Ar dp un gd outer) base outer g → Fr g L s.heap (fun y => binds.reverse.lookup y) → News g L s.heap own → (K w.params).In g → TopV mean mg mb g → (K w.params).In base → TopV mean mg mb base → HG none g →
    dp + d < recursionLimit → un + 8 * d < cLine →
    wpG (model prog w) ((Ar dp un gd outer).deeper (envOf qual scope L f cdv)) (execs body (envOf qual scope L f cdv)) (fun fl s' => EndedT g L outer P s (match fl with | .ret v => v | _ => .none) s') s
def SpecG (f : Addr) (vs : List Value) (own : List (Addr × Obj)) (d : Nat) (P : Value → List (Addr × Obj) → Prop) : Prop :=
  ∀ (dp un : Nat) (gd : Option (List Code)) (env : Env) (outer : List Env) (A₀ : Around) (base h₀ : Heap) (L : Addr) (m : Str → Option Value) (news rest : List (Addr × Obj)) (s : Shared) (R : Result → Shared → Prop),
    env.frame = some L → env.scope.kind = .function → Below A₀ base outer h₀ → Fr h₀ L s.heap m → News h₀ L s.heap news → (K w.params).In base → TopV mean mg mb base →
    dp + d < recursionLimit → un + 8 * d < cLine →
    (∀ p ∈ own, p ∈ news) → (∀ p ∈ rest, p ∈ news) → (∀ p ∈ rest, ∀ q ∈ own, p.1 ≠ q.1) →
    (∀ v own' h' tk' h₀', KtsTurn (frs outer) h₀ h₀' → Fr h₀' L h' m → News h₀' L h' (own' ++ rest) → (∀ p ∈ own', ∀ q ∈ rest, p.1 ≠ q.1) → Below A₀ base outer h₀' → P v own' → R (.ok (.ret v)) { s with heap := h', toks := tk' }) →
    codeG (model prog w) (Ar dp un gd (env :: outer)) (.call (.ref f) ⟨vs, []⟩) R s
end
theorem specG_of {prog : Program} {K : Params → Frag} {w : World} {mean : ExcName → Option Value} {mg mb : Str → Option Value} {f : Addr} {vs : List Value} {own : List (Addr × Obj)} {d : Nat} {P : Value → List (Addr × Obj) → Prop}
    {name qual : Str} {params : Arguments} {body : List Stmt} {scope : Scope} {dV kV doc pm cdv ct oc : Value} {an od : Option Addr} {osl : Array (Option Value)} {binds : List (Str × Value)}
    (hb : BodyOkG prog K w mean mg mb qual scope f cdv body binds own (d - 1) P)
    (hd : 1 ≤ d)
    (ho : (K w.params).lookup f = some ⟨oc, od, .func (fnOf name qual params body scope dV kV doc pm an cdv ct), osl⟩) (hcd : codeIn (K w.params) cdv qual = true)
    (hbind : ∀ s, BindsTo s (fnOf name qual params body scope dV kV doc pm an cdv ct) ⟨vs, []⟩ binds) (hloc : ∀ y ∈ binds, scope.names.lookup y.1 = some .local)
    (hcell : ∀ x ∈ scope.names, x.2 ≠ .cell) (hco : scope.isCoroutine = false) (hgen : scope.isGenerator = false) (hk : scope.kind = .function) :
    SpecG prog K w mean mg mb f vs own d P := by
  intro dp un gd env outer A₀ base h₀ L m news rest s R hf hke B F N KB TB hdp hun hown hrest hne hQ
  have Nown : News h₀ L s.heap own := fun p hp => N p (hown p hp)
  have X₀ : (K w.params).In h₀ := KB.keeps B.stays
  obtain ⟨FG, BG, st, _⟩ := groundX (A := Ar dp un gd (env :: outer)) (R := fun _ _ => True) B F Nown rfl hf hke
  have T₀ : TopV mean mg mb h₀ := TB.keeps B.stays
  refine G_def (fd := fnOf name qual params body scope dV kV doc pm an cdv ct) (body := body) (binds := binds) (by show dp < recursionLimit; omega) ((X₀.keeps F.keep) _ _ ho) rfl (T₀.nolimit.keeps F.keep)
    (codeRec_of (X₀.keeps F.keep) hcd) rfl (hbind _) hcell hloc (fun h₁ hns hk₁ => ?_) hco hgen hk
  have F₁ : Fr (hideAll s.heap (adrs own)) s.heap.objs.size h₁ (fun y => binds.reverse.lookup y) := ⟨hns, fun b o e => hk₁ b o (of_hideAll _ e), Nat.le_of_eq (hideAll_size _ _)⟩
  have N₁ : News (hideAll s.heap (adrs own)) s.heap.objs.size h₁ own := fun p hp => ⟨hk₁ _ _ (Nown p hp).1, Nat.ne_of_lt (Heap.lt_size (Nown p hp).1), hideAll_none _ (List.mem_map_of_mem hp)⟩
  have BG' : Below (Ar dp un gd (env :: outer)) base (env :: outer) (hideAll s.heap (adrs own)) := ⟨rfl, BG.stays, BG.frames⟩
  have body' := hb dp un gd (env :: outer) base (hideAll s.heap (adrs own)) s.heap.objs.size { s with heap := h₁, toks := s.toks + binds.length } BG' F₁ N₁ (X₀.keeps st) (T₀.keeps st) KB TB HG.no (by omega) (by omega)
  refine G_mono body' fun fl s' hl => ?_
  obtain ⟨g', own', m', h', tk', T, rfl, F', N', hP⟩ := hl
  have hfs : frs (env :: outer) = L :: frs outer := by show List.filterMap _ _ = _; rw [List.filterMap_cons, hf]
  rw [hfs] at T
  have nf : ∀ b o, h₀.get? b = some o → b ∉ adrs own := fun b o e hm => by
    obtain ⟨p, hp, q⟩ := List.mem_map.mp hm
    have := (Nown p hp).2.2
    rw [q, e] at this; cases this
  have inG : ∀ b o, h₀.get? b = some o → (hideAll s.heap (adrs own)).get? b = some o := fun b o e => hideAll_get _ (F.keep b o e) (nf b o e)
  have nL : L ∉ adrs own := fun q => by
    obtain ⟨p, hp, e⟩ := List.mem_map.mp q
    exact (Nown p hp).2.1 e
  have hL0 : h₀.get? L = none := kts_self F
  have frm : ∀ b ∈ frs outer, ∃ o, h₀.get? b = some o := fun b hb => by
    obtain ⟨_, o, ho, _⟩ := B.frames.mem hb
    exact ⟨o, ho⟩
  obtain ⟨TT, S⟩ := kts_turn_at (h := h') (fs := frs outer) (g := h₀) frm
    (fun b o e nm => F'.keep _ _ (T.other b o (inG b o e) (fun hm => by
      rcases List.mem_cons.mp hm with z | z
      · rw [z, hL0] at e; cases e
      · exact nm z)))
    (fun b o e hm => by
      obtain ⟨sl, hs⟩ := T.frame b o (inG b o e) (.tail _ hm)
      exact ⟨sl, F'.keep _ _ hs⟩)
  have keepR : ∀ p ∈ rest, g'.get? p.1 = some p.2 := fun p hp => by
    have hp' := N p (hrest p hp)
    refine T.other p.1 p.2 (hideAll_get _ hp'.1 fun hm => ?_) fun hm => ?_
    · obtain ⟨q, hq, e⟩ := List.mem_map.mp hm
      exact hne p hp q hq e.symm
    · rcases List.mem_cons.mp hm with z | z
      · exact hp'.2.1 z
      · obtain ⟨o, ho⟩ := frm _ z
        rw [hp'.2.2] at ho; cases ho
  obtain ⟨oL, es, ep, hL, hLd, hLk, hLf⟩ := F.ns
  obtain ⟨sl, hLs⟩ := T.frame L oL (hideAll_get (adrs own) hL nL) (.head _)
  refine hQ _ own' h' tk' _ TT ⟨⟨_, es, ep, F'.keep _ _ hLs, hLd, hLk, hLf⟩, S, by rw [TT.size]; exact F.above⟩ (fun p hp => ?_) (fun p hp q hq e => ?_)
    ⟨B.stack, fun b o e => TT.other b o (B.stays b o e) (fun hm => by rw [(B.frames.mem hm).1] at e; cases e), B.frames.of_keeps fun b o e _ => by
      obtain ⟨sl, hs⟩ := TT.up e
      exact ⟨_, hs, rfl⟩⟩ hP
  · rcases List.mem_append.mp hp with hp | hp
    · refine ⟨(N' p hp).1, fun q => ?_, TT.none_ _ ?_⟩
      · have := (N' p hp).2.2; rw [q, hLs] at this; cases this
      · cases q : h₀.get? p.1 with
        | none => rfl
        | some o =>
          obtain ⟨sl, hs⟩ := T.up (inG _ _ q)
          have := (N' p hp).2.2; rw [hs] at this; cases this
    · exact ⟨F'.keep _ _ (keepR p hp), (N p (hrest p hp)).2.1, TT.none_ _ (N p (hrest p hp)).2.2⟩
  · have h1 := (N' p hp).2.2
    rw [e, keepR q hq] at h1; cases h1
section
variable {prog : Program} {K : Params → Frag} {w : World} {mean : ExcName → Option Value} {mg mb : Str → Option Value} {f : Addr} {vs : List Value} {own : List (Addr × Obj)} {d : Nat} {P : Value → List (Addr × Obj) → Prop}
  {dp un : Nat} {gd : Option (List Code)} {outer : List Env} {base g : Heap} {L : Addr} {m : Str → Option Value} {news rest : List (Addr × Obj)} {s : Shared} {Q E : Value → Shared → Prop} {env : Env}
/-- a call of a def that catches: the ground may turn -/
theorem SpecT.use (H : SpecT prog K w mean mg mb f vs own d P) (B : Below (Ar dp un gd outer) base outer g) (F : Fr g L s.heap m) (N : News g L s.heap news) (KB : (K w.params).In base) (TB : TopV mean mg mb base)
    (hf : env.frame = some L) (hk : env.scope.kind = .function) (hd : dp + 1 + d < recursionLimit) (hu : un + 3 + 8 * d < cLine) (hown : ∀ p ∈ own, p ∈ news) (hrest : ∀ p ∈ rest, p ∈ news) (hne : ∀ p ∈ rest, ∀ q ∈ own, p.1 ≠ q.1)
    (hQ : ∀ v own' h' tk' g', KtsTurn (frs outer) g g' → Fr g' L h' m → News g' L h' (own' ++ rest) → (∀ p ∈ own', ∀ q ∈ rest, p.1 ≠ q.1) → Below (Ar dp un gd outer) base outer g' → (K w.params).In g' → TopV mean mg mb g' → P v own' → Q v { s with heap := h', toks := tk' }) :
    wpAny (model prog w) ((Ar dp un gd outer).deeper env) (call (.ref f) vs) Q E s :=
  wpAny_call (H (dp + 1) (un + 3) gd env outer (Ar dp un gd outer) base g L m news rest s _ hf hk B F N KB TB hd hu hown hrest hne
    (fun v own' h' tk' g' T a b c B' e => hQ v own' h' tk' g' T a b c B' (KB.keeps B'.stays) (TB.keeps B'.stays) e))
theorem SpecG.use {Q : Value → Shared → Prop} (H : SpecG prog K w mean mg mb f vs own d P) (B : Below (Ar dp un gd outer) base outer g) (F : Fr g L s.heap m) (N : News g L s.heap news) (KB : (K w.params).In base) (TB : TopV mean mg mb base)
    (hf : env.frame = some L) (hk : env.scope.kind = .function) (hd : dp + 1 + d < recursionLimit) (hu : un + 3 + 8 * d < cLine) (hown : ∀ p ∈ own, p ∈ news) (hrest : ∀ p ∈ rest, p ∈ news) (hne : ∀ p ∈ rest, ∀ q ∈ own, p.1 ≠ q.1)
    (hQ : ∀ v own' h' tk' g', KtsTurn (frs outer) g g' → Fr g' L h' m → News g' L h' (own' ++ rest) → (∀ p ∈ own', ∀ q ∈ rest, p.1 ≠ q.1) → Below (Ar dp un gd outer) base outer g' → (K w.params).In g' → TopV mean mg mb g' → P v own' → Q v { s with heap := h', toks := tk' }) :
    wpG (model prog w) ((Ar dp un gd outer).deeper env) (call (.ref f) vs) Q s :=
  G_call (H (dp + 1) (un + 3) gd env outer (Ar dp un gd outer) base g L m news rest s _ hf hk B F N KB TB hd hu hown hrest hne
    (fun v own' h' tk' g' T a b c B' e => ⟨v, rfl, hQ v own' h' tk' g' T a b c B' (KB.keeps B'.stays) (TB.keeps B'.stays) e⟩))
/-- a contract of a def that catches nothing, as one of a def in a free context -/
theorem Spec.toG (H : Spec prog K w mean mg mb none (HG none) f vs own d P none) : SpecG prog K w mean mg mb f vs own d P := by
  intro dp un gd env outer A₀ base h₀ L m news rest s R hf hke B F N KB TB hdp hun hown hrest hne hQ
  exact G_code (H dp un gd env outer A₀ base h₀ L m news rest s R hf hke B F N KB TB HG.no hdp hun hown hrest hne (fun v own' h' tk' F' N' c _ e => hQ v own' h' tk' h₀ KtsTurn.refl F' N' c B e) fun _ h => nomatch h)
end
noncomputable abbrev SPG (w : World) (mean : ExcName → Option Value) (mg mb : Str → Option Value) := SpecG PySem.Challenge.rw_xm0753_01.row.prog Hd.hd.heap_1 w mean mg mb
end Mine

-- XR
namespace Mine
open PySem PySem.W PySem.Spec PySem.Calls PyProof.Rows
theorem ba_mro : mroOf (.type "bytearray") = pure [.type "bytearray", .type "object"] := by rw [mroOf_type]; kernel_rfl
theorem ba_lookup_new : typeLookup (.type "bytearray") "__new__" = pure (some (.builtin "bytearray.__new__")) := by rw [typeLookup_type, builtinLookup_eq_fast]; kernel_rfl
theorem ba_sub : isSubtype (.type "bytearray") (.type "bytearray") = pure true := by rw [isSubtype_type]; kernel_rfl
theorem ba_slot_init : Slot "bytearray" "__init__" "bytearray.__init__" :=
  .of (owner := "bytearray") (n := "__init__") (by rw [typeLookup_type, builtinLookup_eq_fast]; kernel_rfl) (by decide +kernel) (by decide +kernel) (by decide +kernel)
    (by first | exact .inl (by decide +kernel) | exact .inr (by decide +kernel)) ba_sub
theorem ba_slot_append : Slot "bytearray" "append" "bytearray.append" :=
  .of (owner := "bytearray") (n := "append") (by rw [typeLookup_type, builtinLookup_eq_fast]; kernel_rfl) (by decide +kernel) (by decide +kernel) (by decide +kernel)
    (by first | exact .inl (by decide +kernel) | exact .inr (by decide +kernel)) ba_sub
theorem ba_called : TypeCalled "bytearray" "bytearray.__new__" "bytearray.__init__" :=
  ⟨by decide +kernel, by decide +kernel, ⟨_, _, ba_mro⟩, madeBy_type ba_mro ba_lookup_new (by decide +kernel), by decide +kernel, ba_sub, ba_slot_init⟩
theorem ba_typeCall : checkTypeCall "bytearray" ⟨[], []⟩ = pure () := by kernel_rfl
theorem ba_newCall : checkBuiltinCall "bytearray.__new__" ⟨[.type "bytearray"], []⟩ = pure () := by kernel_rfl
theorem ba_entry_new : entryFor table "bytearray.__new__" = some Builtin.«list.__new__» := entryFor_alias (id' := "list.__new__") (by kernel_rfl) (by decide +kernel) (by decide +kernel) (by kernel_rfl)
theorem ba_entry_init : entryFor table "bytearray.__init__" = some Builtin.«bytearray.__init__» := by first | exact entryFor_of_tree (by kernel_rfl) | exact entryFor_of_fast (by kernel_rfl)
theorem ba_entry_append : entryFor table "bytearray.append" = some Builtin.«bytearray.append» := by first | exact entryFor_of_tree (by kernel_rfl) | exact entryFor_of_fast (by kernel_rfl)
theorem ba_args_init (a : Value) : argsOk "bytearray.__init__" ⟨[a], []⟩ := by unfold argsOk; kernel_rfl
theorem ba_args_append (a b : Value) : argsOk "bytearray.append" ⟨[a, b], []⟩ := by unfold argsOk; kernel_rfl
theorem ba_plain_new : plainId "bytearray.__new__" = true := by decide +kernel
set_option maxRecDepth 1000000 in
set_option maxHeartbeats 4000000 in
theorem ba_owner : ("bytearray.__new__".splitOn ".__new__").headD "" = "bytearray" := by simp +decide [String.splitOn, String.splitOnAux]
theorem ba_release : typeLookup (.type "bytearray") "__release_buffer__" = pure (some (.builtin "bytearray.__release_buffer__")) := by rw [typeLookup_type, builtinLookup_eq_fast]; kernel_rfl
theorem ba_bind : Builtin.Bytes.bindOptional "bytearray.__init__" "bytearray" ["source", "encoding", "errors"] [] [] = pure [none, none, none] := by kernel_rfl
section
variable {prog : Program} {w : World} {A : Around} {s : Shared}
theorem ba_new {E : Value → Shared → Prop} {Q₁ : Value → Shared → Prop} (h : Q₁ (.ref s.heap.objs.size) { s with heap := s.heap.push { cls := .type "bytearray", data := .bytearray #[] } }) :
    codeAny (model prog w) A (.call (.builtin "bytearray.__new__") ⟨[.type "bytearray"], []⟩) (wants Q₁ E) s := by
  refine codeAny_of_tree ?_
  show wpAny _ A.in1 (do checkBuiltinCall "bytearray.__new__" ⟨[.type "bytearray"], []⟩; again (.builtin "bytearray.__new__" ⟨[.type "bytearray"], []⟩)) _ _ s
  refine wpAny_bind (wpAny_of_eq ba_newCall (wpAny_pure ⟨plainId_quiet ba_plain_new _, codeAny_builtin_stack ba_entry_new rfl fun p st => ?_⟩))
  rw [Around.under_plainId ba_plain_new _]
  have hsub := ba_sub
  have hown := ba_owner
  obtain ⟨hp, g, d, tk, os⟩ := s
  simp only [hown]
  wp_walk
  exact h
theorem G_if_false {α : Type} {M : Model} {c : Bool} {a b : Sem α} {Q : α → Shared → Prop} (hc : c = false) (h : wpG M A b Q s) : wpG M A (if c = true then a else b) Q s := by
  subst hc
  exact h
theorem dite_off {p : Prop} [Decidable p] {a : p → Bool} {b : ¬p → Bool} (h : ¬p) (hb : b h = false) : dite p a b = false := by
  rw [dif_neg h]
  exact hb
theorem exported_off {self : Value} : ∀ x : Code × Pos, freeC x.1 = true → (match x with
    | (.builtin "bytearray.__contains__" ⟨v :: _, _⟩, _) | (.builtin "bytearray.__mod__" ⟨v :: _, _⟩, _)
    | (.builtin "bytearray.__rmod__" ⟨_ :: v :: _, _⟩, _) | (.builtin "_struct.pack_into.held" ⟨v :: _, _⟩, _) => Builtin.Bytes.sameRef v self
    | (.builtin "bytearray.find.held" ⟨_ :: _ :: held, _⟩, _) => held.any (Builtin.Bytes.sameRef self)
    | (.builtin id ⟨v :: _, _⟩, _) => Builtin.Bytes.sameRef v self && Builtin.Bytes.decodersThatHold.contains id
    | _ => false) = false := by
  rintro ⟨c, p⟩ hx
  cases c with
  | builtin id args =>
    have key : holdIds.contains id = false := by
      have h : (!holdIds.contains id) = true := hx
      simpa using h
    have h2 : Builtin.Bytes.decodersThatHold.contains id = false := by
      have h := key
      unfold holdIds at h
      simp only [List.contains_eq_mem, List.mem_append, decide_eq_false_iff_not, not_or] at h ⊢
      exact h.2
    have off : ∀ y, holdIds.contains y = true → id ≠ y := fun y hy e => by rw [← e, key] at hy; cases hy
    delta exported_off.match_1
    dsimp only
    refine dite_off (off "bytearray.__contains__" (by decide +kernel)) ?_
    refine dite_off (off "bytearray.__mod__" (by decide +kernel)) ?_
    refine dite_off (off "bytearray.__rmod__" (by decide +kernel)) ?_
    refine dite_off (off "_struct.pack_into.held" (by decide +kernel)) ?_
    refine dite_off (off "bytearray.find.held" (by decide +kernel)) ?_
    obtain ⟨pos, kw⟩ := args
    cases pos with
    | nil => rfl
    | cons v tl =>
      show (Builtin.Bytes.sameRef v self && Builtin.Bytes.decodersThatHold.contains id) = false
      rw [h2, Bool.and_false]
  | _ => rfl
theorem G_exported {M : Model} {self : Value} {Q : Bool → Shared → Prop} (h : Q false s) : wpG M A (Builtin.Bytes.exported self) Q s := fun Γ p _ hf => by
  have e : ∀ l : List (Code × Pos), (∀ x ∈ l, freeC x.1 = true) → (l.any fun
      | (.builtin "bytearray.__contains__" ⟨v :: _, _⟩, _) | (.builtin "bytearray.__mod__" ⟨v :: _, _⟩, _)
      | (.builtin "bytearray.__rmod__" ⟨_ :: v :: _, _⟩, _) | (.builtin "_struct.pack_into.held" ⟨v :: _, _⟩, _) => Builtin.Bytes.sameRef v self
      | (.builtin "bytearray.find.held" ⟨_ :: _ :: held, _⟩, _) => held.any (Builtin.Bytes.sameRef self)
      | (.builtin id ⟨v :: _, _⟩, _) => Builtin.Bytes.sameRef v self && Builtin.Bytes.decodersThatHold.contains id
      | _ => false) = false := fun l hl => List.any_eq_false.mpr fun x hx => by
    rw [exported_off x (hl x hx)]
    exact Bool.false_ne_true
  have e2 := e ((Γ.code, p) :: Γ.below) (fun x hx => (List.mem_cons.mp hx).elim (fun q => q ▸ hf.1) (hf.2 x))
  have h3 := h
  rw [← e2] at h3
  exact h3
end
theorem ba_e1 : (!("bytearray.__release_buffer__".endsWith ("." ++ "__release_buffer__"))) = false := by decide +kernel
theorem ba_e2 : ("bytearray.__release_buffer__".dropRight ("__release_buffer__".length + 1)) = "bytearray" := by decide +kernel
theorem free_append (args : Args) : freeC (.builtin "bytearray.append" args) = true := by show (!holdIds.contains "bytearray.append") = true; decide +kernel
theorem free_init (args : Args) : freeC (.builtin "bytearray.__init__" args) = true := by show (!holdIds.contains "bytearray.__init__") = true; decide +kernel
theorem free_tcall (args : Args) : freeC (.builtin "type.__call__" args) = true := by show (!holdIds.contains "type.__call__") = true; decide +kernel
end Mine

-- XR2
namespace Mine
open PySem PySem.W PySem.Spec PySem.Calls PyProof.Rows
section
variable {prog : Program} {w : World} {A : Around} {s : Shared}
theorem ba_slot {D : Addr} {o : Obj} (ho : s.heap.get? D = some o) (hc : o.cls = .type "bytearray") : s.TypeIs (.ref D) "bytearray" := ⟨o, ho, hc⟩
theorem ba_own {M : Model} {E : Value → Shared → Prop} {D : Addr} {o : Obj} {Q : Bool → Shared → Prop} (ho : s.heap.get? D = some o) (hc : o.cls = .type "bytearray") (h : Q false s) : wpAny M A (Builtin.Bytes.ownRelease (.ref D)) Q E s := by
  unfold Builtin.Bytes.ownRelease Builtin.Bytes.slotIsOwn
  refine wpAny_bind (wpAny_bind (wpAny_specialOf (ba_slot ho hc) ba_release ?_))
  dsimp only
  rw [ba_e1, ba_e2]
  refine bm_if_false rfl ?_
  exact wpAny_isInstance (ba_slot ho hc) ba_sub (wpAny_pure h)
/-- the object of a bytearray -/
abbrev baO (l : List Int) : Obj := { cls := .type "bytearray", data := .bytearray (byteArr l) }
theorem byteArr_snoc (l : List Int) (n : Int) : byteArr (l ++ [n]) = (byteArr l).push n.toNat.toUInt8 := by
  unfold byteArr
  simp
theorem G_noExport {M : Model} {D : Addr} {l : List Int} {Q : Bool → Shared → Prop} (ho : s.heap.get? D = some (baO l)) (h : Q false s) :
    wpG M A (Builtin.Bytes.exported (.ref D) <||> (do return (← Builtin.Bytes.exportsOf (.ref D)) > 0)) Q s := by
  show wpG _ _ (Builtin.Bytes.exported (.ref D) >>= _) _ _
  refine G_bind (G_exported ?_)
  refine G_of ?_
  show wpAny _ _ (Builtin.Bytes.exportsOf (.ref D) >>= _) _ _ _
  refine wpAny_bind ?_
  unfold Builtin.Bytes.exportsOf
  refine wpAny_bind (wpAny_load ho ?_)
  exact wpAny_pure (wpAny_pure h)
theorem G_resize {M : Model} {D : Addr} {l : List Int} {Q : Unit → Shared → Prop} (ho : s.heap.get? D = some (baO l)) (h : Q () s) : wpG M A (Builtin.Bytes.checkResize (.ref D)) Q s := by
  unfold Builtin.Bytes.checkResize
  refine G_bind (G_noExport ho ?_)
  exact G_if_false rfl (G_pure h)
theorem ba_write {M : Model} {E : Value → Shared → Prop} {D : Addr} {l l' : List Int} {f : Array UInt8 → Array UInt8} {Q : Unit → Shared → Prop} (ho : s.heap.get? D = some (baO l)) (hf : f (byteArr l) = byteArr l') (hz : l'.length ≤ 1000)
    (h : ∀ h', Heap.SameBut D s.heap h' → h'.get? D = some (baO l') → Q () { s with heap := h' }) : wpAny M A (Builtin.Bytes.write (.ref D) f) Q E s := by
  show wpAny _ _ (updateBytearray D f) _ _ _
  unfold updateBytearray
  refine wpAny_bind (wpAny_load ho ?_)
  show wpAny _ _ (update D (Obj.mapBytearray f) >>= fun _ => lookBehind D) _ _ _
  refine wpAny_bind (wpAny_update ho ?_)
  have hS : (s.heap.update D (Obj.mapBytearray f)).get? D = some (baO l') :=
    (Heap.get?_update_self (Obj.mapBytearray f) ho rfl).trans (congrArg (fun b => some ({ cls := .type "bytearray", data := .bytearray b } : Obj)) hf)
  refine wpAny_lookBehind hS ?_ (h _ (Heap.SameBut.update ..) hS)
  show (if (byteArr l').size > sizeLine then some "bytearray:memory" else none) = none
  rw [if_neg]
  rw [byteArr_size, sizeLine_eq]
  omega
theorem G_append {D : Addr} {l : List Int} {n : Int} {t : Tok} {Q : Value → Shared → Prop} (ho : s.heap.get? D = some (baO l)) (h0 : 0 ≤ n) (h1 : n < 256) (hz : l.length < 1000)
    (h : ∀ h', Heap.SameBut D s.heap h' → h'.get? D = some (baO (l ++ [n])) → Q .none { s with heap := h' }) :
    wpG (model prog w) A (call (.builtin "bytearray.append") [.ref D, .int n t]) Q s := by
  refine G_call (G_tree rfl ?_)
  show wpG _ A.in1 (do checkBuiltinCall "bytearray.append" ⟨[.ref D, .int n t], []⟩; again (.builtin "bytearray.append" ⟨[.ref D, .int n t], []⟩)) _ s
  refine G_step (ba_slot_append.check _ _ _ _ _ _ _ _ (ba_slot ho rfl) (ba_args_append _ _) ?_)
  refine G_pure ⟨plainId_quiet ba_slot_append.plain _, G_builtin ba_slot_append.plain (free_append _) ba_entry_append ?_⟩
  show wpG _ _ (Builtin.Bytes.byteValue (.int n t) >>= _) _ _
  refine G_step ?_
  unfold Builtin.Bytes.byteValue
  refine wpAny_bind (wpAny_of_eq (rfl : asIndex (.int n t) = pure n) ?_)
  refine bm_if_false (by simp only [Bool.or_eq_false_iff, decide_eq_false_iff_not]; omega) ?_
  refine wpAny_pure ?_
  refine G_bind (G_resize ho ?_)
  refine G_step (ba_write (l' := l ++ [n]) ho (byteArr_snoc l n).symm (by rw [List.length_append]; exact hz) fun h' hs ho' => ?_)
  exact G_pure ⟨_, rfl, h h' hs ho'⟩
theorem G_init {D : Addr} {R : Result → Shared → Prop} (ho : s.heap.get? D = some (baO []))
    (h : ∀ h', Heap.SameBut D s.heap h' → h'.get? D = some (baO []) → R (.ok (.ret .none)) { s with heap := h' }) :
    codeG (model prog w) A (.call (.builtin "bytearray.__init__") ⟨[.ref D], []⟩) R s := by
  refine G_tree rfl ?_
  show wpG _ A.in1 (do checkBuiltinCall "bytearray.__init__" ⟨[.ref D], []⟩; again (.builtin "bytearray.__init__" ⟨[.ref D], []⟩)) _ s
  refine G_step (ba_slot_init.check _ _ _ _ _ _ _ _ (ba_slot ho rfl) (ba_args_init _) ?_)
  refine G_pure ⟨plainId_quiet ba_slot_init.plain _, G_builtin ba_slot_init.plain (free_init _) ba_entry_init ?_⟩
  show wpG _ _ (Builtin.Bytes.ownRelease (.ref D) >>= _) _ _
  refine G_step (ba_own ho rfl ?_)
  refine G_if_false rfl ?_
  refine G_step (wpAny_of_eq ba_bind ?_)
  refine G_step (wpAny_of_eq (a := ()) rfl ?_)
  refine G_step (wpAny_of_eq (a := ()) rfl ?_)
  refine G_bind (G_noExport ho ?_)
  refine G_if_false rfl ?_
  refine G_step (ba_write (l' := []) ho rfl (by decide) fun h' hs ho' => ?_)
  exact G_pure (h h' hs ho')
end
end Mine

-- XR3
namespace Mine
open PySem PySem.W PySem.Spec PySem.Calls PyProof.Rows
section
variable {prog : Program} {w : World} {A : Around} {s : Shared}
theorem G_entry {id : String} {args : Args} {b : Builtin} {R : Result → Shared → Prop} (hf : freeC (.builtin id args) = true) (hb : entryFor table id = some b)
    (h : wpG (model prog w) (A.under (.builtin id args)) (b args) (fun fin s' => match fin with | .done f => R (.ok f) s' | .again c' => c'.quiet = true ∧ codeG (model prog w) A c' R s') s) : codeG (model prog w) A (.builtin id args) R s := by
  refine G_tree hf ?_
  show wpG _ _ (match entryFor table id with | some b => b args | none => unsupported ((withoutEnding? id "#data").getD id)) _ s
  rw [hb]
  exact h
theorem G_made {Q : Value → Shared → Prop} (h : ∀ h', Heap.SameBut s.heap.objs.size (s.heap.push (baO [])) h' → h'.get? s.heap.objs.size = some (baO []) → Q (.ref s.heap.objs.size) { s with heap := h' }) :
    wpG (model prog w) A (call (.type "bytearray") []) Q s := by
  refine G_call (G_tree rfl ?_)
  show wpG _ _ (callAny (.type "bytearray") _) _ _
  refine G_pure ⟨Code.quiet_builtin _ (by decide +kernel), G_entry (free_tcall _) F.entry_type_call ?_⟩
  rw [Around.under_plain (weight_type_call_type "bytearray" [] []) rfl]
  unfold Builtin.«type.__call__»
  dsimp only
  rw [if_neg (show ¬((Value.type "bytearray" == Value.type "type") = true) from by rw [ba_called.notType]; exact Bool.false_ne_true)]
  rw [if_neg (by rw [ba_called.canCreate]; exact Bool.false_ne_true)]
  refine G_step (wpAny_of_eq ba_typeCall ?_)
  refine G_step (wpAny_of_eq ba_mro ?_)
  refine G_if_false rfl ?_
  refine G_step (wpAny_of_eq ba_called.made ?_)
  refine G_step (wpAny_pure ?_)
  have ho : (s.heap.push (baO [])).get? s.heap.objs.size = some (baO []) := Heap.get?_push_size _ rfl
  refine G_step (wpAny_holding (wpAny_call (codeAny_mono (ba_new (E := eF) (Q₁ := fun v s' => v = .ref s.heap.objs.size ∧ s' = { s with heap := s.heap.push (baO []) }) ⟨rfl, rfl⟩) ?_)))
  intro r s' hr
  cases r with
  | error e => exact hr
  | ok fl =>
    cases fl with
    | ret v =>
      obtain ⟨rfl, rfl⟩ := hr
      refine G_step (wpAny_isInstance (ba_slot ho rfl) ba_sub ?_)
      refine G_if_false rfl ?_
      refine G_bind (G_holding ?_)
      unfold callSpecial?
      refine G_step (wpAny_specialOf (ba_slot ho rfl) ba_slot_init.lookup ?_)
      refine G_holding ?_
      simp only [ba_slot_init.bind]
      refine G_step (wpAny_pure ?_)
      refine G_bind (G_call (G_init ho fun h' hs ho' => ⟨_, rfl, ?_⟩))
      refine G_pure ?_
      refine G_if_false rfl ?_
      exact G_pure ⟨_, rfl, h h' hs ho'⟩
    | _ => exact hr.elim
end
end Mine

-- XR4
namespace Mine
open PySem PySem.W PySem.Spec PySem.Calls PyProof.Rows
theorem bb_no_bytes : typeLookup (.type "bytearray") "__bytes__" = pure none := by rw [typeLookup_type, builtinLookup_eq_fast]; kernel_rfl
theorem bb_no_index : typeLookup (.type "bytearray") "__index__" = pure none := by rw [typeLookup_type, builtinLookup_eq_fast]; kernel_rfl
theorem bb_buffer : typeLookup (.type "bytearray") "__buffer__" = pure (some (.builtin "bytearray.__buffer__")) := by rw [typeLookup_type, builtinLookup_eq_fast]; kernel_rfl
theorem bb_e1 : (!("bytearray.__buffer__".endsWith ("." ++ "__buffer__"))) = false := by decide +kernel
theorem bb_e2 : ("bytearray.__buffer__".dropRight ("__buffer__".length + 1)) = "bytearray" := by decide +kernel
section
variable {prog : Program} {w : World} {A : Around} {E : Value → Shared → Prop} {s : Shared}
theorem bb_slotOwn {M : Model} {D : Addr} {l : List Int} {Q : Bool → Shared → Prop} (ho : s.heap.get? D = some (baO l)) (h : Q true s) : wpAny M A (Builtin.Bytes.slotIsOwn (.ref D) "__buffer__") Q E s := by
  unfold Builtin.Bytes.slotIsOwn
  refine wpAny_bind (wpAny_specialOf (ba_slot ho rfl) bb_buffer ?_)
  dsimp only
  rw [bb_e1, bb_e2]
  refine bm_if_false rfl ?_
  exact wpAny_isInstance (ba_slot ho rfl) ba_sub h
theorem bb_buffer? {M : Model} {D : Addr} {l : List Int} {Q : Option (Array UInt8) → Shared → Prop} (ho : s.heap.get? D = some (baO l)) (h : Q (some (byteArr l)) s) :
    wpAny M A (Builtin.Bytes.buffer? "bytes.__new__" (.ref D) true) Q E s := by
  unfold Builtin.Bytes.buffer?
  refine wpAny_bind (wpAny_specialOf (ba_slot ho rfl) bb_buffer ?_)
  refine wpAny_bind (bb_slotOwn ho ?_)
  refine bm_if_false rfl ?_
  refine wpAny_bind (wpAny_specialOf (ba_slot ho rfl) bb_buffer ?_)
  refine wpAny_bind (ba_own ho rfl ?_)
  refine bm_if_false rfl ?_
  refine wpAny_bind ?_
  unfold Builtin.Bytes.payload Builtin.Bytes.payload?
  refine wpAny_bind (wpAny_bind (wpAny_load ho ?_))
  exact wpAny_pure (wpAny_pure (wpAny_pure h))
theorem bb_new {D : Addr} {l : List Int} {Q : Value → Shared → Prop} (ho : s.heap.get? D = some (baO l)) (hz : l.length ≤ 1000)
    (hQ : ∀ t k, Q (.bytes (byteArr l) t) { s with toks := k }) :
    codeAny (model prog w) A (.call (.builtin "bytes.__new__") ⟨[.type "bytes", .ref D], []⟩) (wants Q E) s := by
  refine codeAny_of_tree ?_
  show wpAny _ A.in1 (do checkBuiltinCall "bytes.__new__" ⟨[.type "bytes", .ref D], []⟩; again (.builtin "bytes.__new__" ⟨[.type "bytes", .ref D], []⟩)) _ _ s
  refine wpAny_bind (wpAny_of_eq (PySem.F.bm_newCall _) (wpAny_pure ⟨plainId_quiet PySem.F.bm_plain _, codeAny_builtin PySem.F.bm_entry ?_⟩))
  rw [Around.under_plainId PySem.F.bm_plain _]
  unfold Builtin.«bytes.__new__»
  refine wpAny_bind (wpAny_of_eq (a := true) rfl ?_)
  refine bm_if_false rfl ?_
  refine wpAny_bind (wpAny_of_eq PySem.F.bm_sub ?_)
  refine bm_if_false rfl ?_
  refine wpAny_bind (wpAny_of_eq (PySem.F.bm_bind _) ?_)
  refine wpAny_bind (wpAny_of_eq (a := ()) rfl ?_)
  refine wpAny_bind (wpAny_of_eq (a := ()) rfl ?_)
  refine bm_if_false rfl ?_
  refine wpAny_bind (wpAny_specialOf (ba_slot ho rfl) bb_no_bytes ?_)
  refine wpAny_bind (wpAny_bind ?_)
  show wpAny _ _ (load D >>= _) _ _ _
  refine wpAny_bind (wpAny_load ho ?_)
  refine wpAny_pure (wpAny_pure ?_)
  refine bm_if_false rfl ?_
  refine wpAny_bind (wpAny_specialOf (ba_slot ho rfl) bb_no_index ?_)
  refine bm_if_true rfl ?_
  first
    | show wpAny _ _ (Builtin.Bytes.buffer? "bytes.__new__" (.ref D) true >>= _) _ _ _
    | (refine wpAny_bind ?_; show wpAny _ _ (Builtin.Bytes.buffer? "bytes.__new__" (.ref D) true >>= _) _ _ _)
  refine wpAny_bind (bb_buffer? ho ?_)
  have hz' : (byteArr l).size ≤ sizeLine := by rw [byteArr_size, sizeLine_eq]; omega
  refine wpAny_bind (wpAny_rule ?_)
  refine wpAny_bind (wpAny_mkBytes ?_ hz')
  show wpAny _ _ (if (Value.type "bytes" == Value.type "bytes") = true then _ else _) _ _ _
  refine bm_if_true (by decide) ?_
  first
    | exact wpAny_pure (hQ _ _)
    | exact wpAny_bind (wpAny_pure (wpAny_pure (hQ _ _)))
theorem bytes_of_ba {D : Addr} {l : List Int} {Q : Value → Shared → Prop} (ho : s.heap.get? D = some (baO l)) (hz : l.length ≤ 1000)
    (hQ : ∀ t k, Q (.bytes (byteArr l) t) { s with toks := k }) : wpAny (model prog w) A (call (.type "bytes") [.ref D]) Q E s := by
  refine callType_codes (Q₁ := fun obj s₁ => s₁.TypeIs obj "bytes" ∧ Q obj s₁) PySem.F.bm_called (PySem.F.bm_typeCall _) PySem.F.entry_object_init
    (bb_new ho hz fun t k => ⟨PySem.W.typeIs_bytes _ _ _, hQ t k⟩) fun obj s₁ h₁ => ?_
  exact ⟨h₁.1, PySem.F.args_object_init_2 obj _, object_init_meets PySem.F.bm_called.init.lookup PySem.F.bm_called.made (by decide) prog w A.in1 _ s₁ ⟨h₁.1, rfl, h₁.2⟩⟩
end
end Mine

-- XSL
namespace Mine
open PySem PySem.W PySem.Spec PySem.Calls PyProof.Rows
theorem picked_B (ns : List Int) (lo hi : Option Int) : KBy.picked (byteArr ns) lo hi = byteArr ((ns.drop (lo.elim 0 (clipAt ns.length))).take (hi.elim ns.length (clipAt ns.length) - lo.elim 0 (clipAt ns.length))) := by
  rw [KBc.picked_eq, byteArr_size]
  unfold byteArr
  rw [List.map_take, List.map_drop]
section
variable {prog : Program} {w : World} {A : Around} {E : Value → Shared → Prop} {s : Shared} {value slice : PySem.Expr} {t : Tok} {h₀ : Heap} {L : Addr} {m : PySem.Str → Option Value} {news : List (Addr × Obj)} {Q : Value → Shared → Prop} {ns : List Int} {a b : Int} {ta tb : Tok}
theorem toNat_sub_at {a b : Int} (ha : 0 ≤ a) : b.toNat - a.toNat = (b - a).toNat := by omega
theorem slice_mid (hF : Fr h₀ L s.heap m) (hN : News h₀ L s.heap news) (ha : 0 ≤ a) (hab : a ≤ b) (hb : b ≤ (ns.length : Int)) (hz : ns.length ≤ 1000)
    (h : ∀ h' t' k, Fr h₀ L h' m → News h₀ L h' news → Q (.bytes (byteArr ((ns.drop a.toNat).take (b - a).toNat)) t') { s with heap := h', toks := k })
    (hs : subscripted slice false (.bytes (byteArr ns) t) (.ref s.heap.objs.size) = operate [.ref s.heap.objs.size, .bytes (byteArr ns) t] (getItem (.bytes (byteArr ns) t) (.ref s.heap.objs.size)) := by with_unfolding_all rfl)
    (ht : ∀ r, letTemporaryGo value (.bytes (byteArr ns) t) r = pure () := by intro _; with_unfolding_all rfl) :
    wpAny (model prog w) A (subscriptTail value slice (.bytes (byteArr ns) t) (.ref s.heap.objs.size)) Q E { s with heap := s.heap.push { cls := .type "slice", data := .fields #[.int a ta, .int b tb, .none] } } := by
  refine KBc.slice_K (lo := some a) (hi := some b) hF hN rfl (by constructor) (by constructor) (by rw [KBw.ints_length, byteArr_size]; omega) (fun h' t' k F' N' _ => ?_) hs ht
  rw [picked_B]
  have e1 : clipAt ns.length a = a.toNat := clipAt_in ha (Int.le_trans hab hb)
  have e2 : clipAt ns.length b = b.toNat := clipAt_in (Int.le_trans ha hab) hb
  simp only [Option.elim, e1, e2]
  rw [toNat_sub_at ha]
  exact h h' t' k F' N'
theorem slice_upto (hF : Fr h₀ L s.heap m) (hN : News h₀ L s.heap news) (hb0 : 0 ≤ b) (hb : b ≤ (ns.length : Int)) (hz : ns.length ≤ 1000)
    (h : ∀ h' t' k, Fr h₀ L h' m → News h₀ L h' news → Q (.bytes (byteArr (ns.take b.toNat)) t') { s with heap := h', toks := k })
    (hs : subscripted slice false (.bytes (byteArr ns) t) (.ref s.heap.objs.size) = operate [.ref s.heap.objs.size, .bytes (byteArr ns) t] (getItem (.bytes (byteArr ns) t) (.ref s.heap.objs.size)) := by with_unfolding_all rfl)
    (ht : ∀ r, letTemporaryGo value (.bytes (byteArr ns) t) r = pure () := by intro _; with_unfolding_all rfl) :
    wpAny (model prog w) A (subscriptTail value slice (.bytes (byteArr ns) t) (.ref s.heap.objs.size)) Q E { s with heap := s.heap.push { cls := .type "slice", data := .fields #[.none, .int b tb, .none] } } := by
  refine KBc.slice_K (lo := none) (hi := some b) hF hN rfl (by constructor) (by constructor) (by rw [KBw.ints_length, byteArr_size]; omega) (fun h' t' k F' N' _ => ?_) hs ht
  rw [picked_B]
  have e2 : clipAt ns.length b = b.toNat := clipAt_in hb0 hb
  simp only [Option.elim, e2, List.drop_zero, Nat.sub_zero]
  exact h h' t' k F' N'
end
theorem bi_bytes : typeLookup (.type "bytes") "__bytes__" = pure (some (.builtin "bytes.__bytes__")) := by rw [typeLookup_type, builtinLookup_eq_fast]; kernel_rfl
theorem bi_int_bytes : typeLookup (.type "int") "__bytes__" = pure none := by rw [typeLookup_type, builtinLookup_eq_fast]; kernel_rfl
theorem bi_int_index : typeLookup (.type "int") "__index__" = pure (some (.builtin "int.__index__")) := by rw [typeLookup_type, builtinLookup_eq_fast]; kernel_rfl
section
variable {prog : Program} {w : World} {A : Around} {E : Value → Shared → Prop} {s : Shared}
theorem bi_new {v : Value} {Q : Value → Shared → Prop} (h : wpAny (model prog w) A.in1 (Builtin.«bytes.__new__» ⟨[.type "bytes", v], []⟩) (fun fin s' => ∃ r, fin = .done (.ret r) ∧ Q r s') E s) :
    codeAny (model prog w) A (.call (.builtin "bytes.__new__") ⟨[.type "bytes", v], []⟩) (wants Q E) s := by
  refine codeAny_of_tree ?_
  show wpAny _ A.in1 (do checkBuiltinCall "bytes.__new__" ⟨[.type "bytes", v], []⟩; again (.builtin "bytes.__new__" ⟨[.type "bytes", v], []⟩)) _ _ s
  refine wpAny_bind (wpAny_of_eq (PySem.F.bm_newCall _) (wpAny_pure ⟨plainId_quiet PySem.F.bm_plain _, codeAny_builtin PySem.F.bm_entry ?_⟩))
  rw [Around.under_plainId PySem.F.bm_plain _]
  refine wpAny_mono h (fun fin s' h' => ?_) fun _ _ h' => h'
  obtain ⟨r, rfl, hq⟩ := h'
  exact hq
theorem bi_call {v : Value} {Q : Value → Shared → Prop} (h : codeAny (model prog w) A.in1 (.call (.builtin "bytes.__new__") ⟨[.type "bytes", v], []⟩) (wants (fun obj s₁ => s₁.TypeIs obj "bytes" ∧ Q obj s₁) E) s) : wpAny (model prog w) A (call (.type "bytes") [v]) Q E s := by
  refine callType_codes (Q₁ := fun obj s₁ => s₁.TypeIs obj "bytes" ∧ Q obj s₁) PySem.F.bm_called (PySem.F.bm_typeCall _) PySem.F.entry_object_init h fun obj s₁ h₁ => ?_
  exact ⟨h₁.1, PySem.F.args_object_init_2 obj _, object_init_meets PySem.F.bm_called.init.lookup PySem.F.bm_called.made (by decide) prog w A.in1 _ s₁ ⟨h₁.1, rfl, h₁.2⟩⟩
/-- bytes of bytes -/
theorem bytes_same {x : Array UInt8} {t : Tok} {Q : Value → Shared → Prop} (h : Q (.bytes x t) s) : wpAny (model prog w) A (call (.type "bytes") [.bytes x t]) Q E s := by
  refine bi_call (bi_new ?_)
  unfold Builtin.«bytes.__new__»
  refine wpAny_bind (wpAny_of_eq (a := true) rfl ?_)
  refine bm_if_false rfl ?_
  refine wpAny_bind (wpAny_of_eq PySem.F.bm_sub ?_)
  refine bm_if_false rfl ?_
  refine wpAny_bind (wpAny_of_eq (PySem.F.bm_bind _) ?_)
  refine wpAny_bind (wpAny_of_eq (a := ()) rfl ?_)
  refine wpAny_bind (wpAny_of_eq (a := ()) rfl ?_)
  refine bm_if_false rfl ?_
  refine wpAny_bind (wpAny_specialOf (typeIs_bytes _ _ _) bi_bytes ?_)
  refine wpAny_bind (wpAny_rule ?_)
  refine wpAny_bind (wpAny_typeOf (typeIs_bytes _ _ _) ?_)
  refine bm_if_true rfl ?_
  show wpAny _ _ (if (Value.type "bytes" == Value.type "bytes") = true then _ else _) _ _ _
  refine bm_if_true (by decide) ?_
  first
    | exact wpAny_pure ⟨_, rfl, typeIs_bytes _ _ _, h⟩
    | exact wpAny_bind (wpAny_pure (wpAny_pure ⟨_, rfl, typeIs_bytes _ _ _, h⟩))
/-- so many octets of nought -/
theorem bytes_count {n : Int} {t : Tok} {Q : Value → Shared → Prop} (hn0 : 0 ≤ n) (hn : n ≤ 1000) (h : ∀ t' k, Q (.bytes (byteArr (List.replicate n.toNat 0)) t') { s with toks := k }) : wpAny (model prog w) A (call (.type "bytes") [.int n t]) Q E s := by
  refine bi_call (bi_new ?_)
  unfold Builtin.«bytes.__new__»
  refine wpAny_bind (wpAny_of_eq (a := true) rfl ?_)
  refine bm_if_false rfl ?_
  refine wpAny_bind (wpAny_of_eq PySem.F.bm_sub ?_)
  refine bm_if_false rfl ?_
  refine wpAny_bind (wpAny_of_eq (PySem.F.bm_bind _) ?_)
  refine wpAny_bind (wpAny_of_eq (a := ()) rfl ?_)
  refine wpAny_bind (wpAny_of_eq (a := ()) rfl ?_)
  refine bm_if_false rfl ?_
  refine wpAny_bind (wpAny_specialOf (T := "int") rfl bi_int_bytes ?_)
  refine wpAny_bind (wpAny_of_eq (a := false) rfl ?_)
  refine bm_if_false rfl ?_
  refine wpAny_bind (wpAny_specialOf (T := "int") rfl bi_int_index ?_)
  refine bm_if_false rfl ?_
  refine wpAny_bind (wpAny_attempt (wpAny_of_eq (a := n) rfl ?_))
  dsimp only
  have p63 : (2 : Int) ^ 63 = 9223372036854775808 := by decide
  have f1 : (!Builtin.Bytes.fitsIndex n) = false := by
    unfold Builtin.Bytes.fitsIndex
    rw [p63]
    simp only [Bool.not_eq_false', Bool.and_eq_true, decide_eq_true_eq]
    omega
  refine bm_if_false f1 ?_
  have g1 : ¬ (n < 0) := by omega
  have g2 : ¬ (n > 2 ^ 63 - 34) := by
    rw [p63]
    omega
  rw [if_neg g1, if_neg g2]
  have f2 : Builtin.Bytes.tooLong n.toNat = false := by unfold Builtin.Bytes.tooLong; rw [sizeLine_eq]; exact decide_eq_false (by omega)
  refine bm_if_false f2 ?_
  refine wpAny_bind (wpAny_rule ?_)
  have e : (Array.replicate n.toNat (0 : UInt8)) = byteArr (List.replicate n.toNat 0) := by
    unfold byteArr
    rw [List.map_replicate, List.toArray_replicate]
    rfl
  have hz' : (Array.replicate n.toNat (0 : UInt8)).size ≤ sizeLine := by rw [Array.size_replicate, sizeLine_eq]; omega
  refine wpAny_bind (wpAny_mkBytes ?_ hz')
  rw [e]
  show wpAny _ _ (if (Value.type "bytes" == Value.type "bytes") = true then _ else _) _ _ _
  refine bm_if_true (by decide) ?_
  first
    | exact wpAny_pure ⟨_, rfl, typeIs_bytes _ _ _, h _ _⟩
    | exact wpAny_bind (wpAny_pure (wpAny_pure ⟨_, rfl, typeIs_bytes _ _ _, h _ _⟩))
end
end Mine

namespace Mine
open PySem PySem.W PySem.Spec PySem.Calls PyProof.Rows PyProof.V

local macro_rules | `(tactic| ktn_open) => `(tactic| ((case ho => k_is); (case hcd => k_is); (case hbind => exact fun s => BindsTo.of_eq rfl); (case hloc => exact locs rfl); (case hcell => decide); (case hco => exact rfl); (case hgen => exact rfl); (case hk => exact rfl); intro dp un gd outer base g L s B F N X T XB TB HX hdp hun; (try dsimp only); (try k_fold)))
local macro_rules | `(tactic| kwd_inv) => `(tactic| ((case ho => k_is); (case hcd => k_is); (case hbind => exact fun s => BindsTo.of_eq rfl); (case hkind => exact rfl); (case hnd => decide +kernel); (case hco => exact rfl); (case hgen => exact rfl); (case hk => exact rfl); intro dp un gd outer base g L s cells B F N Y X T XB TB HX hdp hun l1; (try k_lt l1); (k_cells Y); (try simp only [List.cons_append, List.nil_append] at N); (try dsimp only); (try k_fold)))
local macro_rules | `(tactic| kpt_turns) => `(tactic| ((fail_if_success (with_reducible show wpAny _ _ (exec (Stmt.For _ _ _ _ _) _) _ _ _)); (fail_if_success (with_reducible show wpAny _ _ (exec (Stmt.Raise _ _ _) _) _ _ _)); (fail_if_success (with_reducible show XRaised _ _ _ _)); (fail_if_success (with_reducible show wpAny _ _ (pyIter _) (fun it s₂ => LoopAtV _ _ _ _ _ _ _ _ _ it s₂) _ _)); (fail_if_success (with_reducible show wpAny _ _ (call (Value.ref 150) _) _ _ _)); (fail_if_success (with_reducible show Ended _ _ _ _ _ _)); (fail_if_success (with_reducible show EndedT _ _ _ _ _ _ _)); (fail_if_success (with_reducible show WhileEnd _ _ _ _ _ _ _ _ _)); (fail_if_success (with_reducible show wpAny _ _ (exec (Stmt.While _ _ _ _) _) _ _ _)); (fail_if_success (with_reducible show LoopEnd _ _ _ _ _ _ _ _ _)); (fail_if_success (with_reducible show TestEnd _ _ _ _ _ _ _ _ _)); (fail_if_success (with_reducible show EltEnd _ _ _ _ _ _ _ _ _)); (fail_if_success (with_reducible show wpAny _ _ (pyIter _) (fun it s₂ => CompUse _ _ _ _ _ _ _ _ _ _ _ _ _ _ it s₂) _ _)); (fail_if_success (with_reducible show wpAny _ _ (pyIter _) (fun it s₂ => CompUseA _ _ _ _ _ _ _ _ _ _ _ _ _ _ _ it s₂) _ _)); first | walk1 | (dsimp only; walk1)))
local macro_rules | `(tactic| tb_start) => `(tactic| repeat' (first | (k_unfold; (try dsimp only)) | kpt_turns))
local macro_rules | `(tactic| tbr_iter $n) => `(tactic| (with_reducible show wpAny _ _ (call (Value.ref $n) _) _ _ _))
local macro_rules | `(tactic| kqd_in) => `(tactic| ((case xB => assumption); (case xF => k_asm); (case xN => k_asm); (case xK => assumption); (case xT => assumption); (case xd => exact lt_dp (by assumption) (by decide)); (case xu => exact lt_un (by assumption) (by decide))))
local macro_rules | `(tactic| kqd_sub) => `(tactic| (intro t9 h9 tk9 F9 N9; (try k_sweep)))
local macro_rules | `(tactic| kxt_pos) => `(tactic| (intro v9 a9 b9 ta9 tb9 nn9 h9 tk9 F9 N9 hp9 ha9 hb9 hc9; (try dsimp only at N9); obtain ⟨d9, t9, hv9, hd9, he9⟩ := hp9; subst hv9; (try dsimp only); (try k_sweep)))
local macro_rules | `(tactic| ktf_call $t) => `(tactic| (refine' Spec.useP $t ?xB ?xF ?xN ?xK ?xT rfl rfl ?xd ?xu ?_; kqd_in))
local macro_rules | `(tactic| ktd_call $n $t) => `(tactic| ((tbr_iter $n); ktf_call $t))
local macro_rules | `(tactic| ktr_call $n $t) => `(tactic| ((tbr_iter $n); (refine' $t ?xB ?xF ?xN ?xK ?xT rfl rfl ?xd ?xu ?xU (fun _ h => nomatch h) (fun _ h => nomatch h) ?_; kqd_in; (case xU => k_updF))))
local macro_rules | `(tactic| ktn_call $n $t) => `(tactic| ((with_reducible show wpAny _ _ (call (Value.ref $n) [Value.str _ _]) _ _ _); k_dflt (refine' $t ?xB ?xF ?xK ?xT ?xk ?xd ?xu ?_; (case xB => assumption); (case xF => k_asm); (case xK => assumption); (case xT => assumption); (case xk => exact rfl); (case xd => omega); (case xu => omega)); intro h' e' tk' hx'))
local macro_rules | `(tactic| ktr_rel) => `(tactic| (rename Fr _ _ _ _ => lF'; (with_unfolding_all refine' For_invVF lF' ?k1 ?k2 ?_); (case k1 => exact rfl); (case k2 => exact rfl)))
local macro_rules | `(tactic| kst_allIn) => `(tactic| repeat' (first | exact List.forall_mem_nil _ | (refine' List.forall_mem_cons.mpr ⟨?kMem, ?_⟩; (case kMem => k_mem))))
local macro_rules | `(tactic| kst_all1) => `(tactic| repeat' (first | exact List.forall_mem_nil _ | (refine' List.forall_mem_cons.mpr ⟨?kMem, ?_⟩; (case kMem => (dsimp only; exact rfl)))))
local macro_rules | `(tactic| tb_rel) => `(tactic| ((try dsimp only); refine' ⟨[], _, _, _, rfl, ?F, News.nil, rfl, ?P⟩; (case F => k_asm)))
local macro_rules | `(tactic| walk_at "binaryOp Pow int int") => `(tactic| (refine' pow_int_small ?a ?b ?c ?_; (case a => omega); (case b => omega); (case c => decide)))
local macro_rules | `(tactic| walk_at "call builtin:list.append") => `(tactic| (k_here; (with_reducible show wpAny _ _ (call (Value.builtin _) [Value.ref _, _]) _ _ _); k_dflt (refine' append_K ?kA1 ?kA2 ?kA3 ?_ ?kAz; (case kA1 => k_asm); (case kA2 => k_asm); (case kA3 => k_upd); (case kAz => (rw [sizeLine_eq]; (try simp only [List.size_toArray]); omega)); k_whole); intro h' F' N'; (try k_sweep)))
local macro_rules | `(tactic| walk_at "subscriptTail") => `(tactic| (k_here; (with_reducible show wpAny _ _ (subscriptTail _ _ (Value.bytes (byteArr _) _) (Value.int _ _)) _ _ _); k_dflt (refine' item_B ?kO ?kL ?k0 ?k1 ?_; (case kO => assumption); (case kL => omega); (case k0 => omega); (case k1 => omega); k_whole)))
local macro_rules | `(tactic| walk_at "binaryOp Add bytes bytes") => `(tactic| (k_here; (with_reducible show wpAny _ _ (binaryOp Operator.Add (Value.bytes (byteArr _) _) (Value.bytes (byteArr _) _)) _ _ _); k_dflt (refine' add_B ?kz ?_; (case kz => first | omega | (simp only [List.length_append, bigs_length]; omega)); k_whole); intro _ _))

section
-- XS1
/-- has a number room in so many octets -/
def room (n k : Int) : Bool := decide (0 < k) && (decide (0 ≤ n + 2 ^ (8 * k - 1).toNat) && decide (n + 2 ^ (8 * k - 1).toNat < 2 ^ (8 * k).toNat))
set_option maxHeartbeats 400000 in
theorem s_room {w : World} {mean : ExcName → Option Value} {mg mb : Str → Option Value} {hx : Option Value} (n : Int) (t : Tok) (k : Int) (u : Tok) (hk : 0 ≤ k) (hk8 : k ≤ 9) :
    PuH hx w mean mg mb 164 [.int n t, .int k u] 1 (fun _ => .bool (room n k)) := by
  unfold PuH SPH; k_fill
  refine' spec_of (binds := [(Str.ofString "number", .int n t), (Str.ofString "size", .int k u)]) ?hb (by decide) ?ho ?hcd ?hbind ?hloc ?hcell ?hco ?hgen ?hk
  ktn_open
  tb_start
  all_goals tb_rel
  all_goals (refine ⟨0, congrArg Value.bool ?_⟩; unfold room; simp_all; try omega)
set_option maxHeartbeats 1000000 in
theorem s_init {w : World} {mean : ExcName → Option Value} {mg mb : Str → Option Value} (e C n : Addr) (msg : Str) (tk : Tok) {cd : ClassData} (hcd : clsIn (Hd.hd.heap_1 w.params) C = some cd) (hm : cd.mro = .ref C :: bmX) (hh : cd.hasDict = true) (htk : takerIn (Hd.hd.heap_1 w.params) C (Str.ofString "message") = some none)
    (hs : findIn (Hd.hd.heap_1 w.params) (.ref C) "__setattr__" = some (some (.builtin "object.__setattr__"))) :
    SP w mean mg mb 28 [.ref e, .str msg tk] [(e, excObj C n)] 1 (fun v o => v = .none ∧ ∃ d, o = [(e, { excObj C n with dict := some d })]) none := by
  unfold SP; k_fill
  refine' spec_of (binds := [(Str.ofString "self", .ref e), (Str.ofString "message", .str msg tk)]) ?hb (by decide) ?ho ?hcd ?hbind ?hloc ?hcell ?hco ?hgen ?hk
  ktn_open
  iterate 4 (first | (k_unfold; (try dsimp only)) | walk1 | (dsimp only; walk1))
  rename Fr _ _ _ _ => F1
  rename News _ _ _ _ => N1
  have X1 : (Hd.hd.heap_1 w.params).In _ := Frag.In.keeps (by assumption) F1.keep
  have he := N1 _ (.head _)
  refine x_set X1 he.1 rfl rfl rfl hcd hm hh htk hs rfl fun h' d k hx => ?_
  have F2 : Fr _ _ h' _ := ⟨F1.ns.at' fun o q => k _ _ (Ne.symm he.2.1) q, fun b o q => k b o (fun z => by rw [z, he.2.2] at q; cases q) (F1.keep b o q), F1.above⟩
  dsimp only
  tb_start
  exact ⟨_, _, _, _, rfl, F2, fun p hp => by rw [List.mem_singleton.mp hp]; exact ⟨hx, he.2⟩, rfl, d, rfl⟩
section
variable {w : World} {mean : ExcName → Option Value} {mg mb : Str → Option Value} {dp un : Nat} {gd : Option (List Code)} {outer : List Env} {base g : Heap} {L fa : Addr} {m : Str → Option Value} {s : Shared} {Q E : Value → Shared → Prop} {qual : Str} {scope : Scope} {cdv : Value}
/-- a class of the program's own under PagebaseError -/
structure OwnX (w : World) (C : Addr) : Prop where
  obj : ∃ nm q N bs hdct sn sub ab col dd k0 k1 k2 k3 k5, (Hd.hd.heap_1 w.params).lookup C = some (excClassObj nm q C N bs bmX hdct sn sub ab col dd k0 k1 k2 k3 k5 "Exception.__new__")
  cls : ∃ cd, clsIn (Hd.hd.heap_1 w.params) C = some cd ∧ cd.mro = .ref C :: bmX ∧ cd.hasDict = true
  taker : takerIn (Hd.hd.heap_1 w.params) C (Str.ofString "message") = some none
  set : findIn (Hd.hd.heap_1 w.params) (.ref C) "__setattr__" = some (some (.builtin "object.__setattr__"))
  call : specialIn (Hd.hd.heap_1 w.params) (.ref C) "__call__" = some (some (.builtin "type.__call__"))
  typ : instIn (Hd.hd.heap_1 w.params) (.ref C) (.type "type") = some true
  init : findIn (Hd.hd.heap_1 w.params) (.ref C) "__init__" = some (some (.ref 28))
  fn : typeIn (Hd.hd.heap_1 w.params) (.ref 28) = some (.type "function")
  self : mroIn (Hd.hd.heap_1 w.params) C (.ref C) = some true
theorem x_call {C : Addr} {msg : Str} {tk : Tok} (O : OwnX w C) (B : Below (Ar dp un gd outer) base outer g) (F : Fr g L s.heap m) (KB : (Hd.hd.heap_1 w.params).In base) (TB : TopV mean mg mb base)
    (hk : scope.kind = .function) (hd' : dp + 1 + 2 < recursionLimit) (hu : un + 3 + 1 + 8 < cLine)
    (hQ : ∀ h' e tk', NewX s.heap h' e C → Q (.ref e) { s with heap := h', toks := tk' }) :
    wpAny (model PySem.Challenge.rw_xm0753_01.row.prog w) ((Ar dp un gd outer).deeper (envOf qual scope L fa cdv)) (call (.ref C) [.str msg tk]) Q E s := by
  obtain ⟨nm, q, N, bs, hdct, sn, sub, ab, col, dd, k0, k1, k2, k3, k5, hO⟩ := O.obj
  obtain ⟨cd, hcd, hm, hh⟩ := O.cls
  have X₀ := (KB.keeps B.stays).keeps F.keep
  refine wpAny_call ?_
  obtain ⟨hp, ge, dr, tks, os⟩ := s
  refine x_make X₀ (X₀ _ _ hO) O.call O.typ (by
      unfold clsIn; rw [hO]) O.init O.fn O.self ?_ (by rw [sizeLine_eq]; show 1 ≤ 16777216; decide)
  show codeAny _ ((Ar (dp + 1) (un + 3) gd (envOf qual scope L fa cdv :: outer)).under _) _ _ _
  rw [under_tc]
  have F2 : Fr g L ((hp.push (tupObj [.str msg tk])).push (excObj C hp.objs.size)) m := (F.push _).push _
  have N2 : News g L ((hp.push (tupObj [.str msg tk])).push (excObj C hp.objs.size)) [(hp.objs.size + 1, excObj C hp.objs.size)] := by
    have := (News.nil (h₀ := g) (L := L) (h := hp.push (tupObj [.str msg tk]))).push (F.push _) (excObj C hp.objs.size)
    rwa [Heap.size_push] at this
  refine s_init (mean := mean) (mg := mg) (mb := mb) (hp.objs.size + 1) C hp.objs.size msg tk hcd hm hh O.taker O.set (dp + 1 + 1) (un + 3 + 1) gd (envOf qual scope L fa cdv) outer (Ar dp un gd outer) base g L m _ [] _ _ rfl hk B F2 N2 KB TB HG.no (by omega) (by omega) (fun _ h => h) (fun _ h => nomatch h) (fun _ h => nomatch h) (fun v own' h' tk' _ N' _ keep hP => ?_) (fun _ h => nomatch h)
  obtain ⟨rfl, d, rfl⟩ := hP
  refine ⟨rfl, hQ h' (hp.objs.size + 1) tk' ⟨fun b o e => ?_, Heap.get?_none_of_le (Nat.le_succ _), _, _, (N' _ (.head _)).1, rfl, rfl⟩⟩
  refine keep b o (Heap.get?_push_of_some _ (Heap.get?_push_of_some _ e)) fun z => ?_
  have := Heap.lt_size e
  rw [show b = hp.objs.size + 1 from by simpa using z] at this
  exact absurd this (Nat.not_lt.mpr (Nat.le_succ _))
end
theorem x_Raise {M : Model} {A : Around} {E : Value → Shared → Prop} {env : Env} {s : Shared} {C : Addr} {ex : Expr} {pos : Pos} {Q : Flow → Shared → Prop} (hh : A.handled = none)
    (h : wpAny M A (eval ex env) (XRaised C E) E s) : wpAny M A (exec (.Raise (some ex) none pos) env) Q E s := by
  rw [arm_exec_Raise]
  refine wpAny_bind (wpAny_standAt ?_)
  show wpAny M A (raiseStmt env (some (do let v ← eval ex env; standAt pos; pure v)) none) Q E s
  have h' : wpAny M A (do let v ← eval ex env; standAt pos; pure v) (XRaised C E) E s := wpAny_bind (wpAny_mono h (fun v s₁ z => wpAny_bind (wpAny_standAt (wpAny_pure z))) fun _ _ z => z)
  unfold raiseStmt
  refine wpAny_bind (wpAny_mono h' (fun v s₁ h₁ => ?_) fun _ _ x => x)
  obtain ⟨nm, q, N, bs, hdct, sn, sub, ab, col, dd, k0, k1, k2, k3, k5, e, ob, t, rfl, hC, he, hc, hdt, hE⟩ := h₁
  obtain ⟨hp, g, d, tk, os⟩ := s₁
  obtain ⟨oc, od, oda, osl⟩ := ob
  have hcB := x_base C
  dsimp only at hc hdt
  subst hc hdt
  repeat (first | with_reducible refine wpAny_loadPart_at he ?_ | with_reducible refine wpAny_loadPart_at hC ?_ | (with_reducible refine wpAny_isSubtype_exc hC ?_; rw [hcB]) | wp_step)
  exact wpAny_raiseNew_none hh hE
section
variable {M : Model} {A : Around} {E : Value → Shared → Prop} {s' : Shared} {base g h : Heap} {outer : List Env} {L a e C : Addr} {m : Str → Option Value} {name : Str} {scope : Scope} {cd : Value} {Q : Unit → Shared → Prop}
theorem x_leave_new (K : Below A base outer g) (hx : NewX h s'.heap e C) (F : Fr g L h m)
    (hQ : ∀ h', RaisedX base g outer e C h' → g.UpToSlots h' → Q () { s' with heap := h' }) (hk : scope.kind = .function := by rfl) :
    wpAny M (A.deeper (envOf name scope L a cd)) (leaving (envOf name scope L a cd) (.ref e)) Q E s' := by
  have K' := K.push (name := name) (a := a) (cd := cd) F hk
  have hin : ∀ env ∈ (envOf name scope L a cd :: outer), ∀ b, env.frame = some b → b ∈ (envOf name scope L a cd :: outer).filterMap (·.frame) := fun env he b hb => List.mem_filterMap.mpr ⟨env, he, hb⟩
  have st : base.StaysIn (hideAll h ((envOf name scope L a cd :: outer).filterMap (·.frame))) := fun b o q => hideAll_get _ (K'.stays b o q) fun hm => by
    rw [(K'.frames.mem hm).1] at q; cases q
  have sg : ∀ b o, g.get? b = some o → b ∉ outer.filterMap (·.frame) → (hideAll h ((envOf name scope L a cd :: outer).filterMap (·.frame))).get? b = some o := fun b o q nm => hideAll_get _ (F.keep b o q) fun hm => by
    rcases kts_mem hm with z | z
    · rw [z, kts_self F] at q
      cases q
    · exact nm z
  obtain ⟨ob, tp, he, hcls, hd⟩ := hx.there
  have hen : (hideAll h ((envOf name scope L a cd :: outer).filterMap (·.frame))).get? e = none := by
    cases q : (hideAll h ((envOf name scope L a cd :: outer).filterMap (·.frame))).get? e with
    | none => rfl
    | some o => have := of_hideAll _ q; rw [hx.new] at this; cases this
  refine first_X (a0 := tp) K'.stack ((funFrames_hide K'.frames hin).of_keeps fun b o hb _ => ⟨o, hx.keeps b o hb, rfl⟩) rfl he (fun b o hb => hx.keeps b o (of_hideAll _ hb)) hen hd rfl rfl rfl fun h' hL y k4 => ?_
  rw [hcls] at hL
  have R : RaisedX base g outer e C h' := ⟨⟨_, tp, st, sg, (fun _ hq => nomatch hq), hL⟩, y⟩
  exact hQ h' R (((Heap.UpToSlots.of_keeps F.keep).trans (Heap.UpToSlots.of_keeps hx.keeps)).trans k4)
end
theorem x_raised {w : World} {C e : Addr} {h : Heap} {s₁ : Shared} {E : Value → Shared → Prop} (O : OwnX w C) (X : (Hd.hd.heap_1 w.params).In h) (hx : NewX h s₁.heap e C) (hE : E (.ref e) s₁) : XRaised C E (.ref e) s₁ := by
  obtain ⟨nm, q, N, bs, hdct, sn, sub, ab, col, dd, k0, k1, k2, k3, k5, hO⟩ := O.obj
  obtain ⟨ob, tp, he, hcls, hd⟩ := hx.there
  exact ⟨nm, q, N, bs, hdct, sn, sub, ab, col, dd, k0, k1, k2, k3, k5, e, ob, tp, rfl, hx.keeps _ _ (X _ _ hO), he, hcls, hd, hE⟩
theorem ownX_of {w : World} {C : Addr} {nm q : Str} {N : Addr} {bs : List Value} {hdct : Bool} {sn : List Str} {sub : List Value} {ab : Bool} {col : Option Bool} {dd : Option Addr} {k0 k1 k2 k3 k5 : Option Value} {cd : ClassData}
    (a : (Hd.hd.heap_1 w.params).lookup C = some (excClassObj nm q C N bs bmX hdct sn sub ab col dd k0 k1 k2 k3 k5 "Exception.__new__")) (b : clsIn (Hd.hd.heap_1 w.params) C = some cd) (b2 : cd.mro = .ref C :: bmX) (b3 : cd.hasDict = true)
    (c : takerIn (Hd.hd.heap_1 w.params) C (Str.ofString "message") = some none) (d : findIn (Hd.hd.heap_1 w.params) (.ref C) "__setattr__" = some (some (.builtin "object.__setattr__"))) (e : specialIn (Hd.hd.heap_1 w.params) (.ref C) "__call__" = some (some (.builtin "type.__call__")))
    (f : instIn (Hd.hd.heap_1 w.params) (.ref C) (.type "type") = some true) (g : findIn (Hd.hd.heap_1 w.params) (.ref C) "__init__" = some (some (.ref 28))) (h : typeIn (Hd.hd.heap_1 w.params) (.ref 28) = some (.type "function")) (i : mroIn (Hd.hd.heap_1 w.params) C (.ref C) = some true) : OwnX w C :=
  ⟨⟨_, _, _, _, _, _, _, _, _, _, _, _, _, _, _, a⟩, ⟨cd, b, b2, b3⟩, c, d, e, f, g, h, i⟩
theorem ownX_56 (w : World) : OwnX w 56 := by
  refine' ownX_of ?a ?b ?b2 ?b3 ?c ?d ?e ?f ?g ?h ?i
  case a => k_is
  case b => k_is
  case b2 => rfl
  case b3 => rfl
  case c => k_is
  case d => k_is
  case e => k_is
  case f => k_is
  case g => k_is
  case h => k_is
  case i => k_is
theorem ownX_44 (w : World) : OwnX w 44 := by
  refine' ownX_of ?a ?b ?b2 ?b3 ?c ?d ?e ?f ?g ?h ?i
  case a => k_is
  case b => k_is
  case b2 => rfl
  case b3 => rfl
  case c => k_is
  case d => k_is
  case e => k_is
  case f => k_is
  case g => k_is
  case h => k_is
  case i => k_is
local macro_rules | `(tactic| walk_at "call ref") => `(tactic| ktn_call 56 (x_call (ownX_56 _)))
local macro_rules | `(tactic| walk_at "call ref") => `(tactic| ktn_call 44 (x_call (ownX_44 _)))
/-- the type of a whole number; none beyond 64 bits -/
def ntype (n : Int) : Option Int :=
  if n = 0 then some 8 else if n = 1 then some 9 else
  if -128 ≤ n ∧ n < 128 then some 1 else if -32768 ≤ n ∧ n < 32768 then some 2 else if -8388608 ≤ n ∧ n < 8388608 then some 3 else
  if -2147483648 ≤ n ∧ n < 2147483648 then some 4 else if -140737488355328 ≤ n ∧ n < 140737488355328 then some 5 else
  if -9223372036854775808 ≤ n ∧ n < 9223372036854775808 then some 6 else none
abbrev nsz : List Int := [0, 1, 2, 3, 4, 6, 8]
/-- the types that have room -/
def lawKinds (n : Int) : List Int := [1, 2, 3, 4, 5, 6].filter fun k => room n (nsz.getD k.toNat 0)
def testV (n : Int) : Value → Bool
  | .int k _ => room n (nsz.getD k.toNat 0)
  | _ => false
theorem kinds_of (n : Int) {vs : List Value} (hl : vs.length = 6) (hv : ∀ (j : Nat) v, vs[j]? = some v → j < 6 ∧ ∃ t, v = .int (1 + (j : Int) * 1) t) {ys : List Value} (hp : Paired (fun v y => y = v) (vs.filter (testV n)) ys) : IntsAre ys (lawKinds n) := by
  have hy : ys = vs.filter (testV n) := by
    clear hv hl
    generalize vs.filter (testV n) = zs at hp
    induction hp with
    | nil => rfl
    | cons e _ ih => rw [e, ih]
  obtain ⟨a, v1, rfl⟩ := List.exists_cons_of_length_eq_add_one hl
  obtain ⟨b, v2, rfl⟩ := List.exists_cons_of_length_eq_add_one (Nat.succ.inj hl)
  obtain ⟨c, v3, rfl⟩ := List.exists_cons_of_length_eq_add_one (Nat.succ.inj (Nat.succ.inj hl))
  obtain ⟨d, v4, rfl⟩ := List.exists_cons_of_length_eq_add_one (Nat.succ.inj (Nat.succ.inj (Nat.succ.inj hl)))
  obtain ⟨e, v5, rfl⟩ := List.exists_cons_of_length_eq_add_one (Nat.succ.inj (Nat.succ.inj (Nat.succ.inj (Nat.succ.inj hl))))
  obtain ⟨f, v6, rfl⟩ := List.exists_cons_of_length_eq_add_one (Nat.succ.inj (Nat.succ.inj (Nat.succ.inj (Nat.succ.inj (Nat.succ.inj hl)))))
  obtain rfl := List.eq_nil_of_length_eq_zero (Nat.succ.inj (Nat.succ.inj (Nat.succ.inj (Nat.succ.inj (Nat.succ.inj (Nat.succ.inj hl))))))
  · skip
    obtain ⟨_, t0, rfl⟩ := hv 0 a rfl
    obtain ⟨_, t1, rfl⟩ := hv 1 b rfl
    obtain ⟨_, t2, rfl⟩ := hv 2 c rfl
    obtain ⟨_, t3, rfl⟩ := hv 3 d rfl
    obtain ⟨_, t4, rfl⟩ := hv 4 e rfl
    obtain ⟨_, t5, rfl⟩ := hv 5 f rfl
    rw [hy]
    have key : ∀ (l : List (Int × Tok)), IntsAre ((l.map fun p => Value.int p.1 p.2).filter (testV n)) ((l.map (·.1)).filter fun k => room n (nsz.getD k.toNat 0)) := by
      intro l
      induction l with
      | nil => exact .nil
      | cons p l ih =>
        rw [List.map_cons, List.map_cons, List.filter_cons, List.filter_cons]
        show IntsAre (if room n (nsz.getD p.1.toNat 0) = true then _ else _) (if room n (nsz.getD p.1.toNat 0) = true then _ else _)
        split
        · exact .cons _ _ ih
        · exact ih
    exact key [(1, t0), (2, t1), (3, t2), (4, t3), (5, t4), (6, t5)]
theorem kinds_head (n : Int) (h0 : n ≠ 0) (h1 : n ≠ 1) : (lawKinds n).head? = ntype n := by
  unfold lawKinds ntype
  rw [if_neg h0, if_neg h1]
  simp only [List.filter_cons, List.filter_nil]
  have e1 : room n (nsz.getD (1 : Int).toNat 0) = decide (-128 ≤ n ∧ n < 128) := by
    rw [show nsz.getD (1 : Int).toNat 0 = 1 from rfl]; unfold room; rw [show (2 : Int) ^ (8 * 1 - 1 : Int).toNat = 128 from rfl, show (2 : Int) ^ (8 * 1 : Int).toNat = 256 from rfl]
    rw [← Bool.decide_and, ← Bool.decide_and]; congr 1; apply propext; omega
  have e2 : room n (nsz.getD (2 : Int).toNat 0) = decide (-32768 ≤ n ∧ n < 32768) := by
    rw [show nsz.getD (2 : Int).toNat 0 = 2 from rfl]; unfold room; rw [show (2 : Int) ^ (8 * 2 - 1 : Int).toNat = 32768 from rfl, show (2 : Int) ^ (8 * 2 : Int).toNat = 65536 from rfl]
    rw [← Bool.decide_and, ← Bool.decide_and]; congr 1; apply propext; omega
  have e3 : room n (nsz.getD (3 : Int).toNat 0) = decide (-8388608 ≤ n ∧ n < 8388608) := by
    rw [show nsz.getD (3 : Int).toNat 0 = 3 from rfl]; unfold room; rw [show (2 : Int) ^ (8 * 3 - 1 : Int).toNat = 8388608 from rfl, show (2 : Int) ^ (8 * 3 : Int).toNat = 16777216 from rfl]
    rw [← Bool.decide_and, ← Bool.decide_and]; congr 1; apply propext; omega
  have e4 : room n (nsz.getD (4 : Int).toNat 0) = decide (-2147483648 ≤ n ∧ n < 2147483648) := by
    rw [show nsz.getD (4 : Int).toNat 0 = 4 from rfl]; unfold room; rw [show (2 : Int) ^ (8 * 4 - 1 : Int).toNat = 2147483648 from rfl, show (2 : Int) ^ (8 * 4 : Int).toNat = 4294967296 from rfl]
    rw [← Bool.decide_and, ← Bool.decide_and]; congr 1; apply propext; omega
  have e5 : room n (nsz.getD (5 : Int).toNat 0) = decide (-140737488355328 ≤ n ∧ n < 140737488355328) := by
    rw [show nsz.getD (5 : Int).toNat 0 = 6 from rfl]; unfold room; rw [show (2 : Int) ^ (8 * 6 - 1 : Int).toNat = 140737488355328 from rfl, show (2 : Int) ^ (8 * 6 : Int).toNat = 281474976710656 from rfl]
    rw [← Bool.decide_and, ← Bool.decide_and]; congr 1; apply propext; omega
  have e6 : room n (nsz.getD (6 : Int).toNat 0) = decide (-9223372036854775808 ≤ n ∧ n < 9223372036854775808) := by
    rw [show nsz.getD (6 : Int).toNat 0 = 8 from rfl]; unfold room; rw [show (2 : Int) ^ (8 * 8 - 1 : Int).toNat = 9223372036854775808 from rfl, show (2 : Int) ^ (8 * 8 : Int).toNat = 18446744073709551616 from rfl]
    rw [← Bool.decide_and, ← Bool.decide_and]; congr 1; apply propext; omega
  rw [e1, e2, e3, e4, e5, e6]
  simp only [decide_eq_true_eq]
  (repeat' split) <;> first | rfl | omega
end

section
-- XLT
local macro_rules | `(tactic| walk_at "call ref") => `(tactic| (k_dflt (ktd_call 164 (s_room _ _ _ _ ?p1 ?p2); (case p1 => first | omega | assumption); (case p2 => first | omega | assumption)); kqd_sub))
local macro_rules | `(tactic| walk_at "eval Name") => `(tactic| (k_inBlock; (rename NsObj _ _ => hnX); k_dflt (refine' blk_name ?nN hnX ?nM ?nL ?nK ?nX ?nV ?nD ?_; (case nN => k_asm); (case nM => k_mem); (case nL => rfl); (case nK => rfl); (case nX => rfl); (case nV => assumption); (case nD => decide))))
def lk (n : Int) (i : Nat) : List Int := ([1, 2, 3, 4, 5, 6].take i).filter fun k => room n (nsz.getD k.toNat 0)
theorem lk_step (n : Int) {i : Nat} (hi : i < 6) : lk n (i + 1) = if room n (nsz.getD (1 + (i : Int) * 1).toNat 0) then lk n i ++ [1 + (i : Int) * 1] else lk n i := by
  have e : ([1, 2, 3, 4, 5, 6] : List Int).take (i + 1) = ([1, 2, 3, 4, 5, 6] : List Int).take i ++ [1 + (i : Int) * 1] := by
    rcases (by omega : i = 0 ∨ i = 1 ∨ i = 2 ∨ i = 3 ∨ i = 4 ∨ i = 5) with rfl | rfl | rfl | rfl | rfl | rfl <;> rfl
  unfold lk
  rw [e, List.filter_append]
  split
  · next h => rw [show List.filter (fun k => room n (nsz.getD k.toNat 0)) [1 + (i : Int) * 1] = [1 + (i : Int) * 1] from by rw [List.filter_cons, if_pos h]; rfl]
  · next h => rw [show List.filter (fun k => room n (nsz.getD k.toNat 0)) [1 + (i : Int) * 1] = [] from by rw [List.filter_cons, if_neg h]; rfl, List.append_nil]
theorem nsz_le {i : Nat} (hi : i < 6) : 0 ≤ nsz.getD (1 + (i : Int) * 1).toNat 0 ∧ nsz.getD (1 + (i : Int) * 1).toNat 0 ≤ 9 := by
  rcases (by omega : i = 0 ∨ i = 1 ∨ i = 2 ∨ i = 3 ∨ i = 4 ∨ i = 5) with rfl | rfl | rfl | rfl | rfl | rfl <;> decide
theorem ne_empty_cons {prog : Program} {w : World} {dp un : Nat} {gd : Option (List Code)} {outer : List Env} {hx : Option Value} {env : Env} {E Q : Value → Shared → Prop} {s : Shared} {g : Heap} {L a b : Addr} {news : List (Addr × Obj)} {x : Value} {xs : List Value} {nn mm : Nat}
    (N : News g L s.heap news) (ha : (a, listOf (x :: xs).toArray nn) ∈ news) (hb : (b, listOf #[] mm) ∈ news) (hu : un + 3 < cLine) (h : Q (.bool true) s) : wpAny (model prog w) ((ArH hx dp un gd outer).deeper env) (compareOp .NotEq (.ref a) (.ref b)) Q E s :=
  SeqAt.RcNeAt.lists_lengths (items := (x :: xs).toArray) (items2 := #[]) ⟨_, (N _ ha).1, rfl, _, rfl⟩ ⟨_, (N _ hb).1, rfl, _, rfl⟩ (by simp) hu prog w E Q h
theorem ne_empty_nil {prog : Program} {w : World} {dp un : Nat} {gd : Option (List Code)} {outer : List Env} {hx : Option Value} {env : Env} {E Q : Value → Shared → Prop} {s : Shared} {g : Heap} {L a b : Addr} {news : List (Addr × Obj)} {nn mm : Nat}
    (N : News g L s.heap news) (ha : (a, listOf #[] nn) ∈ news) (hb : (b, listOf #[] mm) ∈ news) (hu : un + 3 < cLine) (h : Q (.bool false) s) : wpAny (model prog w) ((ArH hx dp un gd outer).deeper env) (compareOp .NotEq (.ref a) (.ref b)) Q E s :=
  SeqAt.RcNeAt.lists (items := #[]) (items2 := #[]) (e := fun _ => true) ⟨_, (N _ ha).1, rfl, _, rfl⟩ ⟨_, (N _ hb).1, rfl, _, rfl⟩ rfl hu (fun j h1 _ => absurd h1 (by simp)) prog w E Q (by simpa using h)
local macro_rules | `(tactic| walk_at "compareOp NotEq ref ref") => `(tactic| (k_here; k_dflt (first | (refine' ne_empty_cons ?nA ?nB ?nC ?nD ?_; (case nA => k_asm); (case nB => k_mem); (case nC => k_mem); (case nD => omega)) | (refine' ne_empty_nil ?nA ?nB ?nC ?nD ?_; (case nA => k_asm); (case nB => k_mem); (case nC => k_mem); (case nD => omega)))))
set_option maxHeartbeats 1000000 in
theorem s_lt {w : World} {mean : ExcName → Option Value} {mg mb : Str → Option Value} {hx : Option Value} (n : Int) (t : Tok) :
    PuH hx w mean mg mb 176 [.int n t] 4 (fun t => match ntype n with | some k => .int k t | none => .none) := by
  unfold PuH SPH; k_fill
  refine' spec_ofC (binds := [(Str.ofString "number", .int n t)]) ?hb (by decide) ?ho ?hcd ?hbind ?hkind ?hnd ?hco ?hgen ?hk
  kwd_inv
  repeat' (first | (k_unfold; (try dsimp only)) | ((fail_if_success (with_reducible show wpAny _ _ (exec (Stmt.Assign _ _ _) _) _ _ _)); (fail_if_success (with_reducible show Ended _ _ _ _ _ _)); first | walk1 | (dsimp only; walk1)))
  all_goals try (exact (by
    tb_rel
    (first | (rename n = 0 => e; subst e) | (rename n = 1 => e; subst e))
    exact ⟨_, rfl⟩))
  rename Fr _ _ _ _ => F1
  rename News _ _ _ _ => N1
  refine assign_comp_own rfl rfl rfl (by decide) rfl rfl ?_
  try k_fold
  tb_start
  rename Fr _ _ _ _ => F2
  rename News _ _ _ _ => N2
  rename IsRange _ _ _ _ _ _ _ _ => R2
  refine range_compA (σ := Unit) (n := 6) (fun _ => _) (adrs _) (fun _ => rfl) (fun i ys _ => IntsAre ys (lk n i) ∧ ys.length ≤ i) (fun i ys _ v => IntsAre ys (lk n i) ∧ ys.length ≤ i ∧ room n (nsz.getD (1 + (i : Int) * 1).toNat 0) = true) ()
    (by assumption) R2 (by decide) (by decide) (by rw [sizeLine_eq]; decide) (by decide) rfl rfl F2 N2 ⟨.nil, Nat.zero_le _⟩ (fun _ _ _ h => h.2) (fun _ _ _ _ h => h.2.1) ?tests ?elt ?done
  case tests =>
    intro I D C
    refine ctests_one ?_
    rintro i ys c v h tk oI oD oC mC E' hi ⟨_, t1, rfl⟩ ⟨hys, hyl⟩ hO hm F3 N3
    clear F2 N2
    have hle1 := (nsz_le hi).1
    have hle2 := (nsz_le hi).2
    try k_fold
    tb_start
    all_goals (
      refine ⟨_, _, rfl, ?F, ?N, ?P1, ?P2⟩
      (case F => k_asm)
      (case N => (refine News.sub (by assumption) ?_; (try dsimp only [List.cons_append, List.nil_append]); kst_allIn))
      case P1 => intro hh; exact ⟨by rw [lk_step n hi, if_neg (by rw [hh]; decide)]; exact hys, Nat.le_succ_of_le hyl⟩
      case P2 => intro hh; exact ⟨hys, hyl, hh⟩)
  case elt =>
    intro I D C
    refine celt_mk ?_
    rintro i ys c v h tk oI oD oC mC E' hi ⟨_, t1, rfl⟩ ⟨hys, hyl, hroom⟩ hO hm F3 N3 _
    clear F2 N2
    try k_fold
    tb_start
    refine ⟨_, _, (), rfl, ?F, ?N, ?P⟩
    (case F => k_asm)
    (case N => (refine News.sub (by assumption) ?_; (try dsimp only [List.cons_append, List.nil_append]); kst_allIn))
    case P => exact ⟨by rw [lk_step n hi, if_pos hroom]; exact hys.append (.cons _ _ .nil), by rw [List.length_append]; exact Nat.succ_le_succ hyl⟩
  case done =>
    rintro D h' tk ys nn c ⟨hys, hyl⟩ hne F4 N4
    clear F2 N2
    generalize hq : lk n 6 = q at hys
    have hr : ntype n = q.head? := by rw [← hq, ← kinds_head n (by assumption) (by assumption)]; rfl
    clear hq
    try k_fold
    cases hys with
    | nil =>
      tb_start
      tb_rel
      exact ⟨0, by rw [hr]; rfl⟩
    | cons k t1 hys =>
      tb_start
      tb_rel
      exact ⟨_, by rw [hr]; rfl⟩
theorem ntype_in {n k : Int} (h : ntype n = some k) : 1 ≤ k ∧ k ≤ 9 := by
  unfold ntype at h
  (repeat' split at h) <;> first | (cases h; decide) | cases h
theorem s_lt_some {w : World} {mean : ExcName → Option Value} {mg mb : Str → Option Value} {hx : Option Value} {n k : Int} {t : Tok} (h : ntype n = some k) : PuH hx w mean mg mb 176 [.int n t] 4 (fun t => .int k t) := by
  have := s_lt (w := w) (mean := mean) (mg := mg) (mb := mb) (hx := hx) n t
  rw [h] at this
  exact this
theorem s_lt_none {w : World} {mean : ExcName → Option Value} {mg mb : Str → Option Value} {hx : Option Value} {n : Int} {t : Tok} (h : ntype n = none) : PuH hx w mean mg mb 176 [.int n t] 4 (fun _ => .none) := by
  have := s_lt (w := w) (mean := mean) (mg := mg) (mb := mb) (hx := hx) n t
  rw [h] at this
  exact this
end

section
-- XNT
local macro_rules | `(tactic| walk_at "call ref") => `(tactic| (k_dflt (ktd_call 164 (s_room _ _ _ _ ?p1 ?p2); (case p1 => first | omega | assumption); (case p2 => first | omega | assumption)); kqd_sub))
local macro_rules | `(tactic| walk_at "call ref") => `(tactic| ktn_call 56 (x_call (ownX_56 _)))
local macro_rules | `(tactic| walk_at "call ref") => `(tactic| ktn_call 44 (x_call (ownX_44 _)))
local macro_rules | `(tactic| walk_at "binaryOp Pow int int") => `(tactic| (refine' pow_gen ?a ?b ?c ?_; (case a => first | omega | decide); (case b => first | omega | decide); (case c => decide); intro p' hp'))
abbrev psN (n : Value) (c : Unit) : List (Str × Value) := [(Str.ofString "n", n)]
theorem sizes6 : ∀ i ∈ List.range 6, 1 ≤ ([0, 1, 2, 3, 4, 6, 8] : List Int).getD (1 + (i : Int)).toNat 0 ∧ ([0, 1, 2, 3, 4, 6, 8] : List Int).getD (1 + (i : Int)).toNat 0 ≤ 8 := by decide
theorem half6 {i : Nat} (hi : i < 6) {p : Int} (hp : p = 256 ^ (([0, 1, 2, 3, 4, 6, 8] : List Int).getD (1 + (i : Int)).toNat 0).toNat) :
    (i = 0 ∧ p = 256) ∨ (i = 1 ∧ p = 65536) ∨ (i = 2 ∧ p = 16777216) ∨ (i = 3 ∧ p = 4294967296) ∨ (i = 4 ∧ p = 281474976710656) ∨ (i = 5 ∧ p = 18446744073709551616) := by
  have : ∀ i ∈ List.range 6, (i = 0 ∧ (256 : Int) ^ (([0, 1, 2, 3, 4, 6, 8] : List Int).getD (1 + (i : Int)).toNat 0).toNat = 256) ∨ (i = 1 ∧ (256 : Int) ^ (([0, 1, 2, 3, 4, 6, 8] : List Int).getD (1 + (i : Int)).toNat 0).toNat = 65536) ∨ (i = 2 ∧ (256 : Int) ^ (([0, 1, 2, 3, 4, 6, 8] : List Int).getD (1 + (i : Int)).toNat 0).toNat = 16777216) ∨ (i = 3 ∧ (256 : Int) ^ (([0, 1, 2, 3, 4, 6, 8] : List Int).getD (1 + (i : Int)).toNat 0).toNat = 4294967296) ∨ (i = 4 ∧ (256 : Int) ^ (([0, 1, 2, 3, 4, 6, 8] : List Int).getD (1 + (i : Int)).toNat 0).toNat = 281474976710656) ∨ (i = 5 ∧ (256 : Int) ^ (([0, 1, 2, 3, 4, 6, 8] : List Int).getD (1 + (i : Int)).toNat 0).toNat = 18446744073709551616) := by decide +kernel
  rw [hp]; exact this i (List.mem_range.mpr hi)
/-- not of the first types -/
def notYet (n : Int) (i : Nat) : Prop :=
  (1 ≤ i → ¬(-128 ≤ n ∧ n < 128)) ∧ (2 ≤ i → ¬(-32768 ≤ n ∧ n < 32768)) ∧ (3 ≤ i → ¬(-8388608 ≤ n ∧ n < 8388608)) ∧ (4 ≤ i → ¬(-2147483648 ≤ n ∧ n < 2147483648)) ∧ (5 ≤ i → ¬(-140737488355328 ≤ n ∧ n < 140737488355328)) ∧ (6 ≤ i → ¬(-9223372036854775808 ≤ n ∧ n < 9223372036854775808))
theorem nt_at {n p : Int} {i : Nat} (h0 : n ≠ 0) (h1 : n ≠ 1) (hp : (i = 0 ∧ p = 256) ∨ (i = 1 ∧ p = 65536) ∨ (i = 2 ∧ p = 16777216) ∨ (i = 3 ∧ p = 4294967296) ∨ (i = 4 ∧ p = 281474976710656) ∨ (i = 5 ∧ p = 18446744073709551616)) (hn : notYet n i)
    (h : -(p / 2) ≤ n ∧ n < p / 2) : ntype n = some (1 + (i : Int)) := by
  obtain ⟨a1, a2, a3, a4, a5, a6⟩ := hn
  unfold ntype
  rw [if_neg h0, if_neg h1]
  rcases hp with ⟨rfl, rfl⟩ | ⟨rfl, rfl⟩ | ⟨rfl, rfl⟩ | ⟨rfl, rfl⟩ | ⟨rfl, rfl⟩ | ⟨rfl, rfl⟩
  · exact if_pos h
  · rw [if_neg (a1 (by decide))]; exact if_pos h
  · rw [if_neg (a1 (by decide)), if_neg (a2 (by decide))]; exact if_pos h
  · rw [if_neg (a1 (by decide)), if_neg (a2 (by decide)), if_neg (a3 (by decide))]; exact if_pos h
  · rw [if_neg (a1 (by decide)), if_neg (a2 (by decide)), if_neg (a3 (by decide)), if_neg (a4 (by decide))]; exact if_pos h
  · rw [if_neg (a1 (by decide)), if_neg (a2 (by decide)), if_neg (a3 (by decide)), if_neg (a4 (by decide)), if_neg (a5 (by decide))]; exact if_pos h
theorem nt_step {n p : Int} {i : Nat} (hp : (i = 0 ∧ p = 256) ∨ (i = 1 ∧ p = 65536) ∨ (i = 2 ∧ p = 16777216) ∨ (i = 3 ∧ p = 4294967296) ∨ (i = 4 ∧ p = 281474976710656) ∨ (i = 5 ∧ p = 18446744073709551616)) (hn : notYet n i)
    (h : ¬(-(p / 2) ≤ n ∧ n < p / 2)) : notYet n (i + 1) := by
  obtain ⟨a1, a2, a3, a4, a5, a6⟩ := hn
  rcases hp with ⟨rfl, rfl⟩ | ⟨rfl, rfl⟩ | ⟨rfl, rfl⟩ | ⟨rfl, rfl⟩ | ⟨rfl, rfl⟩ | ⟨rfl, rfl⟩
  · exact ⟨fun _ => h, fun q => absurd q (by decide), fun q => absurd q (by decide), fun q => absurd q (by decide), fun q => absurd q (by decide), fun q => absurd q (by decide)⟩
  · exact ⟨fun _ => a1 (by decide), fun _ => h, fun q => absurd q (by decide), fun q => absurd q (by decide), fun q => absurd q (by decide), fun q => absurd q (by decide)⟩
  · exact ⟨fun _ => a1 (by decide), fun _ => a2 (by decide), fun _ => h, fun q => absurd q (by decide), fun q => absurd q (by decide), fun q => absurd q (by decide)⟩
  · exact ⟨fun _ => a1 (by decide), fun _ => a2 (by decide), fun _ => a3 (by decide), fun _ => h, fun q => absurd q (by decide), fun q => absurd q (by decide)⟩
  · exact ⟨fun _ => a1 (by decide), fun _ => a2 (by decide), fun _ => a3 (by decide), fun _ => a4 (by decide), fun _ => h, fun q => absurd q (by decide)⟩
  · exact ⟨fun _ => a1 (by decide), fun _ => a2 (by decide), fun _ => a3 (by decide), fun _ => a4 (by decide), fun _ => a5 (by decide), fun _ => h⟩
theorem nt_none {n : Int} (h0 : n ≠ 0) (h1 : n ≠ 1) (hn : notYet n 6) : ntype n = none := by
  obtain ⟨a1, a2, a3, a4, a5, a6⟩ := hn
  unfold ntype
  rw [if_neg h0, if_neg h1, if_neg (a1 (by decide)), if_neg (a2 (by decide)), if_neg (a3 (by decide)), if_neg (a4 (by decide)), if_neg (a5 (by decide)), if_neg (a6 (by decide))]
abbrev numX (n : Int) : Option Addr := if ntype n = none then some 56 else none
set_option maxHeartbeats 1000000 in
theorem s_nt {w : World} {mean : ExcName → Option Value} {mg mb : Str → Option Value} (n : Int) (t : Tok) :
    SP w mean mg mb 108 [.int n t] [] 4 (fun v o => o = [] ∧ ∃ k t, ntype n = some k ∧ v = .int k t) (numX n) := by
  unfold SP; k_fill
  refine' spec_of (binds := [(Str.ofString "n", .int n t)]) ?hb (by decide) ?ho ?hcd ?hbind ?hloc ?hcell ?hco ?hgen ?hk
  ktn_open
  tb_start
  all_goals try (exact (by
    tb_rel
    refine ⟨_, _, ?_, rfl⟩
    simp_all [ntype]))
  ktr_rel
  tb_start
  rename Fr _ _ _ _ => F1
  rename News _ _ _ _ => N1
  rename IsRange _ _ _ _ _ _ _ _ => R1
  rename n ≠ 0 => n0
  rename n ≠ 1 => n1
  have HN : Hid (n ≠ 0 ∧ n ≠ 1) := ⟨n0, n1⟩
  refine' range_own (n := 6) (fun _ => []) (psN (.int n t)) (fun i _ => Hid (notYet n i)) () rfl R1 (by decide) (by decide) F1 N1 (by dsimp only [psN]; kst_all1) ⟨by unfold notYet; omega⟩ ?_ ?_
  · intro i c t1 u1 h1 tk1 I oI hi hP hne F2 N2
    dsimp only [psN] at *
    have he := sizes6 i (List.mem_range.mpr hi)
    clear N1 F1 hne
    try k_fold
    tb_start
    · dsimp only [LoopEnd]
      k_unfold
      rename Hid (_ = _ ^ _) => hp
      have hp' := half6 hi hp.out
      have hn := hP.out
      obtain ⟨n0, n1⟩ := HN.out
      tb_rel
      refine ⟨_, _, ?_, rfl⟩
      simp only [Int.fdiv_eq_ediv_of_nonneg _ (by decide : (0 : Int) ≤ 2)] at *
      exact nt_at n0 n1 hp' hn ⟨by assumption, by assumption⟩
    all_goals
      rename Fr _ _ _ _ => F3
      rename News _ _ _ _ => N3
      rename Hid (_ = _ ^ _) => hp
      refine' ⟨_, _, _, _, rfl, F3, N3, List.forall_mem_nil _, ⟨(), rfl, ?ps, ?e1⟩⟩
      case ps => dsimp only [psN]; kst_all1
      case e1 =>
        have hp' := half6 hi hp.out
        have hn := hP.out
        simp only [Int.fdiv_eq_ediv_of_nonneg _ (by decide : (0 : Int) ≤ 2)] at *
        refine ⟨nt_step hp' hn ?_⟩
        first | exact fun q => absurd q.1 (by assumption) | exact fun q => absurd q.2 (by assumption)
  · intro c u1 h1 tk1 hP F2 N2
    dsimp only [psN] at *
    clear N1 F1
    try k_fold
    tb_start
    refine x_Raise (C := 56) rfl ?_
    try k_fold
    tb_start
    rename NewX _ _ _ _ => hx
    rename Fr _ _ _ _ => F3
    refine x_raised (ownX_56 w) (Frag.In.keeps (by assumption) F3.keep) hx ?_
    k_unfold
    try dsimp only
    refine x_leave_new (by assumption) hx F3 (fun h' R U => ?_) rfl
    refine ⟨56, _, _, _, ?_, rfl, rfl, R, U⟩
    have hn := hP.out
    obtain ⟨n0, n1⟩ := HN.out
    exact if_pos (nt_none n0 n1 hn)
end

section
-- XLR
theorem s_nt_some {w : World} {mean : ExcName → Option Value} {mg mb : Str → Option Value} {n k : Int} {t : Tok} (h : ntype n = some k) : Pu w mean mg mb 108 [.int n t] 4 (fun t => .int k t) := by
  have := s_nt (w := w) (mean := mean) (mg := mg) (mb := mb) n t
  rw [show numX n = none from by unfold numX; rw [h]; rfl] at this
  intro dp un gd env outer A₀ base h₀ L m news rest s R a1 a2 a3 a4 a5 a6 a7 a8 a9 a10 a11 a12 a13 hQ hE
  refine this dp un gd env outer A₀ base h₀ L m news rest s R a1 a2 a3 a4 a5 a6 a7 a8 a9 a10 a11 a12 a13 (fun v own' h' tk' b1 b2 b3 b4 b5 => ?_) hE
  obtain ⟨c1, k', t', c2, c3⟩ := b5
  rw [h] at c2
  cases c2
  exact hQ v own' h' tk' b1 b2 b3 b4 ⟨c1, t', c3⟩
local macro_rules | `(tactic| walk_at "call ref") => `(tactic| (k_dflt (ktd_call 108 (s_nt_some (by assumption))); kqd_sub))
local macro_rules | `(tactic| walk_at "call ref") => `(tactic| (k_dflt (tbr_iter 176; (first | ktf_call (s_lt_some (by assumption)) | ktf_call (s_lt_none (by assumption)))); kqd_sub))
noncomputable abbrev SPT (w : World) (mean : ExcName → Option Value) (mg mb : Str → Option Value) := SpecT PySem.Challenge.rw_xm0753_01.row.prog Hd.hd.heap_1 w mean mg mb
set_option maxHeartbeats 1000000 in
theorem s_ltr {w : World} {mean : ExcName → Option Value} {mg mb : Str → Option Value} (n : Int) (t : Tok) :
    SPT w mean mg mb 183 [.int n t] [] 8 (fun v o => o = [] ∧ v = .bool true) := by
  unfold SPT; k_fill
  refine' specT_of (binds := [(Str.ofString "number", .int n t)]) ?hb (by decide) ?ho ?hcd ?hbind ?hloc ?hcell ?hco ?hgen ?hk
  ktn_open
  cases hn : ntype n with
  | some k =>
    tb_start
    refine' ⟨_, [], _, _, _, KtsTurn.refl, rfl, ?F, News.nil, rfl, by rw [beq_self_eq_true]⟩
    (case F => k_asm)
  | none =>
    tb_start
    rename Fr _ _ _ _ => F1
    rename Below _ _ _ _ => B1
    refine Spec.use (own := []) (rest := []) (news := []) (s_nt n t) B1 F1 News.nil (by assumption) (by assumption) rfl rfl (lt_dp (by assumption) (by decide)) (lt_un (by assumption) (by decide)) (fun _ h => nomatch h) (fun _ h => nomatch h) (fun _ h => nomatch h) ?Q ?E
    case Q =>
      rintro v own' h' tk' F' N' - ⟨-, k, t', hk, -⟩
      rw [hn] at hk
      cases hk
    case E =>
      intro C hC a h' tk' R U
      have hC56 : C = 56 := by
        unfold numX at hC
        rw [if_pos hn] at hC
        cases hC
        rfl
      subst hC56
      (try k_unfold)
      try dsimp only
      refine' caught_X (bm := bmX) R F1 B1 U (by assumption) (by assumption) ?ex ?q rfl ?_ rfl rfl
      case ex => k_is
      case q =>
        obtain ⟨_, _, _, _, _, _, _, _, _, _, _, _, _, _, _, hO⟩ := (ownX_56 w).obj
        exact ⟨_, _, _, _, _, _, _, _, _, _, _, _, _, _, _, _, hO⟩
      intro h2 g2 oe T2 F2 N2 B2 X2 P2 hf
      have HX2 := hf.hg
      clear F1 B1
      try k_fold
      tb_start
      refine' ⟨g2, [], _, _, _, T2, rfl, ?F, News.nil, rfl, rfl⟩
      (case F => k_asm)
end

section
-- XTK
/-- the script's two numbers -/
abbrev srcO (a b : Int) (ta tb : Tok) (nn : Nat) : Obj := listOf #[.int a ta, .int b tb] nn
/-- a def that takes from the source: its value, the source after it -/
noncomputable abbrev SPs (w : World) (mean : ExcName → Option Value) (mg mb : Str → Option Value) (f : Addr) (vs : List Value) (S : Addr) (a b : Int) (ta tb : Tok) (nn : Nat) (kept : List (Addr × Obj)) (d : Nat) (Pv : Value → Prop) : Prop :=
  SP w mean mg mb f vs ((S, srcO a b ta tb nn) :: kept) d (fun v o => Pv v ∧ ∃ a b ta tb nn, o = (S, srcO a b ta tb nn) :: kept ∧ 0 ≤ a ∧ 0 ≤ b ∧ b < 2147483647) none
section
variable {w : World} {mean : ExcName → Option Value} {mg mb : Str → Option Value} {f S : Addr} {vs : List Value} {kept : List (Addr × Obj)} {d : Nat} {Pv : Value → Prop} {a b : Int} {ta tb : Tok} {nn : Nat}
  {dp un : Nat} {gd : Option (List Code)} {outer : List Env} {base g : Heap} {L : Addr} {m : Str → Option Value} {news : List (Addr × Obj)} {s : Shared} {Q E : Value → Shared → Prop} {env : Env} {gg : Obj → List (Addr × Obj)}
theorem Spec.useS (H : SPs w mean mg mb f vs S a b ta tb nn kept d Pv) (B : Below (Ar dp un gd outer) base outer g) (F : Fr g L s.heap m) (N : News g L s.heap news) (KB : (Hd.hd.heap_1 w.params).In base) (TB : TopV mean mg mb base)
    (hf : env.frame = some L) (hk : env.scope.kind = .function) (hd : dp + 1 + d < recursionLimit) (hu : un + 3 + 8 * d < cLine) (U : UpdF S (srcO a b ta tb nn) news gg) (hkept : ∀ p ∈ kept, p ∈ news) (hne : ∀ p ∈ kept, p.1 ≠ S)
    (hQ : ∀ v a' b' ta' tb' nn' h' tk', Fr g L h' m → News g L h' (gg (srcO a' b' ta' tb' nn')) → Pv v → 0 ≤ a' → 0 ≤ b' → b' < 2147483647 → Q v { s with heap := h', toks := tk' }) :
    wpAny (model PySem.Challenge.rw_xm0753_01.row.prog w) ((Ar dp un gd outer).deeper env) (call (.ref f) vs) Q E s := by
  obtain ⟨pre, post, e1, e2, e3, e4⟩ := U.split
  subst e1
  refine Spec.use (rest := (pre ++ post).filter fun p => !(kept.map (·.1)).contains p.1) H B F N KB TB hf hk hd hu ?_ ?_ ?_ ?_ (fun C h => nomatch h)
  · intro p hp
    rcases List.mem_cons.mp hp with rfl | hp
    · exact List.mem_append.mpr (.inr (.head _))
    · exact hkept p hp
  · intro p hp
    rcases List.mem_append.mp (List.mem_filter.mp hp).1 with h | h
    · exact List.mem_append.mpr (.inl h)
    · exact List.mem_append.mpr (.inr (.tail _ h))
  · intro p hp q hq
    rcases List.mem_cons.mp hq with rfl | hq
    · rcases List.mem_append.mp (List.mem_filter.mp hp).1 with h | h
      · exact e3 p h
      · exact e4 p h
    · intro e
      have := (List.mem_filter.mp hp).2
      rw [e] at this
      simp only [Bool.not_eq_true', List.contains_eq_mem, decide_eq_false_iff_not] at this
      exact this (List.mem_map_of_mem hq)
  · rintro v own' h' tk' F' N' - ⟨hv, a', b', ta', tb', nn', rfl, ha', hb', hb2⟩
    refine hQ v a' b' ta' tb' nn' h' tk' F' ?_ hv ha' hb' hb2
    rw [e2]
    have old : ∀ p ∈ pre ++ post, News g L h' [p] := fun p hp => by
      intro q hq
      rw [List.mem_singleton.mp hq]
      by_cases hk : p.1 ∈ kept.map (·.1)
      · obtain ⟨r, hr, e⟩ := List.mem_map.mp hk
        have hr' := N r (hkept r hr)
        have hp' := N p (by rcases List.mem_append.mp hp with h | h; exact List.mem_append.mpr (.inl h); exact List.mem_append.mpr (.inr (.tail _ h)))
        have : r = p := Prod.ext e (Option.some.inj (by rw [← hr'.1, e, hp'.1]))
        subst this
        exact N' r (List.mem_append.mpr (.inl (.tail _ hr)))
      · refine N' p (List.mem_append.mpr (.inr (List.mem_filter.mpr ⟨hp, ?_⟩)))
        simp only [Bool.not_eq_true', List.contains_eq_mem, decide_eq_false_iff_not]
        exact hk
    intro p hp
    rcases List.mem_append.mp hp with h | h
    · exact old p (List.mem_append.mpr (.inl h)) p (.head _)
    · rcases List.mem_cons.mp h with rfl | h
      · exact N' _ (.head _)
      · exact old p (List.mem_append.mpr (.inr h)) p (.head _)
end
local macro_rules | `(tactic| walk_at "subscriptTail Name Constant ref int") => `(tactic| (k_here; k_dflt (refine' kim_list ?kA ?kB ?kC ?kD ?k0 ?k1 ?kX ?_; (case kA => k_asm); (case kB => k_mem); (case kC => rfl); (case kD => rfl); (case k0 => decide); (case k1 => decide); (case kX => exact rfl); k_whole)))
local macro_rules | `(tactic| walk_at "binaryOp Mult int int") => `(tactic| (refine' PyProof.Rows.mul_int ?_ (IntMulOk.of_left (intBits_le_64 ?kA ?kB)); (case kA => omega); (case kB => omega)))
theorem log2_top {t : Int} (h0 : 0 < t) (h1 : t ≤ 9223372036854775808) : t.natAbs.log2 < 9000 := by
  refine (Nat.log2_lt (by omega)).mpr (Nat.lt_of_lt_of_le (m := 2 ^ 64) (by omega) (Nat.pow_le_pow_right (by decide) (by decide)))
theorem fmod_in {x t : Int} (h0 : 0 < t) : 0 ≤ x.fmod t ∧ x.fmod t < t := by
  rw [Int.fmod_eq_emod_of_nonneg _ (Int.le_of_lt h0)]
  exact ⟨Int.emod_nonneg _ (Int.ne_of_gt h0), Int.emod_lt_of_pos _ h0⟩
theorem fdiv_nn {x t : Int} (hx : 0 ≤ x) (h0 : 0 < t) : 0 ≤ x.fdiv t := by
  rw [Int.fdiv_eq_ediv_of_nonneg _ (Int.le_of_lt h0)]
  exact Int.ediv_nonneg hx (Int.le_of_lt h0)
local macro_rules | `(tactic| walk_at "binaryOp FloorDiv int int") => `(tactic| (refine' PyProof.Rows.floordiv_int ?kA ?_ (Or.inl (PyProof.noPylong_of_log2 (log2_top ?kB ?kC))); (case kA => omega); (case kB => omega); (case kC => omega)))
set_option maxHeartbeats 1000000 in
theorem s_take {w : World} {mean : ExcName → Option Value} {mg mb : Str → Option Value} (S : Addr) (a b : Int) (ta tb : Tok) (nn : Nat) (top : Int) (u : Tok) (ha : 0 ≤ a) (hb0 : 0 ≤ b) (hb : b < 2147483647) (ht : 0 < top) (ht2 : top ≤ 9223372036854775808) :
    SPs w mean mg mb 143 [.ref S, .int top u] S a b ta tb nn [] 1 (fun v => ∃ d t, v = .int d t ∧ 0 ≤ d ∧ d < top) := by
  unfold SPs SP; k_fill
  refine' spec_of (binds := [(Str.ofString "source", .ref S), (Str.ofString "top", .int top u)]) ?hb (by decide) ?ho ?hcd ?hbind ?hloc ?hcell ?hco ?hgen ?hk
  ktn_open
  tb_start
  · refine' ⟨[(S, srcO _ _ _ _ _)], _, _, _, rfl, ?F, ?N, ⟨⟨_, _, rfl, (fmod_in ht).1, (fmod_in ht).2⟩, _, _, _, _, _, rfl, fdiv_nn ha ht, hb0, hb⟩⟩
    (case F => k_asm); (case N => k_asm)
  · refine' ⟨[(S, srcO _ _ _ _ _)], _, _, _, rfl, ?F, ?N, ⟨⟨_, _, rfl, (fmod_in ht).1, (fmod_in ht).2⟩, _, _, _, _, _, rfl, ha, (fmod_in (by decide)).1, (fmod_in (by decide)).2⟩⟩
    (case F => k_asm); (case N => k_asm)
end

section
-- XON
local macro_rules | `(tactic| walk_at "call ref") => `(tactic| (k_dflt (ktr_call 143 (Spec.useS (s_take _ _ _ _ _ _ _ _ ?p1 ?p2 ?p3 ?p4 ?p5)); (case p1 => omega); (case p2 => omega); (case p3 => omega); (case p4 => first | omega | assumption); (case p5 => first | omega | assumption)); kxt_pos))
theorem len_L {prog : Program} {w : World} {A : Around} {E Q : Value → Shared → Prop} {s : Shared} {g : Heap} {L T : Addr} {news : List (Addr × Obj)} {xs : List Value} {mm : Nat} (N : News g L s.heap news) (hm : (T, listOf xs.toArray mm) ∈ news) (hz : xs.length ≤ 1000) (h : Q (.int (xs.length : Int) (s.toks + 1)) { s with toks := s.toks + 1 + 1 }) :
    wpAny (model prog w) A (call (.builtin "len") [.ref T]) Q E s := by
  have : (xs.toArray.size : Int) < 2 ^ 63 := by rw [List.size_toArray]; omega
  refine PyProof.Rows.len_list (items := xs.toArray) ⟨_, (N _ hm).1, rfl, _, rfl⟩ this ?_
  rw [List.size_toArray]; exact h
local macro_rules | `(tactic| walk_at "call builtin:len") => `(tactic| (k_here; (with_reducible show wpAny _ _ (call (Value.builtin "len") [Value.ref _]) _ _ _); k_dflt (refine' len_L ?kA ?kB ?kC ?_; (case kA => k_asm); (case kB => k_mem); (case kC => omega); k_whole)))
local macro_rules | `(tactic| walk_at "subscriptTail") => `(tactic| (k_here; (with_reducible show wpAny _ _ (subscriptTail _ _ (Value.ref _) (Value.int _ _)) _ _ _); k_dflt (refine' kim_list ?kA ?kB ?kC ?kD ?k0 ?k1 ?kX ?_; (case kA => k_asm); (case kB => k_mem); (case kC => rfl); (case kD => rfl); (case k0 => omega); (case k1 => omega); (case kX => exact List.getElem?_eq_getElem (by omega)); k_whole)))
set_option maxHeartbeats 1000000 in
theorem s_one {w : World} {mean : ExcName → Option Value} {mg mb : Str → Option Value} (S T : Addr) (a b : Int) (ta tb : Tok) (nn : Nat) (xs : List Value) (mm : Nat) (hST : T ≠ S) (ha : 0 ≤ a) (hb0 : 0 ≤ b) (hb : b < 2147483647) (hx : 0 < xs.length) (hx9 : xs.length ≤ 9) :
    SPs w mean mg mb 150 [.ref S, .ref T] S a b ta tb nn [(T, listOf xs.toArray mm)] 3 (fun v => ∃ i, i < xs.length ∧ xs[i]? = some v) := by
  unfold SPs SP; k_fill
  refine' spec_of (binds := [(Str.ofString "source", .ref S), (Str.ofString "things", .ref T)]) ?hb (by decide) ?ho ?hcd ?hbind ?hloc ?hcell ?hco ?hgen ?hk
  ktn_open
  tb_start
  rename_i a9 b9 ta9 tb9 nn9 h9 F9 N9 tk9 ha9 hb9 hc9 d9 t9 hd9 he9
  refine' ⟨[(S, srcO a9 b9 ta9 tb9 nn9), (T, listOf xs.toArray mm)], _, _, _, rfl, ?F, ?N, ⟨d9.toNat, by omega, List.getElem?_eq_getElem _⟩, _, _, _, _, _, rfl, ha9, hb9, hc9⟩
  (case F => k_asm); (case N => k_asm)
section
variable {w : World} {mean : ExcName → Option Value} {mg mb : Str → Option Value} {S T : Addr} {xs : List Value} {mm : Nat} {a b : Int} {ta tb : Tok} {nn : Nat}
  {dp un : Nat} {gd : Option (List Code)} {outer : List Env} {base g : Heap} {L : Addr} {m : Str → Option Value} {news : List (Addr × Obj)} {s : Shared} {Q E : Value → Shared → Prop} {env : Env} {gg : Obj → List (Addr × Obj)}
theorem use_one (B : Below (Ar dp un gd outer) base outer g) (F : Fr g L s.heap m) (N : News g L s.heap news) (KB : (Hd.hd.heap_1 w.params).In base) (TB : TopV mean mg mb base)
    (hf : env.frame = some L) (hk : env.scope.kind = .function) (hd : dp + 1 + 3 < recursionLimit) (hu : un + 3 + 8 * 3 < cLine) (U : UpdF S (srcO a b ta tb nn) news gg) (hm : (T, listOf xs.toArray mm) ∈ news) (hST : T ≠ S)
    (ha : 0 ≤ a) (hb0 : 0 ≤ b) (hb : b < 2147483647) (hx : 0 < xs.length) (hx9 : xs.length ≤ 9)
    (hQ : ∀ i v a' b' ta' tb' nn' h' tk', i < xs.length → xs[i]? = some v → Fr g L h' m → News g L h' (gg (srcO a' b' ta' tb' nn')) → 0 ≤ a' → 0 ≤ b' → b' < 2147483647 → Q v { s with heap := h', toks := tk' }) :
    wpAny (model PySem.Challenge.rw_xm0753_01.row.prog w) ((Ar dp un gd outer).deeper env) (call (.ref 150) [.ref S, .ref T]) Q E s :=
  Spec.useS (s_one S T a b ta tb nn xs mm hST ha hb0 hb hx hx9) B F N KB TB hf hk hd hu U (fun p hp => by rw [List.mem_singleton.mp hp]; exact hm) (fun p hp => by rw [List.mem_singleton.mp hp]; exact hST)
    fun v a' b' ta' tb' nn' h' tk' F' N' hp h1 h2 h3 => by obtain ⟨i, hi, hv⟩ := hp; exact hQ i v a' b' ta' tb' nn' h' tk' hi hv F' N' h1 h2 h3
end
end

section
-- XNU
local macro_rules | `(tactic| walk_at "call ref") => `(tactic| (k_dflt (ktr_call 143 (Spec.useS (s_take _ _ _ _ _ _ _ _ ?p1 ?p2 ?p3 ?p4 ?p5)); (case p1 => omega); (case p2 => omega); (case p3 => omega); (case p4 => first | omega | assumption); (case p5 => first | omega | assumption)); kxt_pos))
local macro_rules | `(tactic| lcg_src) => `(tactic| (refine' use_one ?xB ?xF ?xN ?xK ?xT rfl rfl ?xd ?xu ?xU ?xM ?xO ?p1 ?p2 ?p3 ?p4 ?p5 ?_; kqd_in; (case xU => k_updF); (case xM => k_mem); (case xO => k_ne); (case p1 => omega); (case p2 => omega); (case p3 => omega); (case p4 => (simp only [List.length_cons, List.length_nil]; omega)); (case p5 => (simp only [List.length_cons, List.length_nil]; omega))))
theorem pick_int {xs : List Value} {ns : List Int} (h : IntsAre xs ns) {i : Nat} {v : Value} (hv : xs[i]? = some v) : ∃ k t, v = .int k t ∧ k ∈ ns := by
  induction h generalizing i with
  | nil => simp at hv
  | cons n t _ ih =>
    cases i with
    | zero => simp at hv; exact ⟨n, t, hv.symm, .head _⟩
    | succ i =>
      simp at hv
      obtain ⟨k, t, e, hk⟩ := ih hv
      exact ⟨k, t, e, .tail _ hk⟩
theorem pow2_bd {prog : Program} {w : World} {A : Around} {E : Value → Shared → Prop} {s : Shared} {n : Int} {t u : Tok} {Q : Value → Shared → Prop} (hn : 0 ≤ n) (hn2 : n ≤ 63) (h : ∀ p : Int, 0 < p → p ≤ 9223372036854775808 → Q (.int p s.toks) { s with toks := s.toks + 1 }) :
    wpAny (model prog w) A (binaryOp .Pow (.int 2 t) (.int n u)) Q E s := by
  refine pow_int_small hn (by omega) (by decide) (h _ (Int.pow_pos (by decide)) ?_)
  have : ∀ j ∈ List.range 64, (2 : Int) ^ j ≤ 9223372036854775808 := by decide +kernel
  exact this _ (List.mem_range.mpr (by omega))
local macro_rules | `(tactic| walk_at "binaryOp Pow int int") => `(tactic| (refine' pow2_bd ?kA ?kB ?_; (case kA => omega); (case kB => omega); intro p9 hp9 hq9))
set_option maxHeartbeats 1000000 in
theorem s_number {w : World} {mean : ExcName → Option Value} {mg mb : Str → Option Value} (S : Addr) (a b : Int) (ta tb : Tok) (nn : Nat) (ha : 0 ≤ a) (hb0 : 0 ≤ b) (hb : b < 2147483647) :
    SPs w mean mg mb 157 [.ref S] S a b ta tb nn [] 5 (fun v => ∃ d t, v = .int d t ∧ -9223372036854775809 ≤ d ∧ d ≤ 9223372036854775808) := by
  unfold SPs SP; k_fill
  refine' spec_of (binds := [(Str.ofString "source", .ref S)]) ?hb (by decide) ?ho ?hcd ?hbind ?hloc ?hcell ?hco ?hgen ?hk
  ktn_open
  tb_start
  · lcg_src
    intro i v a1 b1 ta1 tb1 nn1 h1 tk1 hi hv F1 N1 ha1 hb1 hc1
    obtain ⟨k, t, rfl, hk⟩ := pick_int (by l_ints) hv
    have hk1 : -9223372036854775809 ≤ k ∧ k ≤ 9223372036854775808 := (by decide : ∀ k ∈ ([0, 1, -1, 2, -2, 127, -127] : List Int), -9223372036854775809 ≤ k ∧ k ≤ 9223372036854775808) k hk
    clear hk hv
    try k_fold
    tb_start
    refine' ⟨[(S, srcO a1 b1 ta1 tb1 nn1)], _, _, _, rfl, ?F, ?N, ⟨_, _, rfl, hk1⟩, _, _, _, _, _, rfl, ha1, hb1, hc1⟩
    (case F => k_asm); (case N => (refine News.sub (by assumption) ?_; kst_allIn))
  · lcg_src
    intro i v a1 b1 ta1 tb1 nn1 h1 tk1 hi hv F1 N1 ha1 hb1 hc1
    obtain ⟨k, t, rfl, hk⟩ := pick_int (by l_ints) hv
    have hk1 : 1 ≤ k ∧ k ≤ 8 := (by decide : ∀ k ∈ ([1, 2, 3, 4, 5, 6, 7, 8] : List Int), 1 ≤ k ∧ k ≤ 8) k hk
    clear hk hv
    try k_fold
    tb_start
    lcg_src
    intro i v a2 b2 ta2 tb2 nn2 h2 tk2 hi hv F2 N2 ha2 hb2 hc2
    obtain ⟨k2, t2, rfl, hk⟩ := pick_int (by l_ints) hv
    simp only [List.mem_cons, List.mem_nil_iff, or_false] at hk
    have hk2 : 0 ≤ k2 ∧ k2 ≤ 9223372036854775808 := by omega
    clear hk hv
    try k_fold
    tb_start
    all_goals (
      (try dsimp only)
      refine' ⟨[(S, srcO a2 b2 ta2 tb2 nn2)], _, _, _, rfl, ?F, ?N, ⟨_, _, rfl, ?z⟩, _, _, _, _, _, rfl, ha2, hb2, hc2⟩
      (case F => k_asm); (case N => (refine News.sub (by assumption) ?_; kst_allIn)); (case z => omega))
end

section
-- XOC
local macro_rules | `(tactic| walk_at "call ref") => `(tactic| (k_dflt (ktr_call 143 (Spec.useS (s_take _ _ _ _ _ _ _ _ ?p1 ?p2 ?p3 ?p4 ?p5)); (case p1 => omega); (case p2 => omega); (case p3 => omega); (case p4 => first | omega | assumption); (case p5 => first | omega | assumption)); kxt_pos))
local macro_rules | `(tactic| lcg_src) => `(tactic| (refine' use_one ?xB ?xF ?xN ?xK ?xT rfl rfl ?xd ?xu ?xU ?xM ?xO ?p1 ?p2 ?p3 ?p4 ?p5 ?_; kqd_in; (case xU => k_updF); (case xM => k_mem); (case xO => k_ne); (case p1 => omega); (case p2 => omega); (case p3 => omega); (case p4 => (simp only [List.length_cons, List.length_nil]; omega)); (case p5 => (simp only [List.length_cons, List.length_nil]; omega))))
set_option maxHeartbeats 1000000 in
theorem s_octets {w : World} {mean : ExcName → Option Value} {mg mb : Str → Option Value} (S : Addr) (a b : Int) (ta tb : Tok) (nn : Nat) (most : Int) (u : Tok) (ha : 0 ≤ a) (hb0 : 0 ≤ b) (hb : b < 2147483647) (hm0 : 0 ≤ most) (hm9 : most ≤ 9) :
    SPs w mean mg mb 195 [.ref S, .int most u] S a b ta tb nn [] 5 (fun v => ∃ l t, v = .bytes (byteArr l) t ∧ Oct l ∧ (l.length : Int) ≤ most) := by
  unfold SPs SP; k_fill
  refine' spec_ofC (binds := [(Str.ofString "source", .ref S), (Str.ofString "most", .int most u)]) ?hb (by decide) ?ho ?hcd ?hbind ?hkind ?hnd ?hco ?hgen ?hk
  kwd_inv
  repeat' (first | (k_unfold; (try dsimp only)) | ((fail_if_success (with_reducible show wpAny _ _ (eval (Expr.ListComp _ _ _ _) _) _ _ _)); (fail_if_success (with_reducible show Ended _ _ _ _ _ _)); first | walk1 | (dsimp only; walk1)))
  refine eval_comp_own rfl rfl (by decide) ?_
  try k_fold
  tb_start
  rename Fr _ _ _ _ => F2
  rename News _ _ _ _ => N2
  rename IsRange _ _ _ _ _ _ _ _ => R2
  refine range_compE (σ := Int × Int × Tok × Tok × Nat) (fun c => [(_, _), (S, srcO c.1 c.2.1 c.2.2.1 c.2.2.2.1 c.2.2.2.2)]) [_, S] (fun _ => rfl)
    (fun i ys c => ((∃ ns, IntsAre ys ns ∧ Oct ns) ∧ ys.length ≤ i) ∧ 0 ≤ c.1 ∧ 0 ≤ c.2.1 ∧ c.2.1 < 2147483647) (fun i ys c _ => ((∃ ns, IntsAre ys ns ∧ Oct ns) ∧ ys.length ≤ i) ∧ 0 ≤ c.1 ∧ 0 ≤ c.2.1 ∧ c.2.1 < 2147483647) (_, _, _, _, _)
    HG.no R2 (small_one (by omega) (by omega) (by omega) (by omega)) (rangeSize_nat _ _) (by rw [sizeLine_eq]; omega) (by decide) rfl rfl F2 N2 ⟨⟨⟨[], .nil, fun _ h => nomatch h⟩, Nat.zero_le _⟩, by assumption, by assumption, by assumption⟩ (fun _ _ _ h => h.1.2) (fun _ _ _ _ h => h.1.2) ?tests ?elt ?done
  case tests =>
    intro I D C
    exact ctests_none fun i ys c v _ _ h => h
  case elt =>
    intro I D C
    refine celt_mk ?_
    rintro i ys ⟨a1, b1, ta1, tb1, nn1⟩ v h tk oI oD oC mC E' hi ⟨_, t1, rfl⟩ ⟨⟨⟨ns, hys, hoc⟩, hyl⟩, ha1, hb1, hc1⟩ hO hm F3 N3 hne
    clear F2 N2
    dsimp only at ha1 hb1 hc1 N3 hne
    have e1 : @Ne Nat S C ∧ @Ne Nat S D ∧ @Ne Nat S I := hne _ (.tail _ (.head _))
    try k_fold
    tb_start
    lcg_src
    intro i2 v a2 b2 ta2 tb2 nn2 h2 tk2 hi2 hv F2 N2 ha2 hb2 hc2
    obtain ⟨k2, t2, rfl, hk⟩ := pick_int (by l_ints) hv
    have hk2 : 0 ≤ k2 ∧ k2 < 256 := (by decide : ∀ k ∈ ([0, 1, 127, 128, 255] : List Int), 0 ≤ k ∧ k < 256) k2 hk
    clear hk hv
    try k_fold
    tb_start
    refine' ⟨_, _, (a2, b2, ta2, tb2, nn2), rfl, ?F, ?N, ⟨⟨ns ++ [k2], hys.append (.cons _ _ .nil), hoc.append fun x hx => by rw [List.mem_singleton.mp hx]; exact hk2⟩, by rw [List.length_append]; exact Nat.succ_le_succ hyl⟩, ha2, hb2, hc2⟩
    (case F => k_asm)
    (case N => (refine News.sub (by assumption) ?_; (try dsimp only [List.cons_append, List.nil_append]); kst_allIn))
  case done =>
    rintro D h' tk ys nn3 ⟨a1, b1, ta1, tb1, nn1⟩ ⟨⟨⟨ns, hys, hoc⟩, hyl⟩, ha1, hb1, hc1⟩ hne F4 N4
    clear F2 N2
    dsimp only at ha1 hb1 hc1 N4 hne
    try k_fold
    tb_start
    have hln := hys.length
    refine' ⟨[(S, srcO a1 b1 ta1 tb1 nn1)], _, _, _, rfl, ?F, ?N, ⟨_, _, rfl, hoc, by omega⟩, _, _, _, _, _, rfl, ha1, hb1, hc1⟩
    (case F => k_asm); (case N => (refine News.sub (by assumption) ?_; kst_allIn))
end

section
-- XVA
local macro_rules | `(tactic| walk_at "call ref") => `(tactic| (k_dflt (ktr_call 143 (Spec.useS (s_take _ _ _ _ _ _ _ _ ?p1 ?p2 ?p3 ?p4 ?p5)); (case p1 => omega); (case p2 => omega); (case p3 => omega); (case p4 => first | omega | assumption); (case p5 => first | omega | assumption)); kxt_pos))
local macro_rules | `(tactic| lcg_src) => `(tactic| (refine' use_one ?xB ?xF ?xN ?xK ?xT rfl rfl ?xd ?xu ?xU ?xM ?xO ?p1 ?p2 ?p3 ?p4 ?p5 ?_; kqd_in; (case xU => k_updF); (case xM => k_mem); (case xO => k_ne); (case p1 => omega); (case p2 => omega); (case p3 => omega); (case p4 => (simp only [List.length_cons, List.length_nil]; omega)); (case p5 => (simp only [List.length_cons, List.length_nil]; omega))))
local macro_rules | `(tactic| walk_at "call ref") => `(tactic| (k_dflt (ktr_call 195 (Spec.useS (s_octets _ _ _ _ _ _ _ _ ?p1 ?p2 ?p3 ?p4 ?p5)); (case p1 => omega); (case p2 => omega); (case p3 => omega); (case p4 => first | omega | assumption); (case p5 => first | omega | assumption)); kxt_pos))
local macro_rules | `(tactic| walk_at "call ref") => `(tactic| (k_dflt (tbr_iter 176; (first | ktf_call (s_lt_some (by assumption)) | ktf_call (s_lt_none (by assumption)))); kqd_sub))
local macro_rules | `(tactic| tb_start) => `(tactic| repeat' (first | (k_unfold; (try dsimp only)) | ((fail_if_success (tbr_iter 176)); kpt_turns)))
theorem strs_takeM {vs : List Value} {cs : List Nat} (h : StrsAre vs (cs.map sg)) (n : Nat) : StrsAre (vs.take n) ((cs.take n).map sg) := by
  rw [List.map_take]; exact strs_take h n
abbrev tupO (l : List Value) : Obj := { cls := .type "tuple", data := .seq l.toArray }
abbrev kszs : List Int := [0, 1, 2, 3, 4, 6, 8, 0, 0, 0]
/-- what a cell may be -/
def LVal (v : Value) (kind size : Int) : Prop :=
  (v = .none ∧ kind = 0 ∧ size = 0) ∨ (∃ cs t, Sgn cs ∧ v = .str (txt cs) t ∧ kind = 13 + 2 * ((u8 cs).length : Int) ∧ size = ((u8 cs).length : Int)) ∨
  (∃ l t, Oct l ∧ (l.length : Int) ≤ 4 ∧ v = .bytes (byteArr l) t ∧ kind = 12 + 2 * (l.length : Int) ∧ size = (l.length : Int)) ∨ (∃ k t, v = .int k t ∧ ntype k = some kind ∧ size = kszs.getD kind.toNat 0)
local macro_rules | `(tactic| walk_at "subscriptTail Name Slice ref ref") => `(tactic| (k_here; (with_reducible show wpAny _ _ (subscriptTail _ (PySem.Expr.Slice none (some _) none _) (Value.ref _) (Value.ref _)) _ _ _); k_dflt (refine' kmk_slice_lit ?F ?N ?l ?p ?q ?e ?_ ?s ?t ?z; (case F => k_asm); (case N => k_asm); (case l => kmk_list); (case p => kmk_part); (case q => kmk_part); (case e => exact pick_upto (by omega)); (case s => with_unfolding_all rfl); (case t => kmk_pure); (case z => (rw [sizeLine_eq, List.size_toArray]; omega))); intro D' h' F' N' l1; (try k_lt l1); (try k_sweep)))
local macro_rules | `(tactic| walk_at "call builtin:str.join") => `(tactic| (k_here; k_dflt (refine' join_L ?nA ?nB (strs_takeM (by assumption) _) ?nC ?_; (case nA => k_asm); (case nB => k_mem); (case nC => (rw [List.length_take]; omega))); intro _ _))
theorem len_B {prog : Program} {w : World} {A : Around} {E Q : Value → Shared → Prop} {s : Shared} {l : List Int} {t : Tok} (hz : l.length ≤ 1000) (h : ∀ t' k, Q (.int (l.length : Int) t') { s with toks := k }) :
    wpAny (model prog w) A (call (.builtin "len") [.bytes (byteArr l) t]) Q E s := by
  have e : (byteArr l).size = l.length := byteArr_size l
  refine len_bytes (by rw [e]; omega) ?_
  rw [e]
  exact h _ _
local macro_rules | `(tactic| walk_at "call builtin:len") => `(tactic| (k_here; (with_reducible show wpAny _ _ (call (Value.builtin "len") [Value.bytes (byteArr _) _]) _ _ _); k_dflt (refine' len_B ?kC ?_; (case kC => first | omega | exact Nat.le_trans ((by assumption : ∀ n, (u8 (List.take n _)).length ≤ 12) _) (by decide)); k_whole); intro _ _))
theorem getM_encode {M : Model} {A : Around} {E : Value → Shared → Prop} {s : Shared} {x : Str} {t : Tok} {pl : Sem Bool} {Q : Value × List Value → Shared → Prop} (h : Q (.builtin "str.encode", [.str x t]) s) : wpAny M A (getMethod (.str x t) "encode" pl) Q E s := by
  with_reducible exact GM.of (.str x t) (typeIs_str _ _ _) F.slot_str_encode F.type_str_encode GM.noRef h
local macro_rules | `(tactic| walk_at "getMethod str") => `(tactic| (k_here; (with_reducible refine getM_encode ?_)))
local macro_rules | `(tactic| walk_at "call builtin:str.encode") => `(tactic| (k_here; k_dflt (refine' call_enc ?nA ?_; (case nA => exact (by assumption : ∀ n, Sgn (List.take n _)) _))))
set_option maxHeartbeats 1000000 in
theorem s_value {w : World} {mean : ExcName → Option Value} {mg mb : Str → Option Value} (S : Addr) (a b : Int) (ta tb : Tok) (nn : Nat) (n : Int) (u : Tok) (ha : 0 ≤ a) (hb0 : 0 ≤ b) (hb : b < 2147483647) :
    SP w mean mg mb 200 [.ref S, .int n u] [(S, srcO a b ta tb nn)] 8 (fun v o => ∃ T x k tk z tz a b ta tb nn, v = .ref T ∧ o = [(T, tupO [x, .int k tk, .int z tz]), (S, srcO a b ta tb nn)] ∧ T ≠ S ∧ 0 ≤ a ∧ 0 ≤ b ∧ b < 2147483647 ∧ LVal x k z) none := by
  unfold SP; k_fill
  refine' spec_ofC (binds := [(Str.ofString "source", .ref S), (Str.ofString "number", .int n u)]) ?hb (by decide) ?ho ?hcd ?hbind ?hkind ?hnd ?hco ?hgen ?hk
  kwd_inv
  repeat' (first | (k_unfold; (try dsimp only)) | ((fail_if_success (with_reducible show wpAny _ _ (eval (Expr.ListComp _ _ _ _) _) _ _ _)); (fail_if_success (with_reducible show Ended _ _ _ _ _ _)); first | walk1 | (dsimp only; walk1)))
  refine eval_comp_own rfl rfl (by decide) ?_
  try k_fold
  tb_start
  rename Fr _ _ _ _ => F2
  rename News _ _ _ _ => N2
  rename IsRange _ _ _ _ _ _ _ _ => R2
  refine range_compE (σ := Int × Int × Tok × Tok × Nat) (n := 3) (fun c => [(_, _), (S, srcO c.1 c.2.1 c.2.2.1 c.2.2.2.1 c.2.2.2.2)]) [_, S] (fun _ => rfl)
    (fun i ys c => ((∃ cs, StrsAre ys (List.map sg cs) ∧ (∀ c ∈ cs, c ∈ menu)) ∧ ys.length = i) ∧ 0 ≤ c.1 ∧ 0 ≤ c.2.1 ∧ c.2.1 < 2147483647) (fun i ys c _ => ((∃ cs, StrsAre ys (List.map sg cs) ∧ (∀ c ∈ cs, c ∈ menu)) ∧ ys.length = i) ∧ 0 ≤ c.1 ∧ 0 ≤ c.2.1 ∧ c.2.1 < 2147483647) (_, _, _, _, _)
    HG.no R2 (small_one (by omega) (by omega) (by omega) (by omega)) (rangeSize_nat _ _) (by rw [sizeLine_eq]; omega) (by decide) rfl rfl F2 N2 ⟨⟨⟨[], .nil, (fun _ h => nomatch h)⟩, rfl⟩, by assumption, by assumption, by assumption⟩ (fun _ _ _ h => Nat.le_of_eq h.1.2) (fun _ _ _ _ h => Nat.le_of_eq h.1.2) ?tests ?elt ?done
  case tests =>
    intro I D C
    exact ctests_none fun i ys c v _ _ h => h
  case elt =>
    intro I D C
    refine celt_mk ?_
    rintro i ys ⟨a1, b1, ta1, tb1, nn1⟩ v h tk oI oD oC mC E' hi ⟨_, t1, rfl⟩ ⟨⟨⟨cs, hcs, hcm⟩, hyl⟩, ha1, hb1, hc1⟩ hO hm F3 N3 hne
    clear F2 N2
    dsimp only at ha1 hb1 hc1 N3 hne
    have e1 : @Ne Nat S C ∧ @Ne Nat S D ∧ @Ne Nat S I := hne _ (.tail _ (.head _))
    try k_fold
    tb_start
    lcg_src
    intro i2 v a2 b2 ta2 tb2 nn2 h2 tk2 hi2 hv F2 N2 ha2 hb2 hc2
    obtain ⟨k2, t2, rfl, hk⟩ := pick_str (cs := menu) (by with_unfolding_all exact .cons _ _ (.cons _ _ (.cons _ _ (.cons _ _ .nil)))) hv
    clear hv
    try k_fold
    tb_start
    refine' ⟨_, _, (a2, b2, ta2, tb2, nn2), rfl, ?F, ?N, ⟨⟨cs ++ [k2], by rw [List.map_append]; exact strs_append hcs (.cons _ _ .nil), fun x hx => (List.mem_append.mp hx).elim (hcm x) fun q => by rw [List.mem_singleton.mp q]; exact hk⟩, by rw [List.length_append, hyl]; rfl⟩, ha2, hb2, hc2⟩
    (case F => k_asm)
    (case N => (refine News.sub (by assumption) ?_; (try dsimp only [List.cons_append, List.nil_append]); kst_allIn))
  case done =>
    rintro D h' tk ys nn3 ⟨a1, b1, ta1, tb1, nn1⟩ ⟨⟨⟨cs, hcs, hcm⟩, hyl⟩, ha1, hb1, hc1⟩ hne F4 N4
    clear F2 N2
    dsimp only at ha1 hb1 hc1 N4 hne
    have e1 : @Ne Nat S D := hne _ (.tail _ (.head _))
    have e2 : @Ne Nat _ D := hne _ (.head _)
    dsimp only at e2
    have hyl3 : ys.length = 3 := hyl
    have hcl : cs.length = 3 := by have := strs_len hcs; rw [List.length_map] at this; omega
    have hsg : ∀ n, Sgn (cs.take n) := fun n => ⟨by rw [List.length_take]; omega, fun c hc => hcm c (List.mem_of_mem_take hc)⟩
    have hul : ∀ n, (u8 (cs.take n)).length ≤ 12 := fun n => (hsg n).len
    have h5 : ntype (-5) = some 1 := by decide
    try k_fold
    tb_start
    all_goals first
      | (
        refine' ⟨[(_, tupO [_, .int _ _, .int _ _]), (S, srcO _ _ _ _ _)], _, _, _, rfl, ?F, ?N, ⟨_, _, _, _, _, _, _, _, _, _, _, rfl, rfl, ?ne, ?h0, ?h1, ?h2, ?lv⟩⟩
        (case F => k_asm); (case N => (refine News.sub (by assumption) ?_; kst_allIn))
        (case ne => k_ne); (case h0 => assumption); (case h1 => assumption); (case h2 => assumption)
        case lv => first
          | exact .inl ⟨rfl, rfl, rfl⟩
          | exact .inr (.inl ⟨_, _, hsg _, rfl, rfl, rfl⟩)
          | exact .inr (.inr (.inl ⟨_, _, by assumption, by assumption, rfl, rfl, rfl⟩))
          | exact .inr (.inr (.inr ⟨_, _, rfl, h5, rfl⟩))
          | exact .inr (.inr (.inr ⟨_, _, rfl, hn, rfl⟩)))
      | (
        cases hn : ntype n with
        | none =>
          walk_at "call ref"
          tb_start
          walk_at "call ref"
          tb_start
          refine' ⟨[(_, tupO [_, .int _ _, .int _ _]), (S, srcO _ _ _ _ _)], _, _, _, rfl, ?F, ?N, ⟨_, _, _, _, _, _, _, _, _, _, _, rfl, rfl, ?ne, ?h0, ?h1, ?h2, ?lv⟩⟩
          (case F => k_asm); (case N => (refine News.sub (by assumption) ?_; kst_allIn))
          (case ne => k_ne); (case h0 => assumption); (case h1 => assumption); (case h2 => assumption)
          case lv => first
            | exact .inl ⟨rfl, rfl, rfl⟩
            | exact .inr (.inl ⟨_, _, hsg _, rfl, rfl, rfl⟩)
            | exact .inr (.inr (.inl ⟨_, _, by assumption, by assumption, rfl, rfl, rfl⟩))
            | exact .inr (.inr (.inr ⟨_, _, rfl, h5, rfl⟩))
            | exact .inr (.inr (.inr ⟨_, _, rfl, hn, rfl⟩))
        | some k =>
          have hk := ntype_in hn
          walk_at "call ref"
          tb_start
          walk_at "call ref"
          tb_start
          refine' ⟨[(_, tupO [_, .int _ _, .int _ _]), (S, srcO _ _ _ _ _)], _, _, _, rfl, ?F, ?N, ⟨_, _, _, _, _, _, _, _, _, _, _, rfl, rfl, ?ne, ?h0, ?h1, ?h2, ?lv⟩⟩
          (case F => k_asm); (case N => (refine News.sub (by assumption) ?_; kst_allIn))
          (case ne => k_ne); (case h0 => assumption); (case h1 => assumption); (case h2 => assumption)
          case lv => first
            | exact .inl ⟨rfl, rfl, rfl⟩
            | exact .inr (.inl ⟨_, _, hsg _, rfl, rfl, rfl⟩)
            | exact .inr (.inr (.inl ⟨_, _, by assumption, by assumption, rfl, rfl, rfl⟩))
            | exact .inr (.inr (.inr ⟨_, _, rfl, h5, rfl⟩))
            | exact .inr (.inr (.inr ⟨_, _, rfl, hn, rfl⟩)))
end

section
-- XPU
abbrev ledP (l : Addr) (c : List Value × List Int × Nat × Int × Tok) : List (Addr × Obj) := [(l, W.listOf c.1.toArray c.2.2.1)]
abbrev psP (l : Addr) (sz nv : Value) (c : List Value × List Int × Nat × Int × Tok) : List (Str × Value) := [(Str.ofString "found", .ref l), (Str.ofString "rest", .int c.2.2.2.1 c.2.2.2.2), (Str.ofString "size", sz), (Str.ofString "n", nv)]
set_option maxHeartbeats 1000000 in
theorem s_put {w : World} {mean : ExcName → Option Value} {mg mb : Str → Option Value} (n : Int) (t : Tok) (k : Int) (u : Tok) (hk : 0 ≤ k) (hk8 : k ≤ 9) :
    Pu w mean mg mb 94 [.int n t, .int k u] 1 (fun t => .bytes (byteArr (bigs n k.toNat)) t) := by
  unfold Pu SP; k_fill
  refine' spec_of (binds := [(Str.ofString "n", .int n t), (Str.ofString "size", .int k u)]) ?hb (by decide) ?ho ?hcd ?hbind ?hloc ?hcell ?hco ?hgen ?hk
  ktn_open
  tb_start
  ktr_rel
  tb_start
  rename Fr _ _ _ _ => F1
  rename News _ _ _ _ => N1
  rename IsRange _ _ _ _ _ _ _ _ => R1
  refine' range_own (ledP _) (psP _ (.int k u) (.int n t)) (fun i c => IntsAre c.1 c.2.1 ∧ c.2.1 = lows (n.fmod (256 ^ k.toNat)) i ∧ c.2.2.2.1 = (n.fmod (256 ^ k.toNat)) / 256 ^ i) ([], [], _, _, _) rfl R1 (small_one (by omega) (by omega) (by omega) (by omega)) (rangeSize_nat _ _) F1 N1 (by kst_all1) ⟨IntsAre.nil, rfl, by simp⟩ ?_ ?_
  · intro i c t1 u1 h1 tk1 I oI hi hP hne F2 N2
    obtain ⟨vs, ns, nn, r, rt⟩ := c
    obtain ⟨hI, hns, hr⟩ := hP
    dsimp only [ledP, psP] at *
    have hlen : ns.length = i := by rw [hns, lows_length]
    have hvl := IntsAre.length hI
    have hlI := neN (hne _ (.head _)); dsimp only at hlI
    have HH : Hid (ns = _ ∧ r = _) := ⟨hns, hr⟩
    clear N1 F1 hne hns hr
    try k_fold
    tb_start
    obtain ⟨hns, hr⟩ := HH.out
    rename Fr _ _ _ _ => F3
    rename News _ _ _ _ => N3
    rw [List.push_toArray] at N3
    refine' ⟨_, _, _, _, rfl, F3, News.sub (l := (I, oI) :: ledP _ (_, _, _, _, _)) N3 ?mem, ?ne, ⟨(_, _, _, _, _), rfl, ?ps, IntsAre.append hI (IntsAre.cons _ _ IntsAre.nil), ?e1, ?e2⟩⟩
    case ps => dsimp only [psP]; kst_all1
    case mem => dsimp only [ledP]; kst_allIn
    case ne => dsimp only [ledP]; k_all
    case e1 => dsimp only; rw [hns, hr, bitAnd_m8, lows_snoc]
    case e2 => dsimp only; rw [hr, rsh8, div_step]
  · intro c u1 h1 tk1 hP F2 N2
    obtain ⟨vs, ns, nn, r, rt⟩ := c
    obtain ⟨hI, hns, hr⟩ := hP
    dsimp only [ledP, psP] at *
    clear N1 F1
    have hlen : ns.length = (k - 0).toNat := by rw [hns, lows_length]
    have hvl := IntsAre.length hI
    have HH : Hid (ns = _ ∧ r = _) := ⟨hns, hr⟩
    clear hns hr
    try k_fold
    tb_start
    obtain ⟨hns, hr⟩ := HH.out
    rename Fr _ _ _ _ => F3
    rename News _ _ _ _ => N3
    have hI3 := ints_rev hI
    refine' bytes_K F3 N3 ⟨_, (N3 _ (.head _)).1, rfl, _, rfl⟩ hI3 (by rw [hns]; exact bigs_in _ _) ?z rfl ?_
    case z => rw [IntsAre.length hI3, List.length_reverse, hlen, sizeLine_eq]; omega
    intro h' t' k' F' N' hB'
    clear N3 F3
    tb_start
    tb_rel
    refine ⟨_, congrArg (fun x => Value.bytes (byteArr x) _) ?_⟩
    rw [hns, Int.sub_zero, ← bigs, Int.fmod_eq_emod_of_nonneg _ (Int.le_of_lt (pow256_pos _)), bigs_mod]
end

section
-- XWR
abbrev ledW (c : Addr × List Value × List Int × Nat × Int × Tok) : List (Addr × Obj) := [(c.1, W.listOf c.2.1.toArray c.2.2.2.1)]
abbrev psW (sz : Value) (c : Addr × List Value × List Int × Nat × Int × Tok) : List (Str × Value) := [(Str.ofString "found", .ref c.1), (Str.ofString "number", .int c.2.2.2.2.1 c.2.2.2.2.2), (Str.ofString "size", sz)]
set_option maxHeartbeats 1000000 in
theorem s_written {w : World} {mean : ExcName → Option Value} {mg mb : Str → Option Value} (n : Int) (t : Tok) (k : Int) (u : Tok) (hk : 0 ≤ k) (hk8 : k ≤ 9) :
    Pu w mean mg mb 171 [.int n t, .int k u] 1 (fun t => .bytes (byteArr (bigs n k.toNat)) t) := by
  unfold Pu SP; k_fill
  refine' spec_of (binds := [(Str.ofString "number", .int n t), (Str.ofString "size", .int k u)]) ?hb (by decide) ?ho ?hcd ?hbind ?hloc ?hcell ?hco ?hgen ?hk
  ktn_open
  tb_start
  ktr_rel
  tb_start
  rename Fr _ _ _ _ => F1
  rename News _ _ _ _ => N1
  rename IsRange _ _ _ _ _ _ _ _ => R1
  refine' range_own ledW (psW (.int k u)) (fun i c => IntsAre c.2.1 c.2.2.1 ∧ c.2.2.1 = bigs n i ∧ c.2.2.2.2.1 = n / 256 ^ i) (_, [], [], _, n, t) rfl R1 (small_one (by omega) (by omega) (by omega) (by omega)) (rangeSize_nat _ _) F1 N1 (by kst_all1) ⟨IntsAre.nil, rfl, by simp⟩ ?_ ?_
  · intro i c t1 u1 h1 tk1 I oI hi hP hne F2 N2
    obtain ⟨l, vs, ns, nn, r, rt⟩ := c
    obtain ⟨hI, hns, hr⟩ := hP
    dsimp only [ledW, psW] at *
    have hlen : ns.length = i := by rw [hns, bigs_length]
    have hvl := IntsAre.length hI
    have hlI : l ≠ I := hne _ (.head _)
    clear N1 F1 hne
    try k_fold
    tb_start
    rename Fr _ _ _ _ => F3
    rename News _ _ _ _ => N3
    rename IntsAre _ _ => hI3
    refine' ⟨_, _, _, _, rfl, F3, News.sub (l := (I, oI) :: ledW (_, _, _, _, _, _)) N3 ?mem, ?ne, ⟨(_, _, _, _, _, _), rfl, ?ps, hI3, ?e1, ?e2⟩⟩
    case ps => dsimp only [psW]; kst_all1
    case mem => dsimp only [ledW]; kst_allIn
    case ne => dsimp only [ledW]; k_all
    case e1 => dsimp only; rw [hns, hr, Int.fmod_eq_emod_of_nonneg _ (by decide), bigs_step]
    case e2 => dsimp only; rw [hr, Int.fdiv_eq_ediv_of_nonneg _ (by decide), div_step]
  · intro c u1 h1 tk1 hP F2 N2
    obtain ⟨l, vs, ns, nn, r, rt⟩ := c
    obtain ⟨hI, hns, hr⟩ := hP
    dsimp only [ledW, psW] at *
    clear N1 F1
    try k_fold
    tb_start
    have hlen : ns.length = (k - 0).toNat := by rw [hns, bigs_length]
    have hvl := IntsAre.length hI
    rename Fr _ _ _ _ => F3
    rename News _ _ _ _ => N3
    refine' bytes_K F3 N3 ⟨_, (N3 _ (.head _)).1, rfl, _, rfl⟩ hI (by rw [hns]; exact bigs_in _ _) ?z rfl ?_
    case z => rw [hvl, hlen, sizeLine_eq]; omega
    intro h' t' k' F' N' hB'
    clear N3 F3
    tb_start
    tb_rel
    rw [hns, Int.sub_zero]
    exact ⟨_, rfl⟩
end

section
-- XGE
abbrev psG (b a z : Value) (c : Int × Tok) : List (Str × Value) := [(Str.ofString "number", .int c.1 c.2), (Str.ofString "octets", b), (Str.ofString "at", a), (Str.ofString "size", z)]
/-- the number that has these octets, the first bit below nought -/
def signed (x : Int) (k : Nat) : Int := if k = 0 then x else if 256 ^ k / 2 ≤ x then x - 256 ^ k else x
local macro_rules | `(tactic| walk_at "binaryOp LShift int int") => `(tactic| (refine' lshift_int_small ?a ?b ?c ?_; (case a => omega); (case b => omega); (case c => omega)))
set_option maxHeartbeats 1000000 in
theorem s_get {w : World} {mean : ExcName → Option Value} {mg mb : Str → Option Value} (ns : List Int) (t : Tok) (a k : Int) (u v : Tok) (hO : Oct ns) (hk : 0 ≤ k) (hk8 : k ≤ 9) (ha : 0 ≤ a) (hb : a + k ≤ ns.length) (hs : ns.length ≤ 100) :
    Pu w mean mg mb 101 [.bytes (byteArr ns) t, .int a u, .int k v] 1 (fun t => .int (signed (fromB ((ns.drop a.toNat).take k.toNat)) k.toNat) t) := by
  unfold Pu SP; k_fill
  refine' spec_of (binds := [(Str.ofString "octets", .bytes (byteArr ns) t), (Str.ofString "at", .int a u), (Str.ofString "size", .int k v)]) ?hb (by decide) ?ho ?hcd ?hbind ?hloc ?hcell ?hco ?hgen ?hk
  ktn_open
  tb_start
  ktr_rel
  tb_start
  rename Fr _ _ _ _ => F1
  rename News _ _ _ _ => N1
  rename IsRange _ _ _ _ _ _ _ _ => R1
  refine' range_own (fun _ => []) (psG (.bytes (byteArr ns) t) (.int a u) (.int k v)) (fun i c => c.1 = fromB ((ns.drop a.toNat).take i)) (_, _) rfl R1 (small_one (by omega) (by omega) (by omega) (by omega)) (rangeSize_nat _ _) F1 N1 (by dsimp only [psG]; kst_all1) rfl ?_ ?_
  · intro i c t1 u1 h1 tk1 I oI hi hP hne F2 N2
    obtain ⟨r, rt⟩ := c
    dsimp only [psG] at *
    have hbd := fromB_bound ((ns.drop a.toNat).take i) fun x hx => hO x (List.mem_of_mem_drop (List.mem_of_mem_take hx))
    have hl : ((ns.drop a.toNat).take i).length = i := by rw [List.length_take, List.length_drop]; omega
    have hp := pow256_le (i := i) (by omega)
    rw [← hP, hl] at hbd
    have hr0 : 0 ≤ r := hbd.1
    have hr1 : r < 18446744073709551616 := by omega
    have hit := fromB_take (ns.drop a.toNat) i (by rw [List.length_drop]; omega)
    rw [← hP] at hit
    have HH : Hid (fromB ((ns.drop a.toNat).take (i + 1)) = r * 256 + (ns.drop a.toNat).getD i 0) := ⟨hit⟩
    clear N1 F1 hne hP hit hp hbd
    try k_fold
    tb_start
    rename Fr _ _ _ _ => F3
    rename News _ _ _ _ => N3
    have hg := hO.getD (a + (i : Int)).toNat
    refine' ⟨_, _, _, _, rfl, F3, N3, List.forall_mem_nil _, ⟨(_, _), rfl, ?ps, ?e1⟩⟩
    case ps => dsimp only [psG]; kst_all1
    case e1 =>
      dsimp only
      rw [HH.out, bitOr_8 _ _ hr0 hg.1 hg.2]
      simp only [List.getD_eq_getElem?_getD, List.getElem?_drop]
      congr 4; omega
  · intro c u1 h1 tk1 hP F2 N2
    obtain ⟨r, rt⟩ := c
    dsimp only [psG] at *
    have HH : Hid (r = _) := ⟨hP⟩
    clear N1 F1 hP
    try k_fold
    tb_start
    all_goals tb_rel
    all_goals refine ⟨_, congrArg (fun x => Value.int x _) ?_⟩
    all_goals have hr := HH.out
    all_goals rw [show (a + k - a).toNat = k.toNat by omega] at hr
    all_goals clear HH
    all_goals rw [← hr]
    all_goals clear hr
    all_goals unfold signed
    all_goals (try rw [Int.fdiv_eq_ediv_of_nonneg _ (by decide)] at *)
    all_goals generalize (256 : Int) ^ k.toNat = p at *
    all_goals try dsimp only
    all_goals (repeat' split) <;> omega
end

section
-- XSE
/-- the octets that a type wants -/
def ssize (n : Int) : Int := if 12 ≤ n then (n - 12) / 2 else if n = 8 ∨ n = 9 then 0 else [0, 1, 2, 3, 4, 6, 8].getD n.toNat 0
set_option maxHeartbeats 1000000 in
theorem s_serial {w : World} {mean : ExcName → Option Value} {mg mb : Str → Option Value} (n : Int) (t : Tok) (h : 0 ≤ n) (h2 : n < 40) (h3 : n ≠ 7 ∧ n ≠ 10 ∧ n ≠ 11) :
    Pu w mean mg mb 115 [.int n t] 1 (fun t => .int (ssize n) t) := by
  unfold Pu SP; k_fill
  refine' spec_of (binds := [(Str.ofString "t", .int n t)]) ?hb (by decide) ?ho ?hcd ?hbind ?hloc ?hcell ?hco ?hgen ?hk
  ktn_open
  tb_start
  all_goals (try simp only [List.any_cons, List.any_nil, Bool.or_false, Bool.or_eq_true, Bool.or_eq_false_iff, beq_iff_eq, beq_eq_false_iff_ne, ne_eq] at *)
  all_goals first
    | (exfalso; omega)
    | (tb_rel; refine ⟨_, congrArg (fun x => Value.int x _) ?_⟩; unfold ssize; first | (rw [Int.fdiv_eq_ediv_of_nonneg _ (by decide)]; (repeat' split) <;> first | rfl | omega) | ((repeat' split) <;> first | rfl | omega))
end

section
-- XFI
local macro_rules | `(tactic| walk_at "call ref") => `(tactic| (k_dflt (ktr_call 143 (Spec.useS (s_take _ _ _ _ _ _ _ _ ?p1 ?p2 ?p3 ?p4 ?p5)); (case p1 => omega); (case p2 => omega); (case p3 => omega); (case p4 => first | omega | assumption); (case p5 => first | omega | assumption)); kxt_pos))
local macro_rules | `(tactic| walk_at "call ref") => `(tactic| (k_dflt (ktd_call 164 (s_room _ _ _ _ ?p1 ?p2); (case p1 => first | omega | assumption); (case p2 => first | omega | assumption)); kqd_sub))
local macro_rules | `(tactic| lcg_off) => `(tactic| repeat' (first | assumption | exact bigs_in _ _ | exact List.forall_mem_nil _ | refine Oct.append ?_ ?_))
local macro_rules | `(tactic| walk_at "call ref") => `(tactic| (k_dflt (ktd_call 94 (s_put _ _ _ _ ?p1 ?p2); (case p1 => omega); (case p2 => omega)); kqd_sub))
local macro_rules | `(tactic| walk_at "call ref") => `(tactic| (k_dflt (ktd_call 171 (s_written _ _ _ _ ?p1 ?p2); (case p1 => omega); (case p2 => omega)); kqd_sub))
local macro_rules | `(tactic| walk_at "call ref") => `(tactic| (k_dflt (ktd_call 101 (s_get _ _ _ _ _ _ ?p1 ?p2 ?p3 ?p4 ?p5 ?p6); (case p1 => lcg_off); (case p2 => omega); (case p3 => omega); (case p4 => omega); (case p5 => first | omega | (simp only [List.length_append, bigs_length]; omega)); (case p6 => first | omega | (simp only [List.length_append, bigs_length]; omega))); kqd_sub))
theorem mid_of (xs ys zs : List Int) (k : Nat) (h : zs.length = k) : List.take k (List.drop ((xs.length : Int)).toNat (xs ++ zs ++ ys)) = zs := by
  rw [Int.toNat_natCast, List.append_assoc, List.drop_left, ← h, List.take_left]
theorem pow_half {k : Nat} (h : 0 < k) : ∃ p : Int, 0 < p ∧ (256 : Int) ^ k = 2 * p ∧ (2 : Int) ^ (8 * (k : Int) - 1).toNat = p ∧ (2 : Int) ^ (8 * (k : Int)).toNat = 2 * p := by
  refine ⟨2 ^ (8 * k - 1), Int.pow_pos (by decide), ?_, ?_, ?_⟩
  · have e : (256 : Int) ^ k = 2 ^ (8 * k) := by rw [Int.pow_mul]; rfl
    rw [e, show 8 * k = (8 * k - 1) + 1 by omega, Int.pow_succ, Int.mul_comm, show 8 * k - 1 + 1 - 1 = 8 * k - 1 by omega]
  · congr 1; omega
  · rw [show (8 * (k : Int)).toNat = (8 * k - 1) + 1 by omega, Int.pow_succ, Int.mul_comm]
theorem signed_zero (n : Int) : signed (n % 256 ^ 0) 0 = 0 := by
  unfold signed
  rw [if_pos rfl]
  simp [Int.emod_one]
theorem signed_mod (n : Int) {k : Nat} (h : 0 < k) : (signed (n % 256 ^ k) k - n).fmod (256 ^ k) = 0 := by
  obtain ⟨p, hp, e, _, _⟩ := pow_half h
  unfold signed
  rw [if_neg (by omega), e, Int.fmod_eq_emod_of_nonneg _ (by omega)]
  have h1 := Int.mul_ediv_add_emod n (2 * p)
  generalize n % (2 * p) = r at *
  generalize hq : n / (2 * p) = q at *
  apply Int.emod_eq_zero_of_dvd
  split
  · exact ⟨-q - 1, by rw [Int.mul_sub, Int.mul_neg]; omega⟩
  · exact ⟨-q, by rw [Int.mul_neg]; omega⟩
theorem signed_room (n : Int) {k : Nat} (h : 0 < k) : room (signed (n % 256 ^ k) k) (k : Int) = true := by
  obtain ⟨p, hp, e, e1, e2⟩ := pow_half h
  unfold room
  rw [e1, e2]
  unfold signed
  rw [if_neg (by omega), e]
  have h1 := Int.emod_nonneg n (show (2 * p) ≠ 0 by omega)
  have h2 := Int.emod_lt_of_pos n (show 0 < 2 * p by omega)
  generalize n % (2 * p) = r at *
  have h3 : (0 : Int) < k := by omega
  split <;> simp <;> omega
theorem fixed_0 (n : Int) (xs ys : List Int) {d : Int} (h : d = 0) : (signed (fromB (List.take d.toNat (List.drop ((xs.length : Int)).toNat (xs ++ bigs n d.toNat ++ ys)))) d.toNat == 0) = true := by
  subst h
  rw [mid_of _ _ _ _ (bigs_length _ _), fromB_bigs]
  exact beq_iff_eq.mpr (signed_zero n)
theorem fixed_1 (n : Int) (xs ys : List Int) {d : Int} (h0 : 0 ≤ d) (h : d ≠ 0) : ((signed (fromB (List.take d.toNat (List.drop ((xs.length : Int)).toNat (xs ++ bigs n d.toNat ++ ys)))) d.toNat - n).fmod (256 ^ d.toNat) == 0) = true := by
  rw [mid_of _ _ _ _ (bigs_length _ _), fromB_bigs]
  exact beq_iff_eq.mpr (signed_mod n (by omega))
theorem fixed_2 (n : Int) (xs ys : List Int) {d : Int} (h0 : 0 ≤ d) (h : d ≠ 0) : room (signed (fromB (List.take d.toNat (List.drop ((xs.length : Int)).toNat (xs ++ bigs n d.toNat ++ ys)))) d.toNat) d = true := by
  rw [mid_of _ _ _ _ (bigs_length _ _), fromB_bigs]
  have := signed_room n (k := d.toNat) (by omega)
  rwa [Int.toNat_of_nonneg h0] at this
set_option maxHeartbeats 1000000 in
theorem s_fixed {w : World} {mean : ExcName → Option Value} {mg mb : Str → Option Value} (S : Addr) (a b : Int) (ta tb : Tok) (nn : Nat) (n : Int) (u : Tok) (xs ys : List Int) (ux uy : Tok) (ha : 0 ≤ a) (hb0 : 0 ≤ b) (hb : b < 2147483647) (hx : Oct xs) (hy : Oct ys) (hx3 : xs.length ≤ 3) (hy3 : ys.length ≤ 3) :
    SPs w mean mg mb 214 [.ref S, .int n u, .bytes (byteArr xs) ux, .bytes (byteArr ys) uy] S a b ta tb nn [] 4 (fun v => v = .bool true) := by
  unfold SPs SP; k_fill
  refine' spec_of (binds := [(Str.ofString "source", .ref S), (Str.ofString "number", .int n u), (Str.ofString "ahead", .bytes (byteArr xs) ux), (Str.ofString "behind", .bytes (byteArr ys) uy)]) ?hb (by decide) ?ho ?hcd ?hbind ?hloc ?hcell ?hco ?hgen ?hk
  ktn_open
  tb_start
  · rename (_ != _) = true => hc
    exact absurd hc (by simp)
  all_goals (
    (try dsimp only)
    refine' ⟨[(S, srcO _ _ _ _ _)], _, _, _, rfl, ?F, ?N, ⟨?z, _, _, _, _, _, rfl, ?h0, ?h1, ?h2⟩⟩
    (case F => k_asm); (case N => k_asm); (case h0 => assumption); (case h1 => assumption); (case h2 => assumption)
    case z => first
      | exact congrArg Value.bool (fixed_2 n xs ys (by assumption) (by assumption))
      | exact congrArg Value.bool (fixed_1 n xs ys (by assumption) (by assumption))
      | exact congrArg Value.bool (fixed_0 n xs ys (by assumption)))
end

section
-- XPO
theorem pool_nn (c : Int) : 0 ≤ (if -1 - c > c then -1 - c else c) * (if decide (10 ^ Int.toNat 18 ≤ if -1 - c > c then -1 - c else c) = true then 1 else 0) := by
  have h : 0 ≤ (if -1 - c > c then -1 - c else c) := by split <;> omega
  have h2 : ∀ (p : Prop) [Decidable p], 0 ≤ (if p then (1 : Int) else 0) := by
    intro p _
    by_cases hp : p
    · rw [if_pos hp]; decide
    · rw [if_neg hp]; decide
  exact Int.mul_nonneg h (h2 _)
set_option maxHeartbeats 1000000 in
theorem s_pool {w : World} {mean : ExcName → Option Value} {mg mb : Str → Option Value} (l : Addr) (vs : List Value) (ns : List Int) (k : Int) (t : Tok) (hi : IntsAre vs ns) (hns : ns.length ≤ 63) (hk : 0 ≤ k) (hk3 : k < 3) :
    Spec PySem.Challenge.rw_xm0753_01.row.prog Hd.hd.heap_1 w mean mg mb none (fun h => h.IsList l vs.toArray) 136 [.ref l, .int k t] [] 2 (fun v o => ∃ D a b ta tb nn, v = .ref D ∧ o = [(D, srcO a b ta tb nn)] ∧ 0 ≤ a ∧ 0 ≤ b ∧ b < 2147483647) none := by
  k_fill
  refine' spec_of (binds := [(Str.ofString "script", .ref l), (Str.ofString "k", .int k t)]) ?hb (by decide) ?ho ?hcd ?hbind ?hloc ?hcell ?hco ?hgen ?hk
  ktn_open
  try dsimp only at *
  tb_start
  all_goals (
    (try k_unfold)
    (try dsimp only)
    refine' ⟨[(_, srcO _ _ _ _ _)], _, _, _, rfl, ?F, ?N, ⟨_, _, _, _, _, _, rfl, rfl, ?h0, (fmod_in (by decide)).1, (fmod_in (by decide)).2⟩⟩
    (case F => k_asm); (case N => k_asm)
    case h0 => first
      | exact pool_nn _
      | exact pool_nn 0)
end

section
-- XLE
abbrev tup3 (f c l : Int) (t u v : Tok) : Obj := { cls := .type "tuple", data := .seq #[.int f t, .int c u, .int l v] }
/-- what the first octet of a sign tells -/
def leadOf (x : Int) : Int × Int × Int := if x < 128 then (0, x, 0) else if x = 195 then (1, 3, 128) else (3, 0, 65536)
set_option maxHeartbeats 1000000 in
theorem s_lead {w : World} {mean : ExcName → Option Value} {mg mb : Str → Option Value} (x : Int) (t : Tok) (h : (0 ≤ x ∧ x < 128) ∨ x = 195 ∨ x = 240) :
    SP w mean mg mb 72 [.int x t] [] 1 (fun v o => ∃ T t u u', v = .ref T ∧ o = [(T, tup3 (leadOf x).1 (leadOf x).2.1 (leadOf x).2.2 t u u')]) none := by
  unfold SP; k_fill
  refine' spec_of (binds := [(Str.ofString "octet", .int x t)]) ?hb (by decide) ?ho ?hcd ?hbind ?hloc ?hcell ?hco ?hgen ?hk
  ktn_open
  rcases h with ⟨h0, h1⟩ | rfl | rfl
  · have e : leadOf x = (0, x, 0) := if_pos h1
    tb_start
    (try k_unfold)
    (try dsimp only)
    refine' ⟨[(_, tup3 _ _ _ _ _ _)], _, _, _, rfl, ?F, ?N, ⟨_, _, _, _, rfl, ?z⟩⟩
    (case F => k_asm); (case N => k_asm); (case z => rw [e])
  · tb_start
    (try k_unfold)
    (try dsimp only)
    refine' ⟨[(_, tup3 _ _ _ _ _ _)], _, _, _, rfl, ?F, ?N, ⟨_, _, _, _, rfl, ?z⟩⟩
    (case F => k_asm); (case N => k_asm); (case z => rfl)
  · tb_start
    (try k_unfold)
    (try dsimp only)
    refine' ⟨[(_, tup3 _ _ _ _ _ _)], _, _, _, rfl, ?F, ?N, ⟨_, _, _, _, rfl, ?z⟩⟩
    (case F => k_asm); (case N => k_asm); (case z => rfl)
end

section
-- XCO
/-- the code after i of the octets that follow -/
noncomputable def codeN (ns : List Int) (a : Int) (c : Int) : Nat → Int
  | 0 => c
  | i + 1 => codeN ns a c i * 64 + ns.getD (a.toNat + i) 0 % 64
local macro_rules | `(tactic| walk_at "binaryOp LShift int int") => `(tactic| (refine' lshift_int_small ?a ?b ?c ?_; (case a => omega); (case b => omega); (case c => omega)))
set_option maxHeartbeats 1000000 in
theorem s_code {w : World} {mean : ExcName → Option Value} {mg mb : Str → Option Value} (ns : List Int) (t : Tok) (a : Int) (u : Tok) (T : Addr) (f c l : Int) (t1 t2 t3 : Tok) (hO : Oct ns) (hn : ns.length ≤ 100) (ha : 0 ≤ a) (hf : 0 ≤ f) (hf3 : f ≤ 3) (hfit : a + f ≤ (ns.length : Int))
    (hc : ∀ i : Nat, (i : Int) < f → Builtin.bitAnd (ns.getD (a + i).toNat 0) 192 = 128) (hs : ∀ i : Nat, (i : Int) < f → Builtin.bitOr (codeN ns a c i * 2 ^ Int.toNat 6) (Builtin.bitAnd (ns.getD (a + i).toNat 0) 63) = codeN ns a c (i + 1)) (hcb : ∀ i : Nat, (i : Int) ≤ f → 0 ≤ codeN ns a c i ∧ codeN ns a c i ≤ 1114111)
    (hok : l ≤ codeN ns a c f.toNat ∧ codeN ns a c f.toNat ≤ 1114111 ∧ ¬(55296 ≤ codeN ns a c f.toNat ∧ codeN ns a c f.toNat < 57344)) :
    SP w mean mg mb 86 [.bytes (byteArr ns) t, .int a u, .ref T] [(T, tup3 f c l t1 t2 t3)] 2 (fun v o => ∃ t, v = .int (codeN ns a c f.toNat) t ∧ o = [(T, tup3 f c l t1 t2 t3)]) none := by
  unfold SP; k_fill
  refine' spec_of (binds := [(Str.ofString "octets", .bytes (byteArr ns) t), (Str.ofString "at", .int a u), (Str.ofString "lead", .ref T)]) ?hb (by decide) ?ho ?hcd ?hbind ?hloc ?hcell ?hco ?hgen ?hk
  ktn_open
  tb_start
  ktr_rel
  tb_start
  rename Fr _ _ _ _ => F1
  rename News _ _ _ _ => N1
  rename IsRange _ _ _ _ _ _ _ _ => R1
  refine' range_own (fun _ : Int × Tok => [(T, tup3 f c l t1 t2 t3)]) (fun d => [(Str.ofString "octets", .bytes (byteArr ns) t), (Str.ofString "code", .int d.1 d.2), (Str.ofString "least", .int l t3)]) (fun i d => d.1 = codeN ns a c i) (c, t2) rfl R1 (small_one (by omega) (by omega) (by omega) (by omega)) (rangeSize_nat _ _) F1 N1 (by kst_all1) rfl ?_ ?_
  · intro i d tt u1 h1 tk1 I oI hi hP hne F2 N2
    obtain ⟨cd, ct⟩ := d
    dsimp only at *
    have hTI : @Ne Nat T I := hne _ (.head _)
    have hci := hc i (by omega)
    have hb1 := (hcb i (by omega)).1
    have hb2 := (hcb i (by omega)).2
    subst hP
    have hsi := hs i (by omega)
    clear N1 F1 hne hc hs hcb
    try k_fold
    tb_start
    · exact absurd hci (by assumption)
    · rename Fr _ _ _ _ => F3
      rename News _ _ _ _ => N3
      refine' ⟨_, _, _, _, rfl, F3, News.sub (l := (I, oI) :: [(T, tup3 f c l t1 t2 t3)]) N3 ?mem, ?ne, ⟨(_, _), rfl, ?ps, ?e1⟩⟩
      case ps => dsimp only; kst_all1
      case mem => kst_allIn
      case ne => k_all
      case e1 => exact hsi
  · intro d u1 h1 tk1 hP F2 N2
    obtain ⟨cd, ct⟩ := d
    dsimp only at *
    have hP2 : cd = codeN ns a c f.toNat := by rw [hP, show a + f - a = f by omega]
    clear N1 F1 hP hc hs hcb
    subst hP2
    try k_fold
    tb_start
    all_goals first
      | (exfalso; omega)
      | (
        (try dsimp only)
        refine' ⟨[(T, tup3 f c l t1 t2 t3)], _, _, _, rfl, ?F, ?N, ⟨_, rfl, rfl⟩⟩
        (case F => k_asm); (case N => k_asm))
end

section
-- XT2
theorem u8_append (a b : List Nat) : u8 (a ++ b) = u8 a ++ u8 b := List.flatMap_append ..
theorem u8_split {cs : List Nat} {j c : Nat} (h : cs[j]? = some c) : u8 cs = u8 (cs.take j) ++ (encI c ++ u8 (cs.drop (j + 1))) := by
  have hj := (List.getElem?_eq_some_iff.mp h).1
  have e : cs = cs.take j ++ (c :: cs.drop (j + 1)) := by
    conv => lhs; rw [← List.take_append_drop j cs]
    rw [List.drop_eq_getElem_cons hj, (List.getElem?_eq_some_iff.mp h).2]
  conv => lhs; rw [e]
  rw [u8_append]
  rfl
theorem u8_take_succ {cs : List Nat} {j c : Nat} (h : cs[j]? = some c) : u8 (cs.take (j + 1)) = u8 (cs.take j) ++ encI c := by
  rw [List.take_add_one, h, u8_append]
  congr 1
  exact List.append_nil _
theorem encI_pos {c : Nat} (h : c ∈ menu) : 0 < (encI c).length := (by decide +kernel : ∀ c ∈ menu, 0 < (encI c).length) c h
theorem u8_lt {cs : List Nat} (h : Sgn cs) {j : Nat} (hj : j < cs.length) : (u8 (cs.take j)).length < (u8 cs).length := by
  have hc : cs[j]? = some cs[j] := List.getElem?_eq_getElem hj
  rw [u8_split hc, List.length_append, List.length_append]
  have := encI_pos (h.own _ (List.getElem_mem hj))
  omega
theorem u8_get {cs : List Nat} {j c : Nat} (h : cs[j]? = some c) (i : Nat) (hi : i < (encI c).length) : (u8 cs).getD ((u8 (cs.take j)).length + i) 0 = (encI c).getD i 0 := by
  rw [u8_split h, List.getD_eq_getElem?_getD, List.getElem?_append_right (by omega), Nat.add_sub_cancel_left, List.getElem?_append_left hi, List.getD_eq_getElem?_getD]
/-- what code_at asks of a sign's octets -/
structure CodeOk (ns : List Int) (a f c l : Int) : Prop where
  c1 : ∀ i : Nat, (i : Int) < f → Builtin.bitAnd (ns.getD (a + i).toNat 0) 192 = 128
  s1 : ∀ i : Nat, (i : Int) < f → Builtin.bitOr (codeN ns a c i * 2 ^ Int.toNat 6) (Builtin.bitAnd (ns.getD (a + i).toNat 0) 63) = codeN ns a c (i + 1)
  b1 : ∀ i : Nat, (i : Int) ≤ f → 0 ≤ codeN ns a c i ∧ codeN ns a c i ≤ 1114111
  ok : l ≤ codeN ns a c f.toNat ∧ codeN ns a c f.toNat ≤ 1114111 ∧ ¬(55296 ≤ codeN ns a c f.toNat ∧ codeN ns a c f.toNat < 57344)
theorem code_ok {ns : List Int} {b c : Nat} (hm : c ∈ menu) (hg : ∀ i, i < (encI c).length → ns.getD (b + i) 0 = (encI c).getD i 0) :
    CodeOk ns ((b : Int) + 1) (leadOf ((encI c).getD 0 0)).1 (leadOf ((encI c).getD 0 0)).2.1 (leadOf ((encI c).getD 0 0)).2.2 ∧ codeN ns ((b : Int) + 1) (leadOf ((encI c).getD 0 0)).2.1 (leadOf ((encI c).getD 0 0)).1.toNat = (c : Int) ∧
      (encI c).length = (leadOf ((encI c).getD 0 0)).1.toNat + 1 := by
  have ea : ∀ i : Nat, ((b : Int) + 1 + i).toNat = b + (i + 1) := fun i => by omega
  have eb : ((b : Int) + 1).toNat = b + 1 := by omega
  simp only [menu, List.mem_cons, List.mem_nil_iff, or_false] at hm
  rcases hm with rfl | rfl | rfl | rfl
  · have h1 : encI 97 = [97] := by decide +kernel
    rw [h1]
    refine ⟨⟨fun i hi => absurd hi (show ¬ (i : Int) < 0 by omega), fun i hi => absurd hi (show ¬ (i : Int) < 0 by omega), fun i hi => ?_, ?_⟩, rfl, rfl⟩
    · obtain rfl : i = 0 := by have : (i : Int) ≤ 0 := hi; omega
      show (0 : Int) ≤ 97 ∧ (97 : Int) ≤ 1114111
      decide
    · show (0 : Int) ≤ 97 ∧ (97 : Int) ≤ 1114111 ∧ ¬((55296 : Int) ≤ 97 ∧ (97 : Int) < 57344)
      decide
  · have h1 : encI 0 = [0] := by decide +kernel
    rw [h1]
    refine ⟨⟨fun i hi => absurd hi (show ¬ (i : Int) < 0 by omega), fun i hi => absurd hi (show ¬ (i : Int) < 0 by omega), fun i hi => ?_, ?_⟩, rfl, rfl⟩
    · obtain rfl : i = 0 := by have : (i : Int) ≤ 0 := hi; omega
      show (0 : Int) ≤ 0 ∧ (0 : Int) ≤ 1114111
      decide
    · show (0 : Int) ≤ 0 ∧ (0 : Int) ≤ 1114111 ∧ ¬((55296 : Int) ≤ 0 ∧ (0 : Int) < 57344)
      decide
  · have h1 : encI 233 = [195, 169] := by decide +kernel
    rw [h1] at hg ⊢
    have g1 : ns.getD (b + 1) 0 = 169 := hg 1 (by decide)
    have k0 : codeN ns ((b : Int) + 1) 3 0 = 3 := rfl
    have k1 : codeN ns ((b : Int) + 1) 3 1 = 233 := by
      show 3 * 64 + ns.getD (((b : Int) + 1).toNat + 0) 0 % 64 = 233
      rw [eb, Nat.add_zero, g1]; rfl
    refine ⟨⟨fun i hi => ?_, fun i hi => ?_, fun i hi => ?_, ?_⟩, k1, rfl⟩
    · obtain rfl : i = 0 := by have : (i : Int) < 1 := hi; omega
      rw [ea, g1]; rfl
    · obtain rfl : i = 0 := by have : (i : Int) < 1 := hi; omega
      show Builtin.bitOr (codeN ns ((b : Int) + 1) 3 0 * 2 ^ Int.toNat 6) _ = codeN ns ((b : Int) + 1) 3 1
      rw [ea, g1, k0, k1]; rfl
    · have h2 : (i : Int) ≤ 1 := hi
      rcases (by omega : i = 0 ∨ i = 1) with rfl | rfl
      · show (0 : Int) ≤ 3 ∧ (3 : Int) ≤ 1114111
        decide
      · show 0 ≤ codeN ns ((b : Int) + 1) 3 1 ∧ codeN ns ((b : Int) + 1) 3 1 ≤ 1114111
        rw [k1]; decide
    · show 128 ≤ codeN ns ((b : Int) + 1) 3 1 ∧ codeN ns ((b : Int) + 1) 3 1 ≤ 1114111 ∧ ¬(55296 ≤ codeN ns ((b : Int) + 1) 3 1 ∧ codeN ns ((b : Int) + 1) 3 1 < 57344)
      rw [k1]; decide
  · have h1 : encI 128512 = [240, 159, 152, 128] := by decide +kernel
    rw [h1] at hg ⊢
    have g1 : ns.getD (b + 1) 0 = 159 := hg 1 (by decide)
    have g2 : ns.getD (b + 2) 0 = 152 := hg 2 (by decide)
    have g3 : ns.getD (b + 3) 0 = 128 := hg 3 (by decide)
    have k0 : codeN ns ((b : Int) + 1) 0 0 = 0 := rfl
    have k1 : codeN ns ((b : Int) + 1) 0 1 = 31 := by
      show codeN ns ((b : Int) + 1) 0 0 * 64 + ns.getD (((b : Int) + 1).toNat + 0) 0 % 64 = 31
      rw [eb, Nat.add_zero, g1, k0]; rfl
    have k2 : codeN ns ((b : Int) + 1) 0 2 = 2008 := by
      show codeN ns ((b : Int) + 1) 0 1 * 64 + ns.getD (((b : Int) + 1).toNat + 1) 0 % 64 = 2008
      rw [eb, g2, k1]; rfl
    have k3 : codeN ns ((b : Int) + 1) 0 3 = 128512 := by
      show codeN ns ((b : Int) + 1) 0 2 * 64 + ns.getD (((b : Int) + 1).toNat + 2) 0 % 64 = 128512
      rw [eb, g3, k2]; rfl
    refine ⟨⟨fun i hi => ?_, fun i hi => ?_, fun i hi => ?_, ?_⟩, k3, rfl⟩
    · have h2 : (i : Int) < 3 := hi
      rcases (by omega : i = 0 ∨ i = 1 ∨ i = 2) with rfl | rfl | rfl
      · rw [ea, g1]; rfl
      · rw [ea, g2]; rfl
      · rw [ea, g3]; rfl
    · have h2 : (i : Int) < 3 := hi
      rcases (by omega : i = 0 ∨ i = 1 ∨ i = 2) with rfl | rfl | rfl
      · show Builtin.bitOr (codeN ns ((b : Int) + 1) 0 0 * 2 ^ Int.toNat 6) _ = codeN ns ((b : Int) + 1) 0 1
        rw [ea, g1, k0, k1]; rfl
      · show Builtin.bitOr (codeN ns ((b : Int) + 1) 0 1 * 2 ^ Int.toNat 6) _ = codeN ns ((b : Int) + 1) 0 2
        rw [ea, g2, k1, k2]; rfl
      · show Builtin.bitOr (codeN ns ((b : Int) + 1) 0 2 * 2 ^ Int.toNat 6) _ = codeN ns ((b : Int) + 1) 0 3
        rw [ea, g3, k2, k3]; rfl
    · have h2 : (i : Int) ≤ 3 := hi
      rcases (by omega : i = 0 ∨ i = 1 ∨ i = 2 ∨ i = 3) with rfl | rfl | rfl | rfl
      · show 0 ≤ codeN ns ((b : Int) + 1) 0 0 ∧ codeN ns ((b : Int) + 1) 0 0 ≤ 1114111
        rw [k0]; decide
      · show 0 ≤ codeN ns ((b : Int) + 1) 0 1 ∧ codeN ns ((b : Int) + 1) 0 1 ≤ 1114111
        rw [k1]; decide
      · show 0 ≤ codeN ns ((b : Int) + 1) 0 2 ∧ codeN ns ((b : Int) + 1) 0 2 ≤ 1114111
        rw [k2]; decide
      · show 0 ≤ codeN ns ((b : Int) + 1) 0 3 ∧ codeN ns ((b : Int) + 1) 0 3 ≤ 1114111
        rw [k3]; decide
    · show 65536 ≤ codeN ns ((b : Int) + 1) 0 3 ∧ codeN ns ((b : Int) + 1) 0 3 ≤ 1114111 ∧ ¬(55296 ≤ codeN ns ((b : Int) + 1) 0 3 ∧ codeN ns ((b : Int) + 1) 0 3 < 57344)
      rw [k3]; decide
end

section
-- XTX
local macro_rules | `(tactic| walk_at "call builtin:len") => `(tactic| (k_here; (with_reducible show wpAny _ _ (call (Value.builtin "len") [Value.bytes (byteArr _) _]) _ _ _); k_dflt (refine' len_B ?kC ?_; (case kC => omega); k_whole); intro _ _))
local macro_rules | `(tactic| walk_at "call builtin:chr") => `(tactic| (k_here; refine PyProof.Rows.chr_of_range (by omega) (by omega) ?_))
set_option maxHeartbeats 1000000 in
theorem s_text {w : World} {mean : ExcName → Option Value} {mg mb : Str → Option Value} (cs : List Nat) (t : Tok) (hc : Sgn cs) :
    Pu w mean mg mb 79 [.bytes (byteArr (u8 cs)) t] 6 (fun t => .str (txt cs) t) := by
  unfold Pu SP; k_fill
  refine' spec_of (binds := [(Str.ofString "octets", .bytes (byteArr (u8 cs)) t)]) ?hb (by decide) ?ho ?hcd ?hbind ?hloc ?hcell ?hco ?hgen ?hk
  ktn_open
  tb_start
  rename Fr _ _ _ _ => F1
  rename News _ _ _ _ => N1
  have hlen := hc.len
  have hoc := hc.oct
  refine while_own (fun c : Nat × Addr × List Value × Nat × Tok => [(c.2.1, listOf c.2.2.1.toArray c.2.2.2.1)])
    (fun c => [(Str.ofString "octets", Value.bytes (byteArr (u8 cs)) t), (Str.ofString "signs", Value.ref c.2.1), (Str.ofString "at", Value.int ((u8 (cs.take c.1)).length : Int) c.2.2.2.2)])
    (fun n c => c.1 + n = cs.length ∧ StrsAre c.2.2.1 ((cs.take c.1).map sg)) (0, _, [], _, _) cs.length F1 N1 (by kst_all1) ⟨Nat.zero_add _, .nil⟩ ?_
  rintro n ⟨j, D, ys, nn, ta⟩ u h₁ tk₁ ⟨hj, hys⟩ F2 N2
  dsimp only at hj hys F2 N2
  clear F1 N1
  have hj3 : j ≤ cs.length := by omega
  have hyl : ys.length ≤ 3 := by
    have h1 := strs_len hys
    rw [List.length_map, List.length_take] at h1
    have h2 := hc.few
    omega
  try k_fold
  tb_start
  · rename Fr _ _ _ _ => F3
    rename News _ _ _ _ => N3
    rename (_ : Int) < _ => hlt
    have hjl : j < cs.length := by
      rcases Nat.lt_or_ge j cs.length with h | h
      · exact h
      · rw [List.take_of_length_le h] at hlt; omega
    obtain ⟨c, hcj⟩ : ∃ c, cs[j]? = some c := ⟨cs[j], List.getElem?_eq_getElem hjl⟩
    have hm : c ∈ menu := hc.own c (List.mem_of_getElem? hcj)
    have hg := u8_get hcj
    obtain ⟨co, hcode, hel⟩ := code_ok hm hg
    have hx0 : (u8 cs).getD (((u8 (cs.take j)).length : Int)).toNat 0 = (encI c).getD 0 0 := by rw [Int.toNat_natCast]; exact hg 0 (encI_pos hm)
    have hdom := (by decide +kernel : ∀ c ∈ menu, (0 ≤ (encI c).getD 0 0 ∧ (encI c).getD 0 0 < 128) ∨ (encI c).getD 0 0 = 195 ∨ (encI c).getD 0 0 = 240) c hm
    have hf := (by decide +kernel : ∀ c ∈ menu, 0 ≤ (leadOf ((encI c).getD 0 0)).1 ∧ (leadOf ((encI c).getD 0 0)).1 ≤ 3) c hm
    have hfl : (u8 (cs.take j)).length + (encI c).length ≤ (u8 cs).length := by rw [u8_split hcj, List.length_append, List.length_append]; omega
    rw [hx0]
    refine' Spec.use (own := []) (rest := [(D, listOf ys.toArray nn)]) (s_lead _ _ hdom) ?xB F3 N3 ?xK ?xT rfl rfl ?xd ?xu (fun _ h => nomatch h) (fun _ h => h) (fun _ _ _ h => nomatch h) ?xQ (fun _ h => nomatch h)
    (case xB => assumption); (case xK => assumption); (case xT => assumption); (case xd => exact lt_dp (by assumption) (by decide)); (case xu => exact lt_un (by assumption) (by decide))
    case xQ =>
      rintro v own' h2 tk2 F4 N4 hne ⟨T, t1, t2, t3, rfl, rfl⟩
      have hTD : @Ne Nat T D := hne _ (.head _) _ (.head _)
      clear F3 N3 hne hg hx0 hdom
      generalize hLd : leadOf ((encI c).getD 0 0) = ld at *
      obtain ⟨lf, lc, ll⟩ := ld
      dsimp only [List.cons_append, List.nil_append] at *
      try k_fold
      tb_start
      rename Fr _ _ _ _ => F5
      rename News _ _ _ _ => N5
      refine' Spec.use (own := [(T, tup3 lf lc ll t1 t2 t3)]) (rest := [(D, listOf ys.toArray nn)]) (s_code _ _ _ _ _ _ _ _ _ _ _ hoc (by omega) (by omega) hf.1 hf.2 (by omega) co.c1 co.s1 co.b1 co.ok) ?xB F5 N5 ?xK ?xT rfl rfl ?xd ?xu ?xO ?xR ?xS ?xQ (fun _ h => nomatch h)
      (case xB => assumption); (case xK => assumption); (case xT => assumption); (case xd => exact lt_dp (by assumption) (by decide)); (case xu => exact lt_un (by assumption) (by decide))
      (case xO => kst_allIn); (case xR => kst_allIn)
      case xS =>
        intro p hp q hq
        rw [List.mem_singleton.mp hp, List.mem_singleton.mp hq]
        exact Ne.symm hTD
      case xQ =>
        rintro v own' h3 tk3 F6 N6 - ⟨t6, rfl, rfl⟩
        rw [hcode]
        have hc9 := (by decide : ∀ c ∈ menu, c ≤ 1114111) c hm
        dsimp only [List.cons_append, List.nil_append] at N6
        clear F5 N5 co hcode
        try k_fold
        tb_start
        have hle : ((u8 (cs.take (j + 1))).length : Int) = ((u8 (cs.take j)).length : Int) + (lf + 1) := by rw [u8_take_succ hcj, List.length_append]; omega
        rename Fr _ _ _ _ => F8
        rename News _ _ _ _ => N8
        refine' ⟨rfl, _, _, _, (j + 1, D, _, _, _), n - 1, rfl, F8, News.sub N8 ?mem, ?ps, by omega, by omega, ?sg⟩
        case mem => dsimp only; kst_allIn
        case ps => dsimp only; rw [hle]; kst_all1
        case sg =>
          dsimp only
          rw [List.take_add_one, hcj, List.map_append, List.concat_eq_append]
          exact strs_append hys (StrsAre.cons (sg c) _ StrsAre.nil)
  · rename Fr _ _ _ _ => F3
    rename News _ _ _ _ => N3
    rename ¬ (_ : Int) < _ => hlt
    have hjl : cs.take j = cs := by
      rcases Nat.lt_or_ge j cs.length with h | h
      · have := u8_lt hc h; omega
      · exact List.take_of_length_le h
    rw [hjl] at hys
    refine' join_L N3 ?nB hys hc.few ?_
    (case nB => k_mem)
    intro t4 k4
    try k_fold
    tb_start
    tb_rel
    exact ⟨_, rfl⟩
end

section
-- XSA
local macro_rules | `(tactic| walk_at "call builtin:isinstance") => `(tactic| (k_here; (with_reducible show wpAny _ _ (call _ [Value.bytes _ _, _]) _ _ _); (rename Fr _ _ _ _ => F9); k_dflt (refine' kia_one kitx_bytes ?X trivial ?ee ?nb ?_; (case X => exact Frag.In.keeps (by assumption) F9.keep); (case ee => kit_is); (case nb => kit_nb)); intro _))
set_option maxHeartbeats 1000000 in
theorem s_same_none {w : World} {mean : ExcName → Option Value} {mg mb : Str → Option Value} : Pu w mean mg mb 207 [.none, .none] 1 (fun _ => .bool true) := by
  unfold Pu SP; k_fill
  refine' spec_of (binds := [(Str.ofString "one", .none), (Str.ofString "other", .none)]) ?hb (by decide) ?ho ?hcd ?hbind ?hloc ?hcell ?hco ?hgen ?hk
  ktn_open
  tb_start
  tb_rel
  exact ⟨0, rfl⟩
set_option maxHeartbeats 1000000 in
theorem s_same_int {w : World} {mean : ExcName → Option Value} {mg mb : Str → Option Value} (n : Int) (t u : Tok) : Pu w mean mg mb 207 [.int n t, .int n u] 1 (fun _ => .bool true) := by
  unfold Pu SP; k_fill
  refine' spec_of (binds := [(Str.ofString "one", .int n t), (Str.ofString "other", .int n u)]) ?hb (by decide) ?ho ?hcd ?hbind ?hloc ?hcell ?hco ?hgen ?hk
  ktn_open
  tb_start
  tb_rel
  exact ⟨0, congrArg Value.bool (beq_self_eq_true n)⟩
set_option maxHeartbeats 1000000 in
theorem s_same_str {w : World} {mean : ExcName → Option Value} {mg mb : Str → Option Value} (x : Str) (t u : Tok) : Pu w mean mg mb 207 [.str x t, .str x u] 1 (fun _ => .bool true) := by
  unfold Pu SP; k_fill
  refine' spec_of (binds := [(Str.ofString "one", .str x t), (Str.ofString "other", .str x u)]) ?hb (by decide) ?ho ?hcd ?hbind ?hloc ?hcell ?hco ?hgen ?hk
  ktn_open
  tb_start
  tb_rel
  exact ⟨0, congrArg Value.bool (beq_self_eq_true x)⟩
set_option maxHeartbeats 1000000 in
theorem s_same_bytes {w : World} {mean : ExcName → Option Value} {mg mb : Str → Option Value} (l : List Int) (t u : Tok) : Pu w mean mg mb 207 [.bytes (byteArr l) t, .bytes (byteArr l) u] 1 (fun _ => .bool true) := by
  unfold Pu SP; k_fill
  refine' spec_of (binds := [(Str.ofString "one", .bytes (byteArr l) t), (Str.ofString "other", .bytes (byteArr l) u)]) ?hb (by decide) ?ho ?hcd ?hbind ?hloc ?hcell ?hco ?hgen ?hk
  ktn_open
  tb_start
  tb_rel
  exact ⟨0, congrArg Value.bool (beq_self_eq_true _)⟩
end

section
-- XBO
local macro_rules | `(tactic| walk_at "call builtin:isinstance") => `(tactic| (k_here; (with_reducible show wpAny _ _ (call _ [Value.bytes _ _, _]) _ _ _); (rename Fr _ _ _ _ => F9); k_dflt (refine' kia_one kitx_bytes ?X trivial ?ee ?nb ?_; (case X => exact Frag.In.keeps (by assumption) F9.keep); (case ee => kit_is); (case nb => kit_nb)); intro _))
local macro_rules | `(tactic| lcg_off) => `(tactic| repeat' (first | assumption | exact bigs_in _ _ | exact List.forall_mem_nil _ | refine Oct.append ?_ ?_))
local macro_rules | `(tactic| walk_at "call ref") => `(tactic| (k_dflt (ktd_call 94 (s_put _ _ _ _ ?p1 ?p2); (case p1 => omega); (case p2 => omega)); kqd_sub))
local macro_rules | `(tactic| walk_at "call ref") => `(tactic| (k_dflt (ktd_call 171 (s_written _ _ _ _ ?p1 ?p2); (case p1 => omega); (case p2 => omega)); kqd_sub))
local macro_rules | `(tactic| walk_at "call ref") => `(tactic| (k_dflt (ktd_call 101 (s_get _ _ _ _ _ _ ?p1 ?p2 ?p3 ?p4 ?p5 ?p6); (case p1 => lcg_off); (case p2 => omega); (case p3 => omega); (case p4 => omega); (case p5 => first | omega | (simp only [List.length_append, bigs_length]; omega)); (case p6 => first | omega | (simp only [List.length_append, bigs_length]; omega))); kqd_sub))
set_option maxHeartbeats 1000000 in
theorem s_body_bytes {w : World} {mean : ExcName → Option Value} {mg mb : Str → Option Value} (l : List Int) (t : Tok) (k : Int) (u : Tok) : Pu w mean mg mb 122 [.bytes (byteArr l) t, .int k u] 3 (fun _ => .bytes (byteArr l) t) := by
  unfold Pu SP; k_fill
  refine' spec_of (binds := [(Str.ofString "v", .bytes (byteArr l) t), (Str.ofString "kind", .int k u)]) ?hb (by decide) ?ho ?hcd ?hbind ?hloc ?hcell ?hco ?hgen ?hk
  ktn_open
  tb_start
  tb_rel
  exact ⟨0, rfl⟩
set_option maxHeartbeats 1000000 in
theorem s_body_none {w : World} {mean : ExcName → Option Value} {mg mb : Str → Option Value} (k : Int) (u : Tok) : Pu w mean mg mb 122 [.none, .int k u] 3 (fun t => .bytes (byteArr []) t) := by
  unfold Pu SP; k_fill
  refine' spec_of (binds := [(Str.ofString "v", .none), (Str.ofString "kind", .int k u)]) ?hb (by decide) ?ho ?hcd ?hbind ?hloc ?hcell ?hco ?hgen ?hk
  ktn_open
  tb_start
  all_goals (
    tb_rel
    exact ⟨_, rfl⟩)
set_option maxHeartbeats 1000000 in
theorem s_body_01 {w : World} {mean : ExcName → Option Value} {mg mb : Str → Option Value} (n : Int) (t : Tok) (k : Int) (u : Tok) (hk : k = 8 ∨ k = 9) : Pu w mean mg mb 122 [.int n t, .int k u] 3 (fun t => .bytes (byteArr []) t) := by
  unfold Pu SP; k_fill
  refine' spec_of (binds := [(Str.ofString "v", .int n t), (Str.ofString "kind", .int k u)]) ?hb (by decide) ?ho ?hcd ?hbind ?hloc ?hcell ?hco ?hgen ?hk
  ktn_open
  rcases hk with rfl | rfl
  all_goals tb_start
  all_goals (
    tb_rel
    exact ⟨_, rfl⟩)
set_option maxHeartbeats 1000000 in
theorem s_body_int {w : World} {mean : ExcName → Option Value} {mg mb : Str → Option Value} (n : Int) (t : Tok) (k : Int) (u : Tok) (hk : 1 ≤ k ∧ k ≤ 6) : Pu w mean mg mb 122 [.int n t, .int k u] 3 (fun t => .bytes (byteArr (bigs n (([0, 1, 2, 3, 4, 6, 8] : List Int).getD k.toNat 0).toNat)) t) := by
  unfold Pu SP; k_fill
  refine' spec_of (binds := [(Str.ofString "v", .int n t), (Str.ofString "kind", .int k u)]) ?hb (by decide) ?ho ?hcd ?hbind ?hloc ?hcell ?hco ?hgen ?hk
  ktn_open
  obtain ⟨hk1, hk2⟩ := hk
  rcases (by omega : k = 1 ∨ k = 2 ∨ k = 3 ∨ k = 4 ∨ k = 5 ∨ k = 6) with rfl | rfl | rfl | rfl | rfl | rfl
  all_goals tb_start
  all_goals (
    tb_rel
    exact ⟨_, rfl⟩)
end

section
-- XSD
local macro_rules | `(tactic| walk_at "call ref") => `(tactic| ktn_call 56 (x_call (ownX_56 _)))
local macro_rules | `(tactic| walk_at "call ref") => `(tactic| ktn_call 44 (x_call (ownX_44 _)))
set_option maxHeartbeats 1000000 in
theorem s_serbad {w : World} {mean : ExcName → Option Value} {mg mb : Str → Option Value} (n : Int) (t : Tok) (h : n = 7 ∨ n = 10 ∨ n = 11) :
    SP w mean mg mb 115 [.int n t] [] 4 (fun _ _ => False) (some 44) := by
  unfold SP; k_fill
  refine' spec_of (binds := [(Str.ofString "t", .int n t)]) ?hb (by decide) ?ho ?hcd ?hbind ?hloc ?hcell ?hco ?hgen ?hk
  ktn_open
  rcases h with rfl | rfl | rfl
  all_goals (
    tb_start
    refine x_Raise (C := 44) rfl ?_
    try k_fold
    tb_start)
  all_goals (
    rename NewX _ _ _ _ => hx
    rename Fr _ _ _ _ => F3
    refine x_raised (ownX_44 w) (Frag.In.keeps (by assumption) F3.keep) hx ?_
    (try k_unfold)
    (try dsimp only)
    refine x_leave_new (by assumption) hx F3 (fun h' R U => ?_) rfl
    exact ⟨44, _, _, _, rfl, rfl, rfl, R, U⟩)
end

section
-- XUT
theorem ba_pa : PlainAttrs "bytearray" :=
  ⟨⟨"bytearray.__getattribute__", by rw [typeLookup_type, builtinLookup_eq_fast]; kernel_rfl, by decide +kernel⟩, by rw [typeLookup_type, builtinLookup_eq_fast]; kernel_rfl⟩
theorem ba_ty_append : typeOf (.builtin "bytearray.append") = pure (.type "method_descriptor") := by kernel_rfl
theorem iter_str {prog : Program} {w : World} {A : Around} {E : Value → Shared → Prop} {s : Shared} {x : Str} {t : Tok} {Q : Value → Shared → Prop}
    (hQ : ∀ (o : Obj) (St : Nat → Heap → Prop), (∀ A' : Around, A'.handled = none → Walks prog w A' s.heap.objs.size [s.heap.objs.size] [s.heap.objs.size] x.cps.size (SignAt x) St) → (∀ i h, St i h → ∃ o, h.get? s.heap.objs.size = some o) → St 0 (s.heap.push o) →
      Q (.ref s.heap.objs.size) { s with heap := s.heap.push o }) : wpAny (model prog w) A (pyIter (.str x t)) Q E s := by
  cases ha : x.cps.all (· < 128)
  · exact wpAny_pyIter_wide ha (hQ _ _ (fun A' hA => Walks.strWide hA _ x t) (fun i h st => let ⟨o, ho, _⟩ := st; ⟨o, ho⟩) ⟨_, Heap.get?_push_size _ rfl, rfl, rfl⟩)
  · exact wpAny_pyIter_ascii ha (hQ _ _ (fun A' hA => Walks.strAscii hA _ x t) (fun i h st => let ⟨o, ho, _⟩ := st; ⟨o, ho⟩) ⟨_, Heap.get?_push_size _ rfl, rfl, rfl⟩)
section
variable {prog : Program} {w : World} {A : Around} {s : Shared} {g : Heap} {L D : Addr} {m : Str → Option Value} {news news' : List (Addr × Obj)}
theorem G_made_K {Q : Value → Shared → Prop} (F : Fr g L s.heap m) (h : ∀ D h', Fr g L h' m → News g L h' [(D, baO [])] → Q (.ref D) { s with heap := h' }) :
    wpG (model prog w) A (call (.type "bytearray") []) Q s := by
  refine G_made fun h' hs ho => ?_
  have hL : s.heap.objs.size ≠ L := Nat.ne_of_gt F.ns.lt
  have hg : g.get? s.heap.objs.size = none := next_is_new F
  exact h _ h' ((F.push _).change hs hL hg) fun p hp => by rw [List.mem_singleton.mp hp]; exact ⟨ho, hL, hg⟩
theorem G_append_K {l : List Int} {n : Int} {t : Tok} {Q : Value → Shared → Prop} (F : Fr g L s.heap m) (N : News g L s.heap news) (U : Upd D (baO l) (baO (l ++ [n])) news news') (h0 : 0 ≤ n) (h1 : n < 256) (hz : l.length < 1000)
    (h : ∀ h', Fr g L h' m → News g L h' news' → Q .none { s with heap := h' }) : wpG (model prog w) A (call (.builtin "bytearray.append") [.ref D, .int n t]) Q s := by
  obtain ⟨pre, post, rfl, rfl, a, b⟩ := U.split
  have z := N (D, baO l) (List.mem_append.mpr (.inr (.head _)))
  exact G_append z.1 h0 h1 hz fun h' hs ho' => h h' (F.change hs z.2.1 z.2.2) (news_set N a b hs ho')
end
/-- a bytearray's append is called -/
def AppG (prog : Program) (w : World) (A : Around) (env : Env) (pos : Pos) (args : List Expr) (Q : Value → Shared → Prop) (ov : Value) (s₁ : Shared) : Prop :=
  ∃ D l, ov = .ref D ∧ s₁.heap.get? D = some (baO l) ∧ wpG (model prog w) A (callWith pos (.builtin "bytearray.append") [.ref D] (backTo pos (starEach args env)) []) Q s₁
theorem G_appendCall {prog : Program} {w : World} {A : Around} {s : Shared} {env : Env} {o : Expr} {apos pos : Pos} {args : List Expr} {Q : Value → Shared → Prop}
    (hbase : attributeBase o "append" env (eval o env) = eval o env)
    (hfew : methodCallForm (args.length + ([] : List Keyword).length) (backTo pos (starEach args env)) (backToKw pos (keywordEach [] env)) = true)
    (hline : (apos.endLine == pos.line) = true) (h : wpAny (model prog w) A (eval o env) (AppG prog w A env pos args Q) eF s) : wpG (model prog w) A (eval (.Call (.Attribute o "append" apos) args [] pos) env) Q s := by
  refine G_method hbase hfew hline ba_pa ba_slot_append ba_ty_append (wpAny_mono h (fun ov s₁ h₁ => ?_) fun _ _ x => x)
  obtain ⟨D, l, rfl, ho, hc⟩ := h₁
  exact ⟨ba_slot ho rfl, fun a q => by cases q; exact ⟨_, ho, rfl⟩, hc⟩
theorem news_2 {g h : Heap} {L : Addr} {p : Addr × Obj} {D : Addr} {o : Obj} {r : List (Addr × Obj)} (N : News g L h (p :: (D, o) :: r)) : h.get? D = some o := (N _ (.tail _ (.head _))).1
theorem menu_mid {c : Nat} (hm : c ∈ menu) (h1 : ¬((c : Int) < 128)) (h2 : (c : Int) < 2048) : c = 233 := by
  simp only [menu, List.mem_cons, List.mem_nil_iff, or_false] at hm
  omega
theorem menu_top {c : Nat} (hm : c ∈ menu) (h1 : ¬((c : Int) < 2048)) : c = 128512 := by
  simp only [menu, List.mem_cons, List.mem_nil_iff, or_false] at hm
  omega
theorem menu_low {c : Nat} (hm : c ∈ menu) (h1 : (c : Int) < 128) : c = 97 ∨ c = 0 := by
  simp only [menu, List.mem_cons, List.mem_nil_iff, or_false] at hm
  omega
local macro_rules | `(tactic| lcg_off) => `(tactic| (
  refine G_cons (G_Expr (G_appendCall rfl (by rfl) (by rfl) ?_))
  tb_start
  unfold AppG
  refine ⟨_, _, rfl, news_2 (by assumption), ?_⟩
  refine G_machineS rfl rfl ?_
  tb_start
  refine' G_append_K ?xF ?xN ?xU ?x0 ?x1 ?xz ?_
  (case xF => k_asm); (case xN => k_asm); (case xU => k_upd); (case x0 => decide); (case x1 => decide); (case xz => first | omega | (simp only [List.length_append, List.length_cons, List.length_nil]; omega))
  intro h9 F9 N9
  refine ⟨rfl, ?_⟩
  try dsimp only))
theorem enc_97 : encI 97 = [97] := by decide +kernel
theorem enc_0 : encI 0 = [0] := by decide +kernel
theorem enc_233 : encI 233 = [195, 169] := by decide +kernel
theorem enc_top : encI 128512 = [240, 159, 152, 128] := by decide +kernel
local macro_rules | `(tactic| lcg_src) => `(tactic| (
  repeat (refine G_nil ?_; try dsimp only)
  rename Fr _ _ _ _ => F9
  rename News _ _ _ _ => N9
  refine' ⟨_, _, _, _, rfl, F9, ?N, ?ne, ⟨_, rfl, ?ps, rfl⟩⟩
  (case ps => (dsimp only; kst_all1))
  (case ne => (intro p hp; rw [List.mem_singleton.mp hp]; assumption))
  (case N => (dsimp only; rw [u8_take_succ (by assumption)]; simp only [enc_97, enc_0, enc_233, enc_top]; simp only [List.append_assoc, List.cons_append, List.nil_append] at N9; exact N9))))
set_option maxHeartbeats 1000000 in
theorem s_utf8 {w : World} {mean : ExcName → Option Value} {mg mb : Str → Option Value} (cs : List Nat) (t : Tok) (hc : Sgn cs) :
    SPG w mean mg mb 65 [.str (txt cs) t] [] 4 (fun v o => o = [] ∧ ∃ t, v = .bytes (byteArr (u8 cs)) t) := by
  unfold SPG; k_fill
  refine' specG_of (binds := [(Str.ofString "text", .str (txt cs) t)]) ?hb (by decide) ?ho ?hcd ?hbind ?hloc ?hcell ?hco ?hgen ?hk
  ktn_open
  refine G_cons (G_Assign (G_CallName ?_) rfl)
  tb_start
  refine G_machine rfl rfl (PySem.evalArgs_none (G_made_K (by k_asm) ?_))
  intro D h1 F1 N1
  tb_start
  rename Fr _ _ _ _ => F2
  refine G_cons (G_For ?_)
  tb_start
  refine iter_str fun o St W hob hst => ?_
  refine G_loopOwn (fun i : Nat => [(D, baO (u8 (cs.take i)))]) (fun _ => [(Str.ofString "found", .ref D), (Str.ofString "text", .str (txt cs) t)]) (fun i c => c = i) 0 (W _ rfl) hob rfl rfl ?hI ?hI0 hst (Fr.push (by assumption) _) ?N ?ne ?ps rfl ?turn ?done
  case hI => exact Nat.ne_of_lt (Fr.ns (by assumption)).lt
  case hI0 => exact next_is_new (by assumption)
  case N => exact fun p hp => ⟨Heap.get?_push_of_some _ ((by assumption : News _ _ _ [(D, baO [])]) p hp).1, ((by assumption : News _ _ _ [(D, baO [])]) p hp).2⟩
  case ne => exact fun p hp => Nat.ne_of_lt (Heap.lt_size ((by assumption : News _ _ _ [(D, baO [])]) p hp).1)
  case ps => kst_all1
  case done =>
    intro c u h tk hc' F3 N3
    subst hc'
    rw [List.take_of_length_le (show cs.length ≤ (txt cs).cps.size from by simp)] at N3
    dsimp only at F3 N3 ⊢
    refine G_cons (G_of ?_)
    tb_start
    rename News _ _ _ _ => N4
    refine bytes_of_ba (N4 _ (.head _)).1 (Nat.le_trans hc.len (by decide)) fun t' k' => ?_
    refine' ⟨_, [], _, _, _, KtsTurn.refl, rfl, ?F, News.nil, rfl, ⟨_, rfl⟩⟩
    (case F => k_asm)
  case turn =>
    intro i c v u h tk oI hi hS hci hne F3 N3
    obtain rfl : i = c := hci.symm
    obtain ⟨c, t1, hcc, rfl⟩ := hS
    have hcj : cs[i]? = some c := by simpa using hcc
    have hm : c ∈ menu := hc.own c (List.mem_of_getElem? hcj)
    have hD : @Ne Nat D _ := hne _ (.head _)
    dsimp only at hD
    have hl12 : (u8 (cs.take i)).length ≤ 12 := (Sgn.len ⟨(by have := hc.few; rw [List.length_take]; omega), fun c hc' => hc.own c (List.mem_of_mem_take hc')⟩)
    clear hne hi hcc W hob hst
    try clear F1
    try clear N1
    try clear F2
    refine G_cons (G_of ?_)
    tb_start
    refine G_cons (G_If ?_)
    tb_start
    · rcases menu_low hm (by omega) with rfl | rfl
      · lcg_off
        lcg_src
      · lcg_off
        lcg_src
    · refine G_cons (G_If ?_)
      tb_start
      · obtain rfl := menu_mid hm (by omega) (by omega)
        lcg_off
        lcg_off
        lcg_src
      · refine G_cons (G_If ?_)
        tb_start
        · obtain rfl := menu_top hm (by omega)
          exfalso
          omega
        · obtain rfl := menu_top hm (by omega)
          lcg_off
          lcg_off
          lcg_off
          lcg_off
          lcg_src
end

section
-- XBG
set_option maxHeartbeats 1000000 in
theorem s_body_str {w : World} {mean : ExcName → Option Value} {mg mb : Str → Option Value} (cs : List Nat) (t : Tok) (k : Int) (u : Tok) (hc : Sgn cs) :
    SPG w mean mg mb 122 [.str (txt cs) t, .int k u] [] 6 (fun v o => o = [] ∧ ∃ t, v = .bytes (byteArr (u8 cs)) t) := by
  unfold SPG; k_fill
  refine' specG_of (binds := [(Str.ofString "v", .str (txt cs) t), (Str.ofString "kind", .int k u)]) ?hb (by decide) ?ho ?hcd ?hbind ?hloc ?hcell ?hco ?hgen ?hk
  ktn_open
  refine G_cons (G_If ?_)
  tb_start
  refine G_cons (G_Return (G_CallName ?_))
  tb_start
  refine G_functionS rfl ?_
  tb_start
  rename Fr _ _ _ _ => F1
  refine ⟨⟨_, _, (Frag.In.keeps (by assumption) F1.keep) _ _ (by k_is), rfl⟩, ?_⟩
  refine SpecG.use (own := []) (rest := []) (news := []) (s_utf8 cs t hc) (by assumption) F1 News.nil (by assumption) (by assumption) rfl rfl (lt_dp (by assumption) (by decide)) (lt_un (by assumption) (by decide)) (fun _ h => nomatch h) (fun _ h => nomatch h) (fun _ h => nomatch h) ?_
  rintro v own' h' tk' g' T2 F2 N2 - B2 X2 P2 ⟨rfl, t', rfl⟩
  refine' ⟨_, [], _, _, _, T2, rfl, F2, News.nil, rfl, ⟨_, rfl⟩⟩
end

section
-- XVO
local macro_rules | `(tactic| walk_at "call builtin:len") => `(tactic| (k_here; (with_reducible show wpAny _ _ (call (Value.builtin "len") [Value.bytes (byteArr _) _]) _ _ _); k_dflt (refine' len_B ?kC ?_; (case kC => omega); k_whole); intro _ _))
local macro_rules | `(tactic| walk_at "call ref") => `(tactic| ktn_call 56 (x_call (ownX_56 _)))
local macro_rules | `(tactic| walk_at "call ref") => `(tactic| ktn_call 44 (x_call (ownX_44 _)))
theorem s_text_of {w : World} {mean : ExcName → Option Value} {mg mb : Str → Option Value} {ns : List Int} {cs : List Nat} {t : Tok} (h : ns = u8 cs) (hc : Sgn cs) : Pu w mean mg mb 79 [.bytes (byteArr ns) t] 6 (fun t => .str (txt cs) t) := by
  subst h
  exact s_text cs t hc
local macro_rules | `(tactic| lcg_off) => `(tactic| repeat' (first | assumption | exact bigs_in _ _ | exact List.forall_mem_nil _ | refine Oct.append ?_ ?_))
local macro_rules | `(tactic| walk_at "call ref") => `(tactic| (k_dflt (ktd_call 94 (s_put _ _ _ _ ?p1 ?p2); (case p1 => omega); (case p2 => omega)); kqd_sub))
local macro_rules | `(tactic| walk_at "call ref") => `(tactic| (k_dflt (ktd_call 171 (s_written _ _ _ _ ?p1 ?p2); (case p1 => omega); (case p2 => omega)); kqd_sub))
local macro_rules | `(tactic| walk_at "call ref") => `(tactic| (k_dflt (ktd_call 101 (s_get _ _ _ _ _ _ ?p1 ?p2 ?p3 ?p4 ?p5 ?p6); (case p1 => lcg_off); (case p2 => omega); (case p3 => omega); (case p4 => omega); (case p5 => first | omega | (simp only [List.length_append, bigs_length]; omega)); (case p6 => first | omega | (simp only [List.length_append, bigs_length]; omega))); kqd_sub))
local macro_rules | `(tactic| walk_at "call ref") => `(tactic| (k_dflt (ktd_call 115 (s_serial _ _ ?p1 ?p2 ?p3); (case p1 => omega); (case p2 => omega); (case p3 => omega)); kqd_sub))
local macro_rules | `(tactic| walk_at "call ref") => `(tactic| (k_dflt (ktd_call 79 (s_text_of (by assumption) (by assumption))); kqd_sub))
local macro_rules | `(tactic| walk_at "call type:bytes") => `(tactic| (k_here; (with_reducible show wpAny _ _ (call (Value.type _) [Value.bytes _ _]) _ _ _); k_dflt (refine' bytes_same ?_; k_whole)))
local macro_rules | `(tactic| walk_at "subscriptTail") => `(tactic| (k_here; (with_reducible show wpAny _ _ (subscriptTail _ (PySem.Expr.Slice (some _) (some _) none _) (Value.bytes (byteArr _) _) (Value.ref _)) _ _ _); (with_reducible rename Fr _ _ _ _ => F'); (with_reducible rename News _ _ _ _ => N'); (refine' slice_mid (s := ⟨_, _, _, _, _⟩) F' N' ?h1 ?h2 ?h3 ?h4 ?_; (case h1 => omega); (case h2 => omega); (case h3 => omega); (case h4 => omega)); intro _ _ _ _ _))
set_option maxHeartbeats 1000000 in
theorem s_vof_none {w : World} {mean : ExcName → Option Value} {mg mb : Str → Option Value} (ns : List Int) (t : Tok) (a : Int) (u v : Tok) (hz : ns.length ≤ 100) (ha : 0 ≤ a) (hb : a ≤ (ns.length : Int)) :
    Pu w mean mg mb 129 [.bytes (byteArr ns) t, .int a u, .int 0 v] 4 (fun _ => .none) := by
  unfold Pu SP; k_fill
  refine' spec_of (binds := [(Str.ofString "octets", .bytes (byteArr ns) t), (Str.ofString "at", .int a u), (Str.ofString "kind", .int 0 v)]) ?hb (by decide) ?ho ?hcd ?hbind ?hloc ?hcell ?hco ?hgen ?hk
  ktn_open
  have e : ssize 0 = 0 := by decide
  tb_start
  tb_rel
  exact ⟨0, rfl⟩
set_option maxHeartbeats 1000000 in
theorem s_vof_01 {w : World} {mean : ExcName → Option Value} {mg mb : Str → Option Value} (ns : List Int) (t : Tok) (a k : Int) (u v : Tok) (hz : ns.length ≤ 100) (ha : 0 ≤ a) (hb : a ≤ (ns.length : Int)) (hk : k = 8 ∨ k = 9) :
    Pu w mean mg mb 129 [.bytes (byteArr ns) t, .int a u, .int k v] 4 (fun t => .int (k - 8) t) := by
  unfold Pu SP; k_fill
  refine' spec_of (binds := [(Str.ofString "octets", .bytes (byteArr ns) t), (Str.ofString "at", .int a u), (Str.ofString "kind", .int k v)]) ?hb (by decide) ?ho ?hcd ?hbind ?hloc ?hcell ?hco ?hgen ?hk
  ktn_open
  have e : ssize 8 = 0 := by decide
  have e : ssize 9 = 0 := by decide
  rcases hk with rfl | rfl
  all_goals tb_start
  all_goals (
    tb_rel
    exact ⟨_, rfl⟩)
set_option maxHeartbeats 1000000 in
theorem s_vof_int {w : World} {mean : ExcName → Option Value} {mg mb : Str → Option Value} (ns : List Int) (t : Tok) (a k : Int) (u v : Tok) (hO : Oct ns) (hz : ns.length ≤ 100) (ha : 0 ≤ a) (hk : 1 ≤ k ∧ k ≤ 6) (hb : a + ssize k ≤ (ns.length : Int)) :
    Pu w mean mg mb 129 [.bytes (byteArr ns) t, .int a u, .int k v] 4 (fun t => .int (signed (fromB ((ns.drop a.toNat).take (ssize k).toNat)) (ssize k).toNat) t) := by
  unfold Pu SP; k_fill
  refine' spec_of (binds := [(Str.ofString "octets", .bytes (byteArr ns) t), (Str.ofString "at", .int a u), (Str.ofString "kind", .int k v)]) ?hb (by decide) ?ho ?hcd ?hbind ?hloc ?hcell ?hco ?hgen ?hk
  ktn_open
  have e : 0 ≤ ssize k ∧ ssize k ≤ 8 := by
    obtain ⟨hk1, hk2⟩ := hk
    rcases (by omega : k = 1 ∨ k = 2 ∨ k = 3 ∨ k = 4 ∨ k = 5 ∨ k = 6) with rfl | rfl | rfl | rfl | rfl | rfl <;> decide
  obtain ⟨e1, e2⟩ := e
  obtain ⟨hk1, hk2⟩ := hk
  tb_start
  all_goals first
    | (exfalso; omega)
    | (tb_rel; exact ⟨_, rfl⟩)
set_option maxHeartbeats 1000000 in
theorem s_vof_text {w : World} {mean : ExcName → Option Value} {mg mb : Str → Option Value} (ns : List Int) (t : Tok) (a k : Int) (u v : Tok) (cs : List Nat) (hc : Sgn cs) (hz : ns.length ≤ 100) (ha : 0 ≤ a) (hk : 12 ≤ k ∧ k < 40) (ho : k.fmod 2 = 1) (hb : a + ssize k ≤ (ns.length : Int))
    (hs : (ns.drop a.toNat).take (a + ssize k - a).toNat = u8 cs) :
    Pu w mean mg mb 129 [.bytes (byteArr ns) t, .int a u, .int k v] 9 (fun t => .str (txt cs) t) := by
  unfold Pu SP; k_fill
  refine' spec_of (binds := [(Str.ofString "octets", .bytes (byteArr ns) t), (Str.ofString "at", .int a u), (Str.ofString "kind", .int k v)]) ?hb (by decide) ?ho ?hcd ?hbind ?hloc ?hcell ?hco ?hgen ?hk
  ktn_open
  have e : 0 ≤ ssize k := by unfold ssize; rw [if_pos hk.1]; omega
  obtain ⟨hk1, hk2⟩ := hk
  tb_start
  all_goals first
    | (exfalso; omega)
    | (tb_rel; exact ⟨_, rfl⟩)
set_option maxHeartbeats 1000000 in
theorem s_vof_bytes {w : World} {mean : ExcName → Option Value} {mg mb : Str → Option Value} (ns : List Int) (t : Tok) (a k : Int) (u v : Tok) (l : List Int) (hz : ns.length ≤ 100) (ha : 0 ≤ a) (hk : 12 ≤ k ∧ k < 40) (ho : k.fmod 2 = 0) (hb : a + ssize k ≤ (ns.length : Int))
    (hs : (ns.drop a.toNat).take (a + ssize k - a).toNat = l) :
    Pu w mean mg mb 129 [.bytes (byteArr ns) t, .int a u, .int k v] 9 (fun t => .bytes (byteArr l) t) := by
  unfold Pu SP; k_fill
  refine' spec_of (binds := [(Str.ofString "octets", .bytes (byteArr ns) t), (Str.ofString "at", .int a u), (Str.ofString "kind", .int k v)]) ?hb (by decide) ?ho ?hcd ?hbind ?hloc ?hcell ?hco ?hgen ?hk
  ktn_open
  have e : 0 ≤ ssize k := by unfold ssize; rw [if_pos hk.1]; omega
  obtain ⟨hk1, hk2⟩ := hk
  tb_start
  all_goals first
    | (exfalso; omega)
    | (tb_rel; rw [hs]; exact ⟨_, rfl⟩)
set_option maxHeartbeats 1000000 in
theorem s_vof_cut {w : World} {mean : ExcName → Option Value} {mg mb : Str → Option Value} (ns : List Int) (t : Tok) (a k : Int) (u v : Tok) (hz : ns.length ≤ 100) (ha : 0 ≤ a) (hk : 0 ≤ k ∧ k < 40) (h3 : k ≠ 7 ∧ k ≠ 10 ∧ k ≠ 11) (hb : (ns.length : Int) < a + ssize k) :
    SP w mean mg mb 129 [.bytes (byteArr ns) t, .int a u, .int k v] [] 6 (fun _ _ => False) (some 44) := by
  unfold SP; k_fill
  refine' spec_of (binds := [(Str.ofString "octets", .bytes (byteArr ns) t), (Str.ofString "at", .int a u), (Str.ofString "kind", .int k v)]) ?hb (by decide) ?ho ?hcd ?hbind ?hloc ?hcell ?hco ?hgen ?hk
  ktn_open
  tb_start
  refine x_Raise (C := 44) rfl ?_
  try k_fold
  tb_start
  rename NewX _ _ _ _ => hx
  rename Fr _ _ _ _ => F3
  refine x_raised (ownX_44 w) (Frag.In.keeps (by assumption) F3.keep) hx ?_
  (try k_unfold)
  (try dsimp only)
  refine x_leave_new (by assumption) hx F3 (fun h' R U => ?_) rfl
  exact ⟨44, _, _, _, rfl, rfl, rfl, R, U⟩
set_option maxHeartbeats 1000000 in
theorem s_vof_bad {w : World} {mean : ExcName → Option Value} {mg mb : Str → Option Value} (ns : List Int) (t : Tok) (a k : Int) (u v : Tok) (hk : k = 7 ∨ k = 10 ∨ k = 11) :
    SP w mean mg mb 129 [.bytes (byteArr ns) t, .int a u, .int k v] [] 6 (fun _ _ => False) (some 44) := by
  unfold SP; k_fill
  refine' spec_of (binds := [(Str.ofString "octets", .bytes (byteArr ns) t), (Str.ofString "at", .int a u), (Str.ofString "kind", .int k v)]) ?hb (by decide) ?ho ?hcd ?hbind ?hloc ?hcell ?hco ?hgen ?hk
  ktn_open
  tb_start
  rename Fr _ _ _ _ => F1
  rename Below _ _ _ _ => B1
  refine Spec.use (own := []) (rest := []) (news := []) (s_serbad k v hk) B1 F1 News.nil (by assumption) (by assumption) rfl rfl (lt_dp (by assumption) (by decide)) (lt_un (by assumption) (by decide)) (fun _ h => nomatch h) (fun _ h => nomatch h) (fun _ h => nomatch h) ?Q ?E
  case Q =>
    rintro v own' h' tk' F' N' - hF
    exact hF.elim
  case E =>
    intro C hC a h' tk' R U
    cases hC
    (try k_unfold)
    (try dsimp only)
    refine leave_onX B1 F1 R U (fun h2 R2 U2 => ?_)
    exact ⟨44, _, _, _, rfl, rfl, rfl, R2, U2⟩
end

section
-- XCR
set_option maxHeartbeats 1000000 in
theorem s_corrupt {w : World} {mean : ExcName → Option Value} {mg mb : Str → Option Value} (ns : List Int) (t : Tok) (a k : Int) (u v : Tok) (H : SP w mean mg mb 129 [.bytes (byteArr ns) t, .int a u, .int k v] [] 6 (fun _ _ => False) (some 44)) :
    SPT w mean mg mb 190 [.bytes (byteArr ns) t, .int a u, .int k v] [] 8 (fun v o => o = [] ∧ v = .bool true) := by
  unfold SPT; k_fill
  refine' specT_of (binds := [(Str.ofString "octets", .bytes (byteArr ns) t), (Str.ofString "at", .int a u), (Str.ofString "kind", .int k v)]) ?hb (by decide) ?ho ?hcd ?hbind ?hloc ?hcell ?hco ?hgen ?hk
  ktn_open
  tb_start
  rename Fr _ _ _ _ => F1
  rename Below _ _ _ _ => B1
  refine Spec.use (own := []) (rest := []) (news := []) H B1 F1 News.nil (by assumption) (by assumption) rfl rfl (lt_dp (by assumption) (by decide)) (lt_un (by assumption) (by decide)) (fun _ h => nomatch h) (fun _ h => nomatch h) (fun _ h => nomatch h) ?Q ?E
  case Q =>
    rintro v own' h' tk' F' N' - hF
    exact hF.elim
  case E =>
    intro C hC a h' tk' R U
    cases hC
    (try k_unfold)
    try dsimp only
    refine' caught_X (bm := bmX) R F1 B1 U (by assumption) (by assumption) ?ex ?q rfl ?_ rfl rfl
    case ex => k_is
    case q =>
      obtain ⟨_, _, _, _, _, _, _, _, _, _, _, _, _, _, _, hO⟩ := (ownX_44 w).obj
      exact ⟨_, _, _, _, _, _, _, _, _, _, _, _, _, _, _, _, hO⟩
    intro h2 g2 oe T2 F2 N2 B2 X2 P2 hf
    have HX2 := hf.hg
    clear F1 B1
    try k_fold
    tb_start
    refine' ⟨g2, [], _, _, _, T2, rfl, ?F, News.nil, rfl, rfl⟩
    (case F => k_asm)
end

section
-- XVK
theorem Spec.deeper {prog : Program} {K : Params → Frag} {w : World} {mean : ExcName → Option Value} {mg mb : Str → Option Value} {hx : Option Value} {Φ : Heap → Prop} {f : Addr} {vs : List Value} {own : List (Addr × Obj)} {d d' : Nat} {P : Value → List (Addr × Obj) → Prop} {X : Option Addr}
    (H : Spec prog K w mean mg mb hx Φ f vs own d P X) (h : d ≤ d') : Spec prog K w mean mg mb hx Φ f vs own d' P X := by
  intro dp un gd env outer A₀ base h₀ L m news rest s R a1 a2 a3 a4 a5 a6 a7 a8 a9 a10 a11 a12 a13 hQ hE
  exact H dp un gd env outer A₀ base h₀ L m news rest s R a1 a2 a3 a4 a5 a6 a7 a8 (by omega) (by omega) a11 a12 a13 hQ hE
/-- the types of whole numbers -/
theorem nt_some {n k : Int} (h : ntype n = some k) : (k = 8 ∧ n = 0) ∨ (k = 9 ∧ n = 1) ∨ (k = 1 ∧ -128 ≤ n ∧ n < 128) ∨ (k = 2 ∧ -32768 ≤ n ∧ n < 32768) ∨ (k = 3 ∧ -8388608 ≤ n ∧ n < 8388608) ∨
    (k = 4 ∧ -2147483648 ≤ n ∧ n < 2147483648) ∨ (k = 5 ∧ -140737488355328 ≤ n ∧ n < 140737488355328) ∨ (k = 6 ∧ -9223372036854775808 ≤ n ∧ n < 9223372036854775808) := by
  unfold ntype at h
  split at h
  · cases h; exact .inl ⟨rfl, by assumption⟩
  split at h
  · cases h; exact .inr (.inl ⟨rfl, by assumption⟩)
  split at h
  · cases h; exact .inr (.inr (.inl ⟨rfl, by assumption⟩))
  split at h
  · cases h; exact .inr (.inr (.inr (.inl ⟨rfl, by assumption⟩)))
  split at h
  · cases h; exact .inr (.inr (.inr (.inr (.inl ⟨rfl, by assumption⟩))))
  split at h
  · cases h; exact .inr (.inr (.inr (.inr (.inr (.inl ⟨rfl, by assumption⟩)))))
  split at h
  · cases h; exact .inr (.inr (.inr (.inr (.inr (.inr (.inl ⟨rfl, by assumption⟩))))))
  split at h
  · cases h; exact .inr (.inr (.inr (.inr (.inr (.inr (.inr ⟨rfl, by assumption⟩))))))
  · cases h
theorem nt_89 {n k : Int} (h : ntype n = some k) (h8 : k = 8 ∨ k = 9) : k - 8 = n := by
  rcases nt_some h with ⟨rfl, rfl⟩ | ⟨rfl, rfl⟩ | ⟨rfl, _⟩ | ⟨rfl, _⟩ | ⟨rfl, _⟩ | ⟨rfl, _⟩ | ⟨rfl, _⟩ | ⟨rfl, _⟩
  · rfl
  · rfl
  all_goals exact absurd h8 (by decide)
theorem nt_16 {n k : Int} (h : ntype n = some k) (h8 : ¬(k = 8 ∨ k = 9)) : 1 ≤ k ∧ k ≤ 6 := by
  rcases nt_some h with ⟨rfl, _⟩ | ⟨rfl, _⟩ | ⟨rfl, _⟩ | ⟨rfl, _⟩ | ⟨rfl, _⟩ | ⟨rfl, _⟩ | ⟨rfl, _⟩ | ⟨rfl, _⟩
  · exact absurd (.inl rfl) h8
  · exact absurd (.inr rfl) h8
  all_goals decide
theorem sz_16 {k : Int} (h : 1 ≤ k ∧ k ≤ 6) : ssize k = kszs.getD k.toNat 0 ∧ kszs.getD k.toNat 0 = ([0, 1, 2, 3, 4, 6, 8] : List Int).getD k.toNat 0 ∧ 1 ≤ ssize k ∧ ssize k ≤ 8 := by
  obtain ⟨a, b⟩ := h
  rcases (by omega : k = 1 ∨ k = 2 ∨ k = 3 ∨ k = 4 ∨ k = 5 ∨ k = 6) with rfl | rfl | rfl | rfl | rfl | rfl <;> decide
/-- the lengths that value_of meets -/
theorem vl_a {xs B ys : List Int} (hx : xs.length ≤ 3) (hB : B.length ≤ 12) (hy : ys.length ≤ 3) : (xs ++ B ++ ys).length ≤ 100 := by rw [List.length_append, List.length_append]; omega
theorem vl_b {xs B ys : List Int} : (xs.length : Int) + (B.length : Int) ≤ ((xs ++ B ++ ys).length : Int) := by rw [List.length_append, List.length_append]; omega
theorem vl_c {xs B : List Int} {z : Int} (hx : xs.length ≤ 3) (hB : B.length ≤ 12) : (xs ++ B.take (z - 1).toNat).length ≤ 100 := by rw [List.length_append, List.length_take]; omega
theorem vl_d {xs B : List Int} {z : Int} (hz : z = (B.length : Int)) (h0 : 0 < z) : ((xs ++ B.take (z - 1).toNat).length : Int) < (xs.length : Int) + z := by rw [List.length_append, List.length_take]; omega
theorem vl_0 {xs : List Int} : (0 : Int) ≤ (xs.length : Int) := Int.natCast_nonneg _
theorem vl_n {xs ys : List Int} (hx : xs.length ≤ 3) (hy : ys.length ≤ 3) : (xs ++ [] ++ ys).length ≤ 100 ∧ (xs.length : Int) ≤ ((xs ++ [] ++ ys).length : Int) := by simp only [List.append_nil, List.length_append]; omega
theorem vl_t {n : Nat} (h : n ≤ 12) : (12 ≤ 13 + 2 * (n : Int) ∧ 13 + 2 * (n : Int) < 40) ∧ (0 ≤ 13 + 2 * (n : Int) ∧ 13 + 2 * (n : Int) < 40) ∧ (13 + 2 * (n : Int) ≠ 7 ∧ 13 + 2 * (n : Int) ≠ 10 ∧ 13 + 2 * (n : Int) ≠ 11) ∧ (13 + 2 * (n : Int)).fmod 2 = 1 ∧ ssize (13 + 2 * (n : Int)) = (n : Int) := by
  refine ⟨by omega, by omega, by omega, by rw [Int.fmod_eq_emod_of_nonneg _ (by decide)]; omega, by unfold ssize; rw [if_pos (by omega)]; omega⟩
theorem vl_y {n : Nat} (h : n ≤ 12) : (12 ≤ 12 + 2 * (n : Int) ∧ 12 + 2 * (n : Int) < 40) ∧ (0 ≤ 12 + 2 * (n : Int) ∧ 12 + 2 * (n : Int) < 40) ∧ (12 + 2 * (n : Int) ≠ 7 ∧ 12 + 2 * (n : Int) ≠ 10 ∧ 12 + 2 * (n : Int) ≠ 11) ∧ (12 + 2 * (n : Int)).fmod 2 = 0 ∧ ssize (12 + 2 * (n : Int)) = (n : Int) := by
  refine ⟨by omega, by omega, by omega, by rw [Int.fmod_eq_emod_of_nonneg _ (by decide)]; omega, by unfold ssize; rw [if_pos (by omega)]; omega⟩
theorem vl_i {k : Int} (h : 1 ≤ k ∧ k ≤ 6) : (0 ≤ k ∧ k < 40) ∧ (k ≠ 7 ∧ k ≠ 10 ∧ k ≠ 11) := by omega
theorem vl_z {z : Int} (h1 : 1 ≤ z) (h2 : z ≤ 8) : z = ((z.toNat : Nat) : Int) ∧ z.toNat ≤ 12 := by omega
theorem signed_in {n p : Int} {k : Nat} (hk : k ≠ 0) (hp : (256 : Int) ^ k = 2 * p) (h0 : 0 < p) (h1 : -p ≤ n) (h2 : n < p) : signed (n % 256 ^ k) k = n := by
  unfold signed
  rw [if_neg hk, hp, show 2 * p / 2 = p by omega]
  have h3 := Int.emod_nonneg n (show (2 * p) ≠ 0 by omega)
  have h4 := Int.emod_lt_of_pos n (show 0 < 2 * p by omega)
  have h5 := Int.mul_ediv_add_emod n (2 * p)
  rcases Int.lt_or_le n 0 with h | h
  · have e : n % (2 * p) = n + 2 * p := by
      rw [← Int.add_emod_right, Int.emod_eq_of_lt (by omega) (by omega)]
    rw [e, if_pos (by omega)]
    omega
  · have e : n % (2 * p) = n := Int.emod_eq_of_lt h (by omega)
    rw [e, if_neg (by omega)]
theorem signed_back {n k : Int} (h : ntype n = some k) (hk : k ≤ 6) : signed (n % 256 ^ (ssize k).toNat) (ssize k).toNat = n := by
  rcases nt_some h with ⟨rfl, _⟩ | ⟨rfl, _⟩ | ⟨rfl, h1, h2⟩ | ⟨rfl, h1, h2⟩ | ⟨rfl, h1, h2⟩ | ⟨rfl, h1, h2⟩ | ⟨rfl, h1, h2⟩ | ⟨rfl, h1, h2⟩
  · exact absurd hk (by decide)
  · exact absurd hk (by decide)
  · exact signed_in (p := 128) (by decide) (by decide +kernel) (by decide) h1 h2
  · exact signed_in (p := 32768) (by decide) (by decide +kernel) (by decide) h1 h2
  · exact signed_in (p := 8388608) (by decide) (by decide +kernel) (by decide) h1 h2
  · exact signed_in (p := 2147483648) (by decide) (by decide +kernel) (by decide) h1 h2
  · exact signed_in (p := 140737488355328) (by decide) (by decide +kernel) (by decide) h1 h2
  · exact signed_in (p := 9223372036854775808) (by decide) (by decide +kernel) (by decide) h1 h2
/-- what the law asks of a cell: body_of gives its octets, value_of finds it again, and raises where the last octet is missing -/
def ValOk (w : World) (mean : ExcName → Option Value) (mg mb : Str → Option Value) (x : Value) (k z : Int) (B : List Int) : Prop :=
  (z = (B.length : Int) ∧ B.length ≤ 12 ∧ Oct B) ∧
  (∀ u, SPG w mean mg mb 122 [x, .int k u] [] 6 (fun v o => o = [] ∧ ∃ t, v = .bytes (byteArr B) t)) ∧
  (∀ xs ys t u v, Oct xs → Oct ys → xs.length ≤ 3 → ys.length ≤ 3 → ∃ mk : Tok → Value, Pu w mean mg mb 129 [.bytes (byteArr (xs ++ B ++ ys)) t, .int (xs.length : Int) u, .int k v] 9 mk ∧ ∀ t', Pu w mean mg mb 207 [mk t', x] 1 (fun _ => .bool true)) ∧
  (∀ xs t u v, xs.length ≤ 3 → 0 < z → SP w mean mg mb 129 [.bytes (byteArr (xs ++ B.take (z - 1).toNat)) t, .int (xs.length : Int) u, .int k v] [] 6 (fun _ _ => False) (some 44))
theorem mid_at (xs B ys : List Int) {m : Int} (h : m = (B.length : Int)) : List.take (((xs.length : Int) + m) - (xs.length : Int)).toNat (List.drop ((xs.length : Int)).toNat (xs ++ B ++ ys)) = B :=
  mid_of xs ys B _ (by omega)
theorem val_ok {w : World} {mean : ExcName → Option Value} {mg mb : Str → Option Value} {x : Value} {k z : Int} (h : LVal x k z) : ∃ B, ValOk w mean mg mb x k z B := by
  rcases h with ⟨rfl, rfl, rfl⟩ | ⟨cs, t0, hc, rfl, rfl, rfl⟩ | ⟨l, t0, hO, hl, rfl, rfl, rfl⟩ | ⟨n, t0, rfl, hn, rfl⟩
  · refine ⟨[], ⟨rfl, by decide, List.forall_mem_nil _⟩, fun u => (Spec.deeper (s_body_none 0 u) (by decide)).toG, fun xs ys t u v hx hy hx3 hy3 => ⟨fun _ => .none, ?_, fun _ => s_same_none⟩, fun xs t u v _ h0 => absurd h0 (by decide)⟩
    exact Spec.deeper (s_vof_none _ t _ u v (vl_n hx3 hy3).1 vl_0 (vl_n hx3 hy3).2) (by decide)
  · have hlen := hc.len
    obtain ⟨k1, k2, k3, k4, hsz⟩ := vl_t hlen
    refine ⟨u8 cs, ⟨rfl, hlen, hc.oct⟩, fun u => s_body_str cs t0 _ u hc, fun xs ys t u v hx hy hx3 hy3 => ⟨fun t => .str (txt cs) t, ?_, fun t' => s_same_str _ t' t0⟩, fun xs t u v hx3 h0 => ?_⟩
    · exact s_vof_text _ t _ _ u v cs hc (vl_a hx3 hlen hy3) vl_0 k1 k4 (by rw [hsz]; exact vl_b) (by rw [hsz]; exact mid_at xs (u8 cs) ys rfl)
    · exact s_vof_cut _ t _ _ u v (vl_c hx3 hlen) vl_0 k2 k3 (by rw [hsz]; exact vl_d rfl h0)
  · have hl12 : l.length ≤ 12 := by omega
    obtain ⟨k1, k2, k3, k4, hsz⟩ := vl_y hl12
    refine ⟨l, ⟨rfl, hl12, hO⟩, fun u => ?_, fun xs ys t u v hx hy hx3 hy3 => ⟨fun t => .bytes (byteArr l) t, ?_, fun t' => s_same_bytes _ t' t0⟩, fun xs t u v hx3 h0 => ?_⟩
    · have := (Spec.deeper (d' := 6) (s_body_bytes (w := w) (mean := mean) (mg := mg) (mb := mb) l t0 (12 + 2 * (l.length : Int)) u) (by decide)).toG
      intro dp un gd env outer A₀ base h₀ L m news rest s R a1 a2 a3 a4 a5 a6 a7 a8 a9 a10 a11 a12 hQ
      refine this dp un gd env outer A₀ base h₀ L m news rest s R a1 a2 a3 a4 a5 a6 a7 a8 a9 a10 a11 a12 (fun v own' h' tk' h₀' b1 b2 b3 b4 b5 b6 => ?_)
      obtain ⟨c1, t', c2⟩ := b6
      exact hQ v own' h' tk' h₀' b1 b2 b3 b4 b5 ⟨c1, t0, c2⟩
    · exact s_vof_bytes _ t _ _ u v l (vl_a hx3 hl12 hy3) vl_0 k1 k4 (by rw [hsz]; exact vl_b) (by rw [hsz]; exact mid_at xs l ys rfl)
    · exact s_vof_cut _ t _ _ u v (vl_c hx3 hl12) vl_0 k2 k3 (by rw [hsz]; exact vl_d rfl h0)
  · by_cases h8 : k = 8 ∨ k = 9
    · have hz : kszs.getD k.toNat 0 = 0 := by rcases h8 with rfl | rfl <;> rfl
      have hkn : k - 8 = n := nt_89 hn h8
      rw [hz]
      refine ⟨[], ⟨rfl, by decide, List.forall_mem_nil _⟩, fun u => (Spec.deeper (s_body_01 n t0 k u h8) (by decide)).toG, fun xs ys t u v hx hy hx3 hy3 => ⟨fun t => .int n t, ?_, fun t' => s_same_int n t' t0⟩, fun xs t u v _ h0 => absurd h0 (by decide)⟩
      have := Spec.deeper (d' := 9) (s_vof_01 (w := w) (mean := mean) (mg := mg) (mb := mb) (xs ++ [] ++ ys) t (xs.length : Int) k u v (vl_n hx3 hy3).1 vl_0 (vl_n hx3 hy3).2 h8) (by decide)
      rw [hkn] at this
      exact this
    · have hk6 : 1 ≤ k ∧ k ≤ 6 := nt_16 hn h8
      obtain ⟨e1, e2, e3, e4⟩ := sz_16 hk6
      have hbk := signed_back hn hk6.2
      rw [← e1]
      have hbl : (bigs n (ssize k).toNat).length = (ssize k).toNat := bigs_length _ _
      have hz := vl_z e3 e4
      have hz1 : ssize k = ((bigs n (ssize k).toNat).length : Int) := by rw [hbl]; exact hz.1
      have hz2 : (bigs n (ssize k).toNat).length ≤ 12 := by rw [hbl]; exact hz.2
      refine ⟨bigs n (ssize k).toNat, ⟨hz1, hz2, bigs_in _ _⟩, fun u => ?_, fun xs ys t u v hx hy hx3 hy3 => ⟨fun t => .int n t, ?_, fun t' => s_same_int n t' t0⟩, fun xs t u v hx3 h0 => ?_⟩
      · have := (Spec.deeper (d' := 6) (s_body_int (w := w) (mean := mean) (mg := mg) (mb := mb) n t0 k u hk6) (by decide)).toG
        rw [← e2, ← e1] at this
        exact this
      · have := Spec.deeper (d' := 9) (s_vof_int (w := w) (mean := mean) (mg := mg) (mb := mb) (xs ++ bigs n (ssize k).toNat ++ ys) t (xs.length : Int) k u v ((hx.append (bigs_in _ _)).append hy) (vl_a hx3 hz2 hy3) vl_0 hk6 (Int.le_trans (Int.le_of_eq (congrArg (fun q => (xs.length : Int) + q) hz1)) vl_b)) (by decide)
        rw [mid_of xs ys (bigs n (ssize k).toNat) (ssize k).toNat hbl, fromB_bigs, hbk] at this
        exact this
      · exact s_vof_cut _ t _ _ u v (vl_c hx3 hz2) vl_0 (vl_i hk6).1 (vl_i hk6).2 (vl_d hz1 h0)
end

section
-- XRI
local macro_rules | `(tactic| walk_at "call builtin:len") => `(tactic| (k_here; (with_reducible show wpAny _ _ (call (Value.builtin "len") [Value.bytes (byteArr _) _]) _ _ _); k_dflt (refine' len_B ?kC ?_; (case kC => omega); k_whole); intro _ _))
local macro_rules | `(tactic| walk_at "call ref") => `(tactic| (k_dflt (ktr_call 195 (Spec.useS (s_octets _ _ _ _ _ _ _ _ ?p1 ?p2 ?p3 ?p4 ?p5)); (case p1 => omega); (case p2 => omega); (case p3 => omega); (case p4 => first | omega | assumption); (case p5 => first | omega | assumption)); kxt_pos))
local macro_rules | `(tactic| lcg_src) => `(tactic| (refine' use_one ?xB ?xF ?xN ?xK ?xT rfl rfl ?xd ?xu ?xU ?xM ?xO ?p1 ?p2 ?p3 ?p4 ?p5 ?_; kqd_in; (case xU => k_updF); (case xM => k_mem); (case xO => k_ne); (case p1 => omega); (case p2 => omega); (case p3 => omega); (case p4 => (simp only [List.length_cons, List.length_nil]; omega)); (case p5 => (simp only [List.length_cons, List.length_nil]; omega))))
local macro_rules | `(tactic| walk_at "subscriptTail") => `(tactic| (k_here; (with_reducible show wpAny _ _ (subscriptTail _ (PySem.Expr.Slice none (some _) none _) (Value.bytes (byteArr _) _) (Value.ref _)) _ _ _); (with_reducible rename Fr _ _ _ _ => F'); (with_reducible rename News _ _ _ _ => N'); (refine' slice_upto (s := ⟨_, _, _, _, _⟩) F' N' ?h1 ?h2 ?h4 ?_; (case h1 => omega); (case h2 => omega); (case h4 => omega)); intro _ _ _ _ _))
local macro_rules | `(tactic| walk_at "call type:bytes") => `(tactic| (k_here; (with_reducible show wpAny _ _ (call (Value.type _) [Value.int _ _]) _ _ _); k_dflt (refine' bytes_count (by omega) (by omega) ?_; k_whole); intro _ _))
local macro_rules | `(tactic| walk_at "binaryOp Add bytes bytes") => `(tactic| (k_here; (with_reducible show wpAny _ _ (binaryOp Operator.Add (Value.bytes (byteArr _) _) (Value.bytes (byteArr _) _)) _ _ _); k_dflt (refine' add_B ?kz ?_; (case kz => first | omega | (simp only [List.length_append, List.length_take, List.length_replicate, bigs_length]; omega)); k_whole); intro _ _))
local macro_rules | `(tactic| walk_at "call ref") => `(tactic| (k_dflt (ktr_call 157 (Spec.useS (s_number _ _ _ _ _ _ ?p1 ?p2 ?p3)); (case p1 => omega); (case p2 => omega); (case p3 => omega)); kxt_pos))
local macro_rules | `(tactic| walk_at "call ref") => `(tactic| (k_dflt (ktr_call 214 (Spec.useS (s_fixed _ _ _ _ _ _ _ _ _ _ _ _ ?p1 ?p2 ?p3 ?p4 ?p5 ?p6 ?p7)); (case p1 => omega); (case p2 => omega); (case p3 => omega); (case p4 => assumption); (case p5 => assumption); (case p6 => omega); (case p7 => omega)); intro v9 a9 b9 ta9 tb9 nn9 h9 tk9 F9 N9 hp9 ha9 hb9 hc9; (try dsimp only at N9); subst hp9; (try dsimp only); (try k_sweep)))
section
variable {w : World} {mean : ExcName → Option Value} {mg mb : Str → Option Value} {x : Value} {k : Int} {B : List Int}
  {dp un : Nat} {gd : Option (List Code)} {outer : List Env} {base g : Heap} {L : Addr} {m : Str → Option Value} {news : List (Addr × Obj)} {s : Shared} {Q E : Value → Shared → Prop} {env : Env} {xs ys : List Int} {t u v : Tok}
theorem vof_use (H : ∀ xs ys t u v, Oct xs → Oct ys → xs.length ≤ 3 → ys.length ≤ 3 → ∃ mk : Tok → Value, Pu w mean mg mb 129 [.bytes (byteArr (xs ++ B ++ ys)) t, .int (xs.length : Int) u, .int k v] 9 mk ∧ ∀ t', Pu w mean mg mb 207 [mk t', x] 1 (fun _ => .bool true))
    (hx : Oct xs) (hy : Oct ys) (hx3 : xs.length ≤ 3) (hy3 : ys.length ≤ 3) (K : Below (Ar dp un gd outer) base outer g) (F : Fr g L s.heap m) (N : News g L s.heap news) (KB : (Hd.hd.heap_1 w.params).In base) (TB : TopV mean mg mb base)
    (hf : env.frame = some L) (hk : env.scope.kind = .function) (hd : dp + 1 + 9 < recursionLimit) (hu : un + 3 + 8 * 9 < cLine)
    (hQ : ∀ v' h' tk', Pu w mean mg mb 207 [v', x] 1 (fun _ => .bool true) → Fr g L h' m → News g L h' news → Q v' { s with heap := h', toks := tk' }) :
    wpAny (model PySem.Challenge.rw_xm0753_01.row.prog w) ((Ar dp un gd outer).deeper env) (call (.ref 129) [.bytes (byteArr (xs ++ B ++ ys)) t, .int (xs.length : Int) u, .int k v]) Q E s := by
  obtain ⟨mk, h1, h2⟩ := H xs ys t u v hx hy hx3 hy3
  exact Spec.useP h1 K F N KB TB hf hk hd hu fun t' h' tk' F' N' => hQ _ h' tk' (h2 t') F' N'
end
theorem pick_bad {ta tb tc : Tok} {i : Nat} {v : Value} (hi : i < [Value.int 7 ta, .int 10 tb, .int 11 tc].length) (hv : [Value.int 7 ta, .int 10 tb, .int 11 tc][i]? = some v) : ∃ k t, v = .int k t ∧ (k = 7 ∨ k = 10 ∨ k = 11) := by
  match i, hi with
  | 0, _ => cases hv; exact ⟨_, _, rfl, .inl rfl⟩
  | 1, _ => cases hv; exact ⟨_, _, rfl, .inr (.inl rfl)⟩
  | 2, _ => cases hv; exact ⟨_, _, rfl, .inr (.inr rfl)⟩
  | n + 3, h => exact absurd h (by simp)
set_option maxHeartbeats 1000000 in
theorem s_right {w : World} {mean : ExcName → Option Value} {mg mb : Str → Option Value} (S : Addr) (a b : Int) (ta tb : Tok) (nn : Nat) (ha : 0 ≤ a) (hb0 : 0 ≤ b) (hb : b < 2147483647) :
    SPG w mean mg mb 221 [.ref S] [(S, srcO a b ta tb nn)] 13 (fun v o => o = [] ∧ v = .bool true) := by
  unfold SPG; k_fill
  refine' specG_of (binds := [(Str.ofString "source", .ref S)]) ?hb (by decide) ?ho ?hcd ?hbind ?hloc ?hcell ?hco ?hgen ?hk
  ktn_open
  refine G_cons (G_of ?_)
  tb_start
  refine G_cons (G_of ?_)
  tb_start
  refine G_cons (G_If ?_)
  tb_start
  rename Below _ _ _ _ => B1
  refine' SpecT.use (own := []) (s_ltr _ _) ?xB ?xF ?xN ?xK ?xT rfl rfl ?xd ?xu (fun _ h => nomatch h) (fun _ h => h) (fun _ _ _ h => nomatch h) ?xQ
  (case xB => exact B1); (case xF => k_asm); (case xN => k_asm); (case xK => assumption); (case xT => assumption); (case xd => exact lt_dp (by assumption) (by decide)); (case xu => exact lt_un (by assumption) (by decide))
  case xQ =>
  rintro v1 own1 h1 tk1 g1 T1 F1 N1 - B2 X2 P2 ⟨rfl, rfl⟩
  clear B1
  try dsimp only [List.nil_append] at N1
  try k_fold
  tb_start
  refine G_nil ?_
  try dsimp only
  refine G_cons (G_of ?_)
  tb_start
  refine' Spec.use (own := [(S, srcO _ _ _ _ _)]) (rest := []) (s_value _ _ _ _ _ _ _ _ ?p1 ?p2 ?p3) ?xB ?xF ?xN ?xK ?xT rfl rfl ?xd ?xu ?xO (fun _ h => nomatch h) (fun _ h => nomatch h) ?xQ (fun _ h => nomatch h)
  (case xB => assumption); (case xF => k_asm); (case xN => k_asm); (case xK => assumption); (case xT => assumption); (case xd => exact lt_dp (by assumption) (by decide)); (case xu => exact lt_un (by assumption) (by decide))
  (case xO => kst_allIn)
  (case p1 => assumption); (case p2 => assumption); (case p3 => assumption)
  rintro v2 own2 h2 tk2 F2 N2 - ⟨T, x, k, kt, z, zt, a2, b2, ta2, tb2, nn2, rfl, rfl, hTS, ha2, hb2, hc2, hLV⟩
  have hTS' : @Ne Nat T S := hTS
  obtain ⟨B, ⟨hz, hB12, hBO⟩, hbody, hvof, hcut⟩ := val_ok (w := w) (mean := mean) (mg := mg) (mb := mb) hLV
  subst hz
  dsimp only [List.cons_append, List.nil_append] at N2
  try k_fold
  tb_start
  refine G_cons (G_Assign (G_CallName ?_) rfl)
  tb_start
  refine G_functionS rfl ?_
  tb_start
  rename Fr _ _ _ _ => F3
  rename News _ _ _ _ => N3
  refine ⟨⟨_, _, (Frag.In.keeps (by assumption) F3.keep) _ _ (by k_is), rfl⟩, ?_⟩
  refine' SpecG.use (own := []) (rest := [(S, srcO _ _ _ _ _)]) (hbody _) B2 F3 N3 ?yK ?yT rfl rfl ?yd ?yu (fun _ h => nomatch h) ?yR (fun _ _ _ h => nomatch h) ?_
  (case yK => assumption); (case yT => assumption); (case yd => exact lt_dp (by assumption) (by decide)); (case yu => exact lt_un (by assumption) (by decide))
  (case yR => kst_allIn)
  rintro v3 own3 h3 tk3 g3 T3 F4 N4 - B4 X4 P4 ⟨rfl, t3, rfl⟩
  clear B2 F3 N3
  dsimp only [List.nil_append] at N4
  try k_fold
  tb_start
  refine G_cons (G_If ?_)
  tb_start
  · exact absurd rfl (by assumption)
  refine' vof_use hvof ?z1 ?z2 ?zx ?zy ?zB ?zF ?zN ?zK ?zT rfl rfl ?zd ?zu ?_
  (case zB => assumption); (case zF => k_asm); (case zN => k_asm); (case zK => assumption); (case zT => assumption); (case zd => exact lt_dp (by assumption) (by decide)); (case zu => exact lt_un (by assumption) (by decide)); (case zx => omega); (case zy => omega); (case z1 => assumption); (case z2 => assumption)
  intro v5 h5 tk5 hsame F5 N5
  try k_fold
  tb_start
  refine' Spec.useP hsame ?sB ?sF ?sN ?sK ?sT rfl rfl ?sd ?su ?_
  (case sB => assumption); (case sF => k_asm); (case sN => k_asm); (case sK => assumption); (case sT => assumption); (case sd => exact lt_dp (by assumption) (by decide)); (case su => exact lt_un (by assumption) (by decide))
  intro t6 h6 tk6 F6 N6
  try k_fold
  tb_start
  refine G_nil ?_
  try dsimp only
  refine G_cons (G_If ?_)
  tb_start
  · rename Below _ _ _ _ => B5
    refine' SpecT.use (own := []) (rest := [(S, srcO _ _ _ _ _)]) (s_corrupt _ _ _ _ _ _ (hcut _ _ _ _ ?w1 ?w2)) B5 ?wF ?wN ?wK ?wT rfl rfl ?wd ?wu (fun _ h => nomatch h) ?wR (fun _ _ _ h => nomatch h) ?_
    (case wF => k_asm); (case wN => k_asm); (case wK => assumption); (case wT => assumption); (case wd => exact lt_dp (by assumption) (by decide)); (case wu => exact lt_un (by assumption) (by decide)); (case w1 => omega); (case w2 => omega)
    (case wR => kst_allIn)
    rintro v7 own7 h7 tk7 g7 T7 F7 N7 - B7 X7 P7 ⟨rfl, rfl⟩
    clear B5
    have TT := (T1.trans T3).trans T7
    clear T1 T3 T7
    dsimp only [List.nil_append] at N7
    try k_fold
    tb_start
    refine G_nil ?_
    try dsimp only
    refine G_cons (G_of ?_)
    tb_start
    lcg_src
    intro i8 v8 a8 b8 ta8 tb8 nn8 h8 tk8 hi8 hv8 F8 N8 ha8 hb8 hc8
    obtain ⟨k8, t8, rfl, hk8⟩ := pick_bad hi8 hv8
    clear hv8
    try k_fold
    tb_start
    refine' SpecT.use (own := []) (rest := []) (s_corrupt _ _ _ _ _ _ (s_vof_bad _ _ _ _ _ _ hk8)) ?vB ?vF ?vN ?vK ?vT rfl rfl ?vd ?vu (fun _ h => nomatch h) (fun _ h => nomatch h) (fun _ _ _ h => nomatch h) ?_
    (case vB => assumption); (case vF => k_asm); (case vN => k_asm); (case vK => assumption); (case vT => assumption); (case vd => exact lt_dp (by assumption) (by decide)); (case vu => exact lt_un (by assumption) (by decide))
    rintro v9 own9 h9 tk9 g9 T9 F9 N9 - B9 X9 P9 ⟨rfl, rfl⟩
    (try k_unfold)
    (try dsimp only)
    refine' ⟨g9, [], _, _, _, TT.trans T9, rfl, F9, News.nil, rfl, rfl⟩
  · have TT := T1.trans T3
    clear T1 T3
    refine G_nil ?_
    try dsimp only
    refine G_cons (G_of ?_)
    tb_start
    lcg_src
    intro i8 v8 a8 b8 ta8 tb8 nn8 h8 tk8 hi8 hv8 F8 N8 ha8 hb8 hc8
    obtain ⟨k8, t8, rfl, hk8⟩ := pick_bad hi8 hv8
    clear hv8
    try k_fold
    tb_start
    refine' SpecT.use (own := []) (rest := []) (s_corrupt _ _ _ _ _ _ (s_vof_bad _ _ _ _ _ _ hk8)) ?vB ?vF ?vN ?vK ?vT rfl rfl ?vd ?vu (fun _ h => nomatch h) (fun _ h => nomatch h) (fun _ _ _ h => nomatch h) ?_
    (case vB => assumption); (case vF => k_asm); (case vN => k_asm); (case vK => assumption); (case vT => assumption); (case vd => exact lt_dp (by assumption) (by decide)); (case vu => exact lt_un (by assumption) (by decide))
    rintro v9 own9 h9 tk9 g9 T9 F9 N9 - B9 X9 P9 ⟨rfl, rfl⟩
    (try k_unfold)
    (try dsimp only)
    refine' ⟨g9, [], _, _, _, TT.trans T9, rfl, F9, News.nil, rfl, rfl⟩
end

section
-- XLA
theorem turn_nil {g g' : Heap} (T : KtsTurn [] g g') {L : Addr} {h : Heap} {m : Str → Option Value} (F : Fr g' L h m) : Fr g L h m :=
  ⟨F.ns, fun b o e => F.keep b o (T.other b o e (fun q => nomatch q)), by rw [← T.size]; exact F.above⟩
theorem turn_news {g g' : Heap} (T : KtsTurn [] g g') {L : Addr} {h : Heap} {l : List (Addr × Obj)} (N : News g' L h l) : News g L h l := fun p hp => ⟨(N p hp).1, (N p hp).2.1, by
  cases q : g.get? p.1 with
  | none => rfl
  | some o => have := T.other _ _ q (fun z => nomatch z); rw [(N p hp).2.2] at this; cases this⟩
section
variable (prog : Program) (K : Params → Frag) (w : World) (mean : ExcName → Option Value) (mg mb : Str → Option Value) (Φ : Heap → Prop)
/-- the body of the outermost def, called by the claim -/
def BodyOkR (qual : Str) (scope : Scope) (f : Addr) (cdv : Value) (body : List Stmt) (binds : List (Str × Value)) (P : Value → List (Addr × Obj) → Prop) : Prop :=
  ∀ (g : Heap) (L : Addr) (s : Shared), Below (Ar (1 + claimMargin) 4 (some []) []) g [] g → Fr g L s.heap (fun y => binds.reverse.lookup y) → News g L s.heap [] → (K w.params).In g → TopV mean mg mb g → HG none g → Φ g →
    (1 + claimMargin) + 40 < recursionLimit → 4 + 8 * 40 < cLine →
    wpG (model prog w) ((Ar (1 + claimMargin) 4 (some []) []).deeper (envOf qual scope L f cdv)) (execs body (envOf qual scope L f cdv)) (fun fl s' => Ended g L P s (match fl with | .ret v => v | _ => .none) s') s
end
theorem root_of {prog : Program} {K : Params → Frag} {w : World} {mean : ExcName → Option Value} {mg mb : Str → Option Value} {Φ : Heap → Prop} {f : Addr} {vs : List Value} {P : Value → List (Addr × Obj) → Prop}
    {name qual : Str} {params : Arguments} {body : List Stmt} {scope : Scope} {dV kV doc pm cdv ct oc : Value} {an od : Option Addr} {osl : Array (Option Value)} {binds : List (Str × Value)}
    (hb : BodyOkR prog K w mean mg mb Φ qual scope f cdv body binds P)
    (ho : (K w.params).lookup f = some ⟨oc, od, .func (fnOf name qual params body scope dV kV doc pm an cdv ct), osl⟩) (hcd : codeIn (K w.params) cdv qual = true)
    (hbind : ∀ s, BindsTo s (fnOf name qual params body scope dV kV doc pm an cdv ct) ⟨vs, []⟩ binds) (hloc : ∀ y ∈ binds, scope.names.lookup y.1 = some .local)
    (hcell : ∀ x ∈ scope.names, x.2 ≠ .cell) (hco : scope.isCoroutine = false) (hgen : scope.isGenerator = false) (hk : scope.kind = .function)
    {s : Shared} {R : Result → Shared → Prop} (X : (K w.params).In s.heap) (T : TopV mean mg mb s.heap) (HΦ : Φ s.heap)
    (hR : ∀ v own' h' tk', (∀ b o, s.heap.get? b = some o → h'.get? b = some o) → P v own' → R (.ok (.ret v)) { s with heap := h', toks := tk' }) : codeG (model prog w) callerA (.call (.ref f) ⟨vs, []⟩) R s := by
  refine G_def (fd := fnOf name qual params body scope dV kV doc pm an cdv ct) (body := body) (binds := binds) (by decide +kernel) (X _ _ ho) rfl T.nolimit
    (codeRec_of X hcd) rfl (hbind _) hcell hloc (fun h₁ hns hk₁ => ?_) hco hgen hk
  refine G_mono (hb s.heap s.heap.objs.size { s with heap := h₁, toks := s.toks + binds.length } ⟨rfl, fun _ _ e => e, trivial⟩ ⟨hns, hk₁, Nat.le_refl _⟩ News.nil X T HG.no HΦ (by decide +kernel) (by decide +kernel)) fun fl s' hl => ?_
  obtain ⟨own', m', h', tk', rfl, F', N', hP⟩ := hl
  exact hR _ own' h' tk' F'.keep hP
theorem G_range {prog : Program} {w : World} {A : Around} {s : Shared} {env : Env} {h₀ : Heap} {x : Str} {px : Pos} {body : List Stmt} {Q : Flow → Shared → Prop} {σ : Type} {r : Addr} {a₀ b₀ : Int} {t₀ u₀ v₀ : Tok} {n : Nat} {m₀ : Str → Option Value} (Led : σ → List (Addr × Obj)) (ps : σ → List (Str × Value)) (P : Nat → σ → Prop) (c₀ : σ)
    (hh : A.handled = none) (hr : IsRange s.heap r a₀ b₀ 1 t₀ u₀ v₀) (hsmall : Builtin.Range.small a₀ b₀ 1 = true) (hn : Builtin.Range.rangeSize a₀ b₀ 1 = (n : Int)) (hx : env.kindOf x = some .local) (hs : (env.scope.kind == .class || (env.scope.kind == .module && env.locals != env.globals)) = false)
    (F : Fr h₀ env.locals s.heap m₀) (N : News h₀ env.locals s.heap (Led c₀)) (hk : ∀ p ∈ ps c₀, m₀ p.1 = some p.2) (hp : P 0 c₀)
    (turn : ∀ (i : Nat) (c : σ) t (u : Str → Option Value) h tk I oI, i < n → P i c → (∀ p ∈ Led c, p.1 ≠ I) → Fr h₀ env.locals h (fun y => if y = x then some (.int (a₀ + (i : Int)) t) else kstB u (ps c) y) → News h₀ env.locals h ((I, oI) :: Led c) →
      wpG (model prog w) A (execs body env) (LoopEnd h₀ env.locals I oI (Jc Led ps (P (i + 1))) { s with heap := h, toks := tk } Q) { s with heap := h, toks := tk })
    (done : ∀ (c : σ) (u : Str → Option Value) h tk, P n c → Fr h₀ env.locals h (kstB u (ps c)) → News h₀ env.locals h (Led c) → Q .next { s with heap := h, toks := tk }) :
    wpAny (model prog w) A (pyIter (.ref r)) (fun it s₂ => codeG (model prog w) A (.forLoop (.Name x px) it body [] env) (fun r s' => ∃ f, r = .ok f ∧ Q f s') s₂) eF s := by
  refine wpAny_pyIter_range hr hsmall ?_
  have W : Walks prog w A s.heap.objs.size [s.heap.objs.size] [s.heap.objs.size] n (fun i v => i < n ∧ ∃ t, v = .int (a₀ + i * 1) t)
      (fun i h => IsRangeIter h s.heap.objs.size (a₀ + (i : Nat) * 1) ((n : Int) - (i : Nat)) 1) := (Walks.range hh _ a₀ 1 n).bound
  refine G_loopOwn Led ps P c₀ W (fun i h hS => ⟨_, hS⟩) hx hs (Nat.ne_of_lt F.ns.lt) (next_is_new F) (by show IsRangeIter _ _ _ _ _; rw [hn]; simpa using Heap.get?_push_size _ rfl) (F.push _) (fun p hp => ⟨Heap.get?_push_of_some _ (N p hp).1, (N p hp).2⟩) (fun p hp => Nat.ne_of_lt (Heap.lt_size (N p hp).1)) hk hp ?_ done
  rintro i c v u h tk oI hi ⟨_, t, rfl⟩ hP hne F₁ N₁
  have e1 : a₀ + (i : Int) * 1 = a₀ + (i : Int) := by omega
  rw [e1] at F₁
  exact turn i c t u h tk _ oI hi hP hne F₁ N₁
local macro_rules | `(tactic| walk_at "call ref") => `(tactic| (k_dflt (ktd_call 108 (s_nt_some (by assumption))); kqd_sub))
local macro_rules | `(tactic| tb_start) => `(tactic| repeat' (first | (k_unfold; (try dsimp only)) | ((fail_if_success (tbr_iter 183)); (fail_if_success (tbr_iter 136)); (fail_if_success (tbr_iter 221)); kpt_turns)))
set_option maxHeartbeats 1000000 in
theorem law_code {w : World} {mean : ExcName → Option Value} {mg mb : Str → Option Value} {s : Shared} {R : Result → Shared → Prop} (l : Addr) (vs : List Value) (ns : List Int) (hI : IntsAre vs ns) (h63 : ns.length ≤ 63) (T : TopV mean mg mb s.heap) (hL : s.heap.IsList l vs.toArray)
    (hR : ∀ h' tk', (∀ b o, s.heap.get? b = some o → h'.get? b = some o) → R (.ok (.ret (.bool true))) { s with heap := h', toks := tk' }) :
    (Hd.hd.heap_1 w.params).In s.heap → codeG (model PySem.Challenge.rw_xm0753_01.row.prog w) callerA (.call (.ref 228) ⟨[.ref l], []⟩) R s := by
  k_fill
  intro X
  refine' root_of (Φ := fun h => h.IsList l vs.toArray) (P := fun v o => v = .bool true) (binds := [(Str.ofString "script", .ref l)]) ?hb ?ho ?hcd ?hbind ?hloc ?hcell ?hco ?hgen ?hk X T hL (fun v own' h' tk' hk e => by subst e; exact hR h' tk' hk)
  (case ho => k_is); (case hcd => k_is); (case hbind => exact fun s => BindsTo.of_eq rfl); (case hloc => exact locs rfl); (case hcell => decide); (case hco => exact rfl); (case hgen => exact rfl); (case hk => exact rfl)
  clear hR hL X T
  intro g L s B F N X T HX hL hdp hun
  try dsimp only
  try k_fold
  have hN : ntype (-128) = some 1 := by decide
  refine G_cons (G_If ?_)
  tb_start
  refine' SpecT.use (own := []) (rest := []) (s_ltr _ _) ?xB ?xF ?xN ?xK ?xT rfl rfl ?xd ?xu (fun _ h => nomatch h) (fun _ h => nomatch h) (fun _ _ _ h => nomatch h) ?_
  (case xB => assumption); (case xF => k_asm); (case xN => k_asm); (case xK => assumption); (case xT => assumption); (case xd => exact lt_dp (by assumption) (by decide)); (case xu => exact lt_un (by assumption) (by decide))
  rintro v1 own1 h1 tk1 g1 T1 F1 N1 - B1 X1 P1 ⟨rfl, rfl⟩
  have F2 := turn_nil T1 F1
  have N2 := turn_news T1 N1
  clear T1 F1 N1 B1 X1 P1
  try k_fold
  tb_start
  refine' SpecT.use (own := []) (rest := []) (s_ltr _ _) ?yB ?yF ?yN ?yK ?yT rfl rfl ?yd ?yu (fun _ h => nomatch h) (fun _ h => nomatch h) (fun _ _ _ h => nomatch h) ?_
  (case yB => assumption); (case yF => k_asm); (case yN => k_asm); (case yK => assumption); (case yT => assumption); (case yd => exact lt_dp (by assumption) (by decide)); (case yu => exact lt_un (by assumption) (by decide))
  rintro v1 own1 h1 tk1 g1 T1 F1 N1 - B1 X1 P1 ⟨rfl, rfl⟩
  have F3 := turn_nil T1 F1
  have N3 := turn_news T1 N1
  clear T1 F1 N1 B1 X1 P1 F2 N2
  try k_fold
  tb_start
  refine G_nil ?_
  try dsimp only
  refine G_cons (G_For ?_)
  tb_start
  rename Fr _ _ _ _ => F4
  rename IsRange _ _ _ _ _ _ _ _ => R1
  refine' G_range (fun _ : Unit => []) (fun _ => [(Str.ofString "script", .ref l)]) (fun _ _ => True) () rfl R1 (small_one ?q1 ?q2 ?q3 ?q4) (rangeSize_nat _ _) rfl rfl F4 News.nil (by kst_all1) trivial ?turn ?done
  (case q1 => omega); (case q2 => omega); (case q3 => omega); (case q4 => omega)
  case turn =>
    intro i c t u h tk I oI hi _ _ F5 N5
    have hi3 : (i : Int) < 3 := by omega
    clear F4 R1 hi
    try k_fold
    refine G_cons (G_IfG (G_Not (G_truth (G_CallName ?_))))
    tb_start
    refine G_functionS rfl ?_
    tb_start
    rename Fr _ _ _ _ => F6
    rename Below _ _ _ _ => B6
    refine Spec.use (own := []) (rest := [(I, oI)]) (news := [(I, oI)]) (s_pool l vs ns _ _ hI h63 (by omega) (by omega)) B6 F6 (by k_asm) (by assumption) (by assumption) rfl rfl (lt_dp (by assumption) (by decide)) (lt_un (by assumption) (by decide)) (fun _ h => nomatch h) (fun _ h => h) (fun _ _ _ h => nomatch h) ?_ (fun _ h => nomatch h) ?HP
    case HP =>
      obtain ⟨o, ho, hc, n, hd⟩ := hL
      exact ⟨o, F6.keep _ _ ho, hc, n, hd⟩
    rintro v7 own7 h7 tk7 F7 N7 hne7 ⟨D, a, b, ta, tb, nn, rfl, rfl, ha, hb, hc⟩
    clear F6
    dsimp only [List.cons_append, List.nil_append] at N7
    try k_fold
    tb_start
    rename Fr _ _ _ _ => F8
    refine ⟨⟨_, _, (Frag.In.keeps (by assumption) F8.keep) _ _ (by k_is), rfl⟩, ?_⟩
    refine' SpecG.use (own := [(D, srcO _ _ _ _ _)]) (rest := [(I, oI)]) (s_right D a b ta tb nn ha hb hc) B6 F8 ?xN ?xK ?xT rfl rfl ?xd ?xu ?xO ?xR ?xS ?_
    (case xN => k_asm); (case xK => assumption); (case xT => assumption); (case xd => exact lt_dp (by assumption) (by decide)); (case xu => exact lt_un (by assumption) (by decide))
    (case xO => kst_allIn); (case xR => kst_allIn)
    (case xS => exact fun p hp q hq => Ne.symm (hne7 q hq p hp))
    rintro v9 own9 h9 tk9 g9 T9 F9 N9 - B9 X9 P9 ⟨rfl, rfl⟩
    have F10 := turn_nil T9 F9
    have N10 := turn_news T9 N9
    clear T9 F9 N9 B9 X9 P9 F8 N7
    dsimp only [List.nil_append] at N10
    try k_fold
    tb_start
    repeat (refine G_nil ?_; try dsimp only)
    refine' ⟨_, _, _, _, rfl, F10, N10, List.forall_mem_nil _, ⟨(), rfl, ?ps, trivial⟩⟩
    (case ps => (dsimp only; kst_all1))
  case done =>
    intro c u h tk _ F5 N5
    clear F4 R1
    try k_fold
    refine G_cons (G_of ?_)
    tb_start
    (try k_unfold)
    (try dsimp only)
    refine' ⟨[], _, _, _, rfl, ?F, News.nil, rfl⟩
    (case F => k_asm)
end

section
-- XFN
set_option maxHeartbeats 4000000 in
theorem row_holds : PySem.Challenge.rw_xm0753_01.Holds := by
  refine Hd.top ?_
  k_fill
  intro w s₀ s₁ mg mb G Y fa hmg hgens args vals as hpre hlay hrd hwl hlo
  have KX := kIn_of Y
  have hfa : (Value.ref fa) = .ref 228 := Option.some.inj (hmg.symm.trans (mg_of KX G.T.g (by k_is)))
  refine Ground.open G ?_
  intro T B D TE TW
  clear G B D TE TW Y hmg
  wrow_args hpre hlay hrd hwl hlo
  rename IntsAre _ _ => hI
  rename Heap.IsList _ _ _ => hL
  rename ¬ _ < _ => h63
  rw [hfa]
  refine G_call (law_code (R := fun r s' => ∃ v, r = .ok (.ret v) ∧ GoodWG PySem.Challenge.rw_xm0753_01.row.toRowW.claim (classAt s₀.heap) (ExcName.means s₀.heap) _ s₁ (.ok (.ret v)) s') _ _ _ hI (by omega) T hL (fun h' tk' hk => ⟨_, rfl, GoodW.toG ⟨.inl ⟨_, .bool true, [], rfl, ?raises, .bool _, ?post, ?uns⟩, hk, rfl, hgens⟩⟩) KX)
  case raises => exact fun _ => rfl
  case post => wrow_post
  case uns => exact fun _ => ⟨List.nodup_nil, fun _ h => nomatch h⟩
end

end Mine
open PySem PySem.W PyProof.Rows
set_option maxRecDepth 100000 in
theorem PySem.Challenge.cw_xm0753_01_holds : PySem.Challenge.rw_xm0753_01.Holds := by
  exact Mine.row_holds
