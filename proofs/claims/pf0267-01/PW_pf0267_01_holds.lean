import PyProof.Rows.All
import Wide.All
import OpenK.AllK
import Wide.FinOn
import KE.BytesMake
import PySem.Challenge.RW_pf0267_01

/-! the proof of pf0267-01: contracts of the program's functions, each walked once, and the law's own walk upon them -/
set_option Elab.async false
set_option maxRecDepth 100000
set_option maxHeartbeats 80000000
open PySem PySem.W PyProof.Rows PySem.Spec PySem.Calls
namespace Mine

section Group1
section PartHL
/-- the top's run upon a tree of objects -/
noncomputable def topRunT (tb : String → Option Builtin) (p : Program) (w : World) (n₀ : Nat) (ann : Option Value) : Nat → SharedT → Thread → Option SharedT
  | 0, _, _ => none
  | n + 1, s, t => match through t with
    | true => some s
    | false => match stepOk n₀ ann t with
      | false => none
      | true => match stepT (denote tb) p w s t with
        | some (s', t') => topRunT tb p w n₀ ann n s' t'
        | none => none
theorem topRunT_of {tb : String → Option Builtin} {p : Program} {w : World} {n₀ : Nat} {ann : Option Value} : ∀ {n : Nat} {s s' : SharedT} {t : Thread}, topRunT tb p w n₀ ann n s t = some s' → topRun tb p w n₀ ann n s.abs t = some s'.abs
  | 0, _, _, _, h => by cases h
  | n + 1, s, s', t, h => by
    unfold topRunT at h
    unfold topRun
    cases he : through t with
    | true => rw [he] at h; cases h; rfl
    | false =>
      rw [he] at h
      cases hk : stepOk n₀ ann t with
      | false => rw [hk] at h; cases h
      | true =>
        rw [hk] at h
        cases hs : stepT (denote tb) p w s t with
        | none => rw [hs] at h; cases h
        | some r => obtain ⟨s₂, t₂⟩ := r; rw [hs] at h; dsimp only; rw [stepT_spec hs]; exact topRunT_of h
noncomputable def treeOf : List Obj → Nat → BT → BT
  | [], _, t => t
  | o :: r, i, t => treeOf r (i + 1) (t.ins i o)
noncomputable def bootTree (P : Params) : BT := treeOf (boot_heap P).objs.toList 0 .nil
noncomputable def bootT (w : World) (os : OsState) : SharedT := ⟨bootTree w.params, 11, (boot_heap w.params).life, Array.mk [], boot_drawn, boot_toks, os⟩
theorem bootT_abs (w : World) (os : OsState) : (bootT w os).abs = ⟨boot_heap w.params, Array.mk [], boot_drawn, boot_toks, os⟩ := by
  kernel_rfl
theorem boot_size (w : World) : ((boot_heap w.params).isNs mainGlobals, (boot_heap w.params).objs.size, (boot_heap w.params).nsMap mainGlobals "__annotations__") = (true, 11, some (.ref 6)) := by
  kernel_rfl
noncomputable def runG (ok : Thread → Bool) (st : SharedT → Thread → Option (SharedT × Thread)) : Nat → SharedT → Thread → Option SharedT
  | 0, _, _ => none
  | n + 1, s, t => match through t with
    | true => some s
    | false => match ok t with
      | false => none
      | true => match st s t with
        | some (s', t') => runG ok st n s' t'
        | none => none
theorem runG_eq {tb : String → Option Builtin} {p : Program} {w : World} {n₀ : Nat} {ann : Option Value} : ∀ (n : Nat) (s : SharedT) (t : Thread), topRunT tb p w n₀ ann n s t = runG (stepOk n₀ ann) (stepT (denote tb) p w) n s t
  | 0, _, _ => rfl
  | n + 1, s, t => by
    unfold topRunT runG
    cases through t with
    | true => rfl
    | false =>
      dsimp only
      cases stepOk n₀ ann t with
      | false => rfl
      | true =>
        dsimp only
        cases stepT (denote tb) p w s t with
        | none => rfl
        | some r => exact runG_eq n r.1 r.2
noncomputable def runQ (p : Program) (w : World) (n₀ : Nat) (ann : Option Value) : Nat → SharedT → Thread → Option SharedT :=
  runG (PySem.W.Fast.tw6613529449190102663 n₀ ann) (PySem.W.Fast.tw10156331382660048174 (PySem.W.Fast.tw11892475500146522536 PySem.W.Fast.tw14364793385576792824) p w)
theorem runQ_eq {p : Program} {w : World} {n₀ : Nat} {ann : Option Value} (n : Nat) (s : SharedT) (t : Thread) : topRunT treeTable p w n₀ ann n s t = runQ p w n₀ ann n s t := by
  rw [runG_eq, PySem.W.Fast.te6613529449190102663, PySem.W.Fast.te10156331382660048174, PySem.W.Fast.te11892475500146522536, PySem.W.Fast.te14364793385576792824]
  rfl
theorem left_of {p q : Program} {loose : List Str} {Xt : Shared → Bool} {α : Type} {Yf : Shared → α} {Ya : World → α} {N : Nat} {g0 : Bool}
    (e : opening p = plainProg p.main.scope.names) (hN : Nat.ble 600 N = true) (hf : ∀ s, fenceModules? p s = some s)
    (h : ∀ (w : World) (os : OsState), ((runQ p w 11 (some (.ref 6)) N (bootT w os) (topStub p)).map fun s => ((staticsOk (importedModules p.main.body) (boot_heap w.params) s.abs.heap && namesBound p s.abs.heap && gensDone s.abs && laidKept (boot_heap w.params) s.abs.heap),
        PySem.W.Fast.tw4187177175401517315 q loose (importedModules p.main.body) Xt g0 s.abs, Yf s.abs)) = some (true, openGood q loose, Ya w)) : LeftO p q loose Xt Yf Ya N g0 := fun w => by
  obtain ⟨⟨h₀, gs, d, k, os⟩, e1, e2⟩ := Option.map_eq_some_iff.mp (boot_open e hN hf w)
  obtain ⟨rfl, rfl, rfl, rfl⟩ : h₀ = boot_heap w.params ∧ gs = Array.mk [] ∧ d = boot_drawn ∧ k = boot_toks := by simpa using e2
  obtain ⟨z1, z2, z3⟩ : _ ∧ _ ∧ _ := by simpa only [Prod.mk.injEq] using boot_size w
  obtain ⟨s, r1, r2⟩ := Option.map_eq_some_iff.mp (h w os)
  obtain ⟨l1, l2, l3⟩ : _ ∧ _ ∧ _ := by simpa only [Prod.mk.injEq] using r2
  rw [← runQ_eq] at r1
  rw [← PySem.W.Fast.te4187177175401517315] at l2
  have r := topRunT_of r1
  rw [bootT_abs] at r
  have t : topFrom treeTable p w N ⟨boot_heap w.params, Array.mk [], boot_drawn, boot_toks, os⟩ = some s.abs := by
    unfold topFrom
    dsimp only
    rw [z1, z2, z3, r]
    show (match staticsOk (importedModules p.main.body) (boot_heap w.params) s.abs.heap && namesBound p s.abs.heap && gensDone s.abs && laidKept (boot_heap w.params) s.abs.heap with | true => _ | false => _) = _
    rw [l1]
  unfold openEnds
  rw [e1]
  show (topFrom treeTable p w N _).map _ = _
  rw [t]
  exact congrArg some (Prod.ext l2 l3)

end PartHL

section PartNL
-- codes that a bytearray's making asks for on the stack
noncomputable def shunned : List String := ["bytearray.__contains__", "bytearray.__mod__", "bytearray.__rmod__", "_struct.pack_into.held", "bytearray.find.held"] ++ Builtin.Bytes.decodersThatHold
noncomputable def okCode : Code → Bool
  | .builtin id _ => !shunned.contains id
  | _ => true
noncomputable def Clear (Γ : PySem.Ctx) : Prop := okCode Γ.code = true ∧ ∀ c ∈ Γ.below, okCode c.1 = true
theorem Clear.goto {Γ : PySem.Ctx} (h : Clear Γ) {c : Code} (hc : okCode c = true) : Clear (Γ.goto c) := ⟨hc, h.2⟩
theorem Clear.enter {Γ : PySem.Ctx} (h : Clear Γ) {c : Code} {hd : Option Value} {p : Pos} (hc : okCode c = true) : Clear (Γ.enter c hd p) :=
  ⟨hc, fun x hx => by
    rcases List.mem_cons.mp hx with rfl | hx
    · exact h.1
    · exact h.2 x hx⟩

noncomputable def wpN {α : Type} (M : Model) (A : Around) (t : Sem α) (Q : α → Shared → Prop) (E : Value → Shared → Prop) (s : Shared) : Prop :=
  ∀ Γ p, Γ.In A → Clear Γ → Sem.wp M Γ t (fun a _ s' => Q a s') (fun e _ s' => E e s') p s
noncomputable def codeN (M : Model) (A : Around) (c : Code) (R : Result → Shared → Prop) (s : Shared) : Prop :=
  ∀ Γ p, Γ.code = c → Γ.Below A → Clear Γ → wpCode M Γ R p s

section
variable {α β : Type} {M : Model} {A : Around} {E : Value → Shared → Prop} {s : Shared}
theorem n_any {t : Sem α} {Q : α → Shared → Prop} (h : wpAny M A t Q E s) : wpN M A t Q E s := fun Γ p hΓ _ => h Γ p hΓ
theorem codeN_any {c : Code} {R : Result → Shared → Prop} (h : codeAny M A c R s) : codeN M A c R s := fun Γ p hc hΓ _ => h Γ p hc hΓ
theorem n_pure {a : α} {Q : α → Shared → Prop} (h : Q a s) : wpN M A (pure a) Q E s := fun _ _ _ _ => h
theorem n_mono {t : Sem α} {Q Q' : α → Shared → Prop} {E' : Value → Shared → Prop} (h : wpN M A t Q E s) (hQ : ∀ a s, Q a s → Q' a s) (hE : ∀ e s, E e s → E' e s) : wpN M A t Q' E' s :=
  fun Γ p hΓ hN => Sem.wp_mono M Γ t (fun a _ s => hQ a s) (fun e _ s => hE e s) p s (h Γ p hΓ hN)
theorem codeN_mono {c : Code} {R R' : Result → Shared → Prop} (h : codeN M A c R s) (hR : ∀ r s, R r s → R' r s) : codeN M A c R' s := fun Γ p hc hΓ hN => wpCode_mono hR (h Γ p hc hΓ hN)
theorem n_bind {m : Sem α} {f : α → Sem β} {Q : β → Shared → Prop} (h : wpN M A m (fun a s' => wpN M A (f a) Q E s') E s) : wpN M A (m >>= f) Q E s := fun Γ p hΓ hN => by
  rw [Sem.wp_bind']
  exact Sem.wp_mono M Γ m (fun a p' s' h' => h' Γ p' hΓ hN) (fun _ _ _ h' => h') p s (h Γ p hΓ hN)
/-- a part that the library's logic walks, then a part of this logic -/
theorem n_then {m : Sem α} {f : α → Sem β} {Q : β → Shared → Prop} (h : wpAny M A m (fun a s' => wpN M A (f a) Q E s') E s) : wpN M A (m >>= f) Q E s := n_bind (n_any h)
theorem n_tryCatch {m : Sem α} {k : Value → Sem α} {Q : α → Shared → Prop} (h : wpN M A m Q (fun e s' => wpN M A (k e) Q E s') s) : wpN M A (tryCatch m k) Q E s := fun Γ p hΓ hN => by
  rw [Sem.wp_tryCatch']
  exact Sem.wp_mono M Γ m (fun _ _ _ h' => h') (fun e p' s' h' => h' Γ p' hΓ hN) p s (h Γ p hΓ hN)
theorem n_onRaise {m : Sem α} {k : Value → Sem Unit} {Q : α → Shared → Prop} (h : wpN M A m Q (fun e s' => wpN M A (k e) (fun _ s'' => E e s'') E s') s) : wpN M A (m.onRaise k) Q E s := fun Γ p hΓ hN => by
  rw [Sem.wp_onRaise]
  exact Sem.wp_mono M Γ m (fun _ _ _ h' => h') (fun e p' s' h' => h' Γ p' hΓ hN) p s (h Γ p hΓ hN)
theorem n_attempt {m : Sem α} {Q : Except Value α → Shared → Prop} (h : wpN M A m (fun a => Q (.ok a)) (fun e => Q (.error e)) s) : wpN M A m.attempt Q E s := fun Γ p hΓ hN => by
  rw [Sem.wp_attempt]; exact h Γ p hΓ hN
theorem n_holding {vs : List Value} {m : Sem α} {Q : α → Shared → Prop} (h : wpN M A m Q E s) : wpN M A (holding vs m) Q E s := fun Γ p hΓ hN => by rw [Sem.wp_holding]; exact h Γ p hΓ hN
theorem n_eq {t t' : Sem α} {Q : α → Shared → Prop} (e : t = t') (h : wpN M A t' Q E s) : wpN M A t Q E s := by rw [e]; exact h
theorem n_run {c : Code} {hd : Option Value} {Q : Flow → Shared → Prop} (hk : okCode c = true)
    (hc : codeN M (A.mark hd) c (fun r s' => match r with | .ok f => Q f s' | .error e => E e s') s) (hnb : hd ≠ some byPass := by intro x; cases x) : wpN M A (run c hd) Q E s :=
  fun Γ p hΓ hN => by rw [Sem.wp_run]; exact hc _ p rfl (hΓ.enter c hd p hnb) (hN.enter hk)
theorem n_runValue {c : Code} {Q : Value → Shared → Prop} (hk : okCode c = true)
    (hc : codeN M A c (fun r s' => match r with | .ok (.ret v) => Q v s' | .ok _ => False | .error e => E e s') s) : wpN M A (runValue c) Q E s :=
  fun Γ p hΓ hN => by rw [Sem.wp_runValue]; exact hc _ p rfl (hΓ.enter c none p (by intro x; cases x)) (hN.enter hk)
theorem n_call {f : Value} {pos : List Value} {kw : List (Str × Value)} {Q : Value → Shared → Prop}
    (hc : codeN M A (.call f ⟨pos, kw⟩) (fun r s' => match r with | .ok (.ret v) => Q v s' | .ok _ => False | .error e => E e s') s) : wpN M A (call f pos kw) Q E s := n_runValue rfl hc
theorem codeN_tree {c : Code} {R : Result → Shared → Prop}
    (h : wpN M (A.under c) (M.den c) (fun fin s' => match fin with | .done f => R (.ok f) s' | .again c' => c'.quiet = true ∧ okCode c' = true ∧ codeN M A c' R s')
      (fun e s' => R (.error e) s') s) : codeN M A c R s := fun Γ p hc hΓ hN => by
  rw [wpCode_iff_wp, hc]
  refine Sem.wp_mono M Γ _ (fun fin p' s' h' => ?_) (fun _ _ _ h' => h') p s (h Γ p (hc ▸ hΓ.in) hN)
  cases fin with
  | done f => exact h'
  | again c' => exact ⟨h'.1, h'.2.2 (Γ.goto c') p' rfl (hΓ.goto c') (hN.goto h'.2.1)⟩
theorem n_stack {Q : List (Code × Pos) → Shared → Prop} (h : ∀ st : List (Code × Pos), (∀ c ∈ st, okCode c.1 = true) → Q st s) : wpN M A stack Q E s := fun Γ p _ hN => by
  show Q ((Γ.code, p) :: Γ.below) s
  refine h _ fun c hc => ?_
  rcases List.mem_cons.mp hc with rfl | hc
  · exact hN.1
  · exact hN.2 c hc
end
section
variable {prog : Program} {w : World} {A : Around} {s : Shared} {R : Result → Shared → Prop}
theorem codeN_func {body : List Stmt} {env : Env}
    (h : wpN (model prog w) (A.deeper env) (execs body env) (fun f s' => R (.ok (.ret (match f with | .ret v => v | _ => .none))) s')
      (fun e s' => wpN (model prog w) (A.deeper env) (leaving env e) (fun _ s'' => R (.error e) s'') (fun e' s'' => R (.error e') s'') s') s) :
    codeN (model prog w) A (.func body env) R s := by
  refine codeN_tree ?_
  show wpN _ (A.deeper env) (do point; match ← (execs body env).onRaise (leaving env) with | .ret v => ret v | _ => ret .none) _ _ s
  refine n_then (wpAny_point (n_bind (n_onRaise (n_mono h (fun f s' h' => ?_) fun _ _ h' => h'))))
  cases f <;> exact n_pure h'
theorem codeN_def {a : Addr} {o : Obj} {fd : FuncData} {body : List Stmt} {args : Args} {binds : List (Str × Value)}
    (hroom : A.depth < recursionLimit) (ho : s.heap.get? a = some o) (hdata : o.data = .func fd) (hlim : s.heap.NoLimit) (hcd : s.heap.CodeRec fd.code fd.qualname)
    (hbody : fd.body = .stmts body) (hbind : BindsTo s fd args binds)
    (hcell : ∀ x ∈ fd.scope.names, x.2 ≠ .cell) (hloc : ∀ x ∈ binds, fd.scope.names.lookup x.1 = some .local)
    (h : ∀ h₀, h₀.Ns s.heap.objs.size (fun x => binds.reverse.lookup x) → (∀ b o, s.heap.get? b = some o → h₀.get? b = some o) →
      wpN (model prog w) (A.deeper (callEnv fd s.heap.objs.size a)) (execs body (callEnv fd s.heap.objs.size a)) (fun f s' => R (.ok (.ret (match f with | .ret v => v | _ => .none))) s')
        (fun e s' => wpN (model prog w) (A.deeper (callEnv fd s.heap.objs.size a)) (leaving (callEnv fd s.heap.objs.size a) e) (fun _ s'' => R (.error e) s'') (fun e' s'' => R (.error e') s'') s')
        { s with heap := h₀, toks := s.toks + binds.length })
    (hco : fd.scope.isCoroutine = false := by rfl) (hgen : fd.scope.isGenerator = false := by rfl) (hk : fd.scope.kind = .function := by rfl) :
    codeN (model prog w) A (.call (.ref a) args) R s := by
  refine codeN_tree ?_
  show wpN _ A.in1 (callAny (.ref a) args) _ _ s
  simp only [callAny]
  refine n_then (wpAny_load ho ?_)
  obtain ⟨c, oc, vs, tq, hc, hoc, hdc, hq⟩ := hcd
  simp only [hdata, callFunction, hco, hgen, hbody, hc]
  refine n_then (m := field (.ref c) 1) (wpAny_field hoc hdc hq (n_then (wpAny_pure ?_)))
  refine n_then (hbind _ _ _ _ ?_)
  rw [← hc]
  refine n_then (wpAny_newFunctionEnv hcell hloc (fun h₀ hns₀ hsb₀ => ?_) hk)
  refine n_then (wpAny_enterFrame (hlim.fresh _ hsb₀) hroom ?_)
  refine n_pure ⟨rfl, rfl, codeN_func ?_⟩
  exact h h₀ hns₀ fun b o e => hsb₀.extBut b o (Nat.ne_of_lt (Heap.lt_size e)) (Heap.get?_push_of_some _ e)
end

end PartNL

section PartNH2
noncomputable def foul (st : List (Code × Pos)) : Bool := st.any fun c => !okCode c.1
theorem clear_of {Γ : PySem.Ctx} {p : Pos} (h : foul ((Γ.code, p) :: Γ.below) = false) : Clear Γ := by
  have q : ∀ c ∈ (Γ.code, p) :: Γ.below, okCode c.1 = true := fun c hc => by
    have := List.any_eq_false.mp h c hc
    simpa using this
  exact ⟨q _ (.head _), fun c hc => q c (.tail _ hc)⟩
/-- the tree where the stack is clear, true at once where it is not -/
noncomputable def guardV (t : Sem Value) : Sem Value := .stack fun st => bif foul st then .pure (.bool true) else t
noncomputable def guardF (t : Sem Fin) : Sem Fin := .stack fun st => bif foul st then .pure (.done (.ret (.bool true))) else t
theorem guardV_any {M : Model} {A : Around} {t : Sem Value} {Q E : Value → Shared → Prop} {s : Shared} (hb : Q (.bool true) s) (h : wpN M A t Q E s) : wpAny M A (guardV t) Q E s := fun Γ p hΓ => by
  show Sem.wp M Γ (bif foul ((Γ.code, p) :: Γ.below) then _ else _) _ _ p s
  cases q : foul ((Γ.code, p) :: Γ.below) with
  | true => exact hb
  | false => exact h Γ p hΓ (clear_of q)
theorem guardF_any {M : Model} {A : Around} {t : Sem Fin} {v : Sem Value} {Q : Fin → Shared → Prop} {E : Value → Shared → Prop} {s : Shared}
    (ht : ∀ (Q' : Value → Shared → Prop), (∀ x s', Q' x s' → Q (.done (.ret x)) s') → wpN M A v Q' E s → wpN M A t Q E s)
    (h : wpAny M A (guardV v) (fun x s' => Q (.done (.ret x)) s') E s) : wpAny M A (guardF t) Q E s := fun Γ p hΓ => by
  show Sem.wp M Γ (bif foul ((Γ.code, p) :: Γ.below) then _ else _) _ _ p s
  cases q : foul ((Γ.code, p) :: Γ.below) with
  | true =>
    have z := h Γ p hΓ
    have z' : Sem.wp M Γ (bif foul ((Γ.code, p) :: Γ.below) then _ else _) _ _ p s := z
    rw [q] at z'
    exact z'
  | false =>
    refine ht (fun x s' => Q (.done (.ret x)) s') (fun _ _ x => x) ?_ Γ p hΓ (clear_of q)
    intro Γ' p' hΓ' hN
    have z' : Sem.wp M Γ' (bif foul ((Γ'.code, p') :: Γ'.below) then _ else _) _ _ p' s := h Γ' p' hΓ'
    have e : foul ((Γ'.code, p') :: Γ'.below) = false := by
      refine List.any_eq_false.mpr fun c hc => ?_
      rcases List.mem_cons.mp hc with rfl | hc
      · simp [hN.1]
      · simp [hN.2 c hc]
    rw [e] at z'
    exact z'
/-- the guard is asked once, upon the empty stack of the caller -/
theorem sched_guard {p : Program} {w : World} {t : Sem Fin} {s s' : Shared} {o : Outcome} {n : Nat} (hz : s.asleep)
    (h : schedN (denote table) p w n (.single s ⟨guardF t, .builtin "claim.caller" {}, default, []⟩) = .halted o s') : ∃ m, schedN (denote table) p w m (.single s ⟨t, .builtin "claim.caller" {}, default, []⟩) = .halted o s' := by
  cases n with
  | zero => cases h
  | succ m =>
    refine ⟨m, ?_⟩
    have e : step (denote table) p w s ⟨guardF t, .builtin "claim.caller" {}, default, []⟩ = .go s ⟨t, .builtin "claim.caller" {}, default, []⟩ := rfl
    have z : sstep (denote table) p w (.single s ⟨guardF t, .builtin "claim.caller" {}, default, []⟩) = .go (.single s ⟨t, .builtin "claim.caller" {}, default, []⟩) := by
      rcases sstep_single (denote table) p w s ⟨guardF t, .builtin "claim.caller" {}, default, []⟩ (by rfl) hz with q | q
      · rw [q, e]; rfl
      · rw [e] at q; cases q
    simp only [schedN, z] at h
    exact h
theorem unguard {c : ClaimW} {tree : List Value → Sem Fin} {w : World} {s : Shared} {free : Addr → Prop} {gens : Prop} {kept : Heap → Prop} (hz : s.asleep)
    (h : c.CallFrom (fun vs => ⟨guardF (tree vs), .builtin "claim.caller" {}, default, []⟩) w free gens kept s) : c.CallFrom (fun vs => ⟨tree vs, .builtin "claim.caller" {}, default, []⟩) w free gens kept s := by
  intro args hpre hlay ord hord
  obtain ⟨vs, s₁, hl, n, o, s', hs, rest⟩ := h args hpre hlay ord hord
  obtain ⟨m, hm⟩ := sched_guard (Shared.asleep_of_life (layAllW_rest _ _ _ hl).2.2.2 hz) hs
  exact ⟨vs, s₁, hl, m, o, s', hm, rest⟩

abbrev theRow : OpenRow := PySem.Challenge.rw_pf0267_01.row
noncomputable abbrev WalkC (q : Program) (loose : List Str) (XP : (Str → Option Value) → Heap → Prop) (YP : World → Heap → Prop) (d : DefRec) (kwd : List (Str × Expr)) : Prop :=
  ∀ (w : World) (s₀ s₁ : Shared) (mg mb : Str → Option Value), Ground q loose theRow.records XP w s₀ mg mb s₁.heap → YP w s₁.heap → ∀ (a : Addr) (o : Obj) (pm cd doc dV kV : Value), s₁.heap.get? a = some o →
    o.data = .func { docDef d.name d.params d.body d.scope pm cd doc with defaults := dV, kwdefaults := kV } → s₁.heap.CodeRec cd d.name → Dflts mg s₁.heap d.params kwd dV kV → mg d.name = some (.ref a) → s₁.gens = #[] →
    ∀ (args : List WData) (vals : List Value) (as : List Addr), theRow.claim.pre args = true → WData.layableAll args = true → ReadsAllW theRow.records (classAt s₀.heap) s₁.heap vals args as → WellAll w.params s₁.heap vals args → (∀ a ∈ as, (a == sysModules) = false) →
      wpN (model theRow.prog w) callerA (PySem.call (.ref a) vals) (fun v s' => GoodWG theRow.claim (classAt s₀.heap) (ExcName.means s₀.heap) args s₁ (.ok (.ret v)) s')
        (fun e s' => GoodWG theRow.claim (classAt s₀.heap) (ExcName.means s₀.heap) args s₁ (.error e) s') s₁

/-- the library's head, asked of cleared stacks alone -/
theorem holdsT {q : Program} {loose : List Str} {Xt : Shared → Bool} {XP : (Str → Option Value) → Heap → Prop} {α : Type} {Yf : Shared → α} {Ya : World → α} {YP : World → Heap → Prop} {d : DefRec} {kwd : List (Str × Expr)} {N : Nat}
    (hY : ∀ w s, Yf s = Ya w → YP w s.heap) (hYk : ∀ w h h', YP w h → (∀ b o, h.get? b = some o → h'.get? b = some o) → YP w h')
    (hX : ∀ s, Xt s = true → XP (s.heap.nsMap mainGlobals) s.heap) (hXk : ∀ mg h h', XP mg h → (∀ b o, h.get? b = some o → h'.get? b = some o) → XP mg h')
    (hdef : defOf q theRow.name = some (d, kwd)) (hp : theRow.prog.theDef theRow.name = some (d.params, d.body, d.scope)) (hk : kwWritten? d.params.kwonlyargs d.params.kw_defaults = some kwd) (hRf : ∀ s, Xt s = true → RecFacts theRow.records s.heap) (hwr : (!theRow.writes || theRow.records.isEmpty) = true)
    (k1 : theRow.wellSaid = true) (ok : (chainsOk q && opensWell theRow.prog && (frees theRow.toRowW && theRow.within.isEmpty)) = true) (hb : theRow.prog.bare) (hw : theRow.toRowW.promised)
    (call : LeftO theRow.prog q loose Xt Yf Ya N ∧ WalkC q loose XP YP d kwd) : theRow.Holds := by
  obtain ⟨left, call⟩ := call
  have hch : chainsOk q = true := (Bool.and_eq_true_iff.mp (Bool.and_eq_true_iff.mp ok).1).1
  have G := open_anyG (r := theRow.toRowW) (defs := if theRow.pinned then [theRow.name] else []) (kps := theRow.keeps) (writes := theRow.writes) (run := fun f vs => guardV (PySem.call f vs)) (tree := fun vs => guardF (do match ← nsGet mainNs theRow.name with
      | some f => do ret (← PySem.call f vs)
      | none => unsupported "claim.caller:no-such-global")) left hY hYk hX hXk hRf hwr ok hb hw
    (fun vs w s mg f Q E hg hf h => guardF_any (v := PySem.call f vs) (fun Q' hq h' => n_then (wpAny_nsGet hg (by rw [hf]; exact n_bind (n_mono h' (fun x s' y => n_pure (hq x s' y)) fun _ _ y => y)))) h)
    (fun w s hg G n hn => ?_) fun w s₀ s₁ mg mb G Y args vs as hpre hlay L low => ?_
  · refine ⟨k1, hw, G.1, G.2.1, fun w => ⟨(G.2.2 w).1, fun s hs => ?_⟩⟩
    obtain ⟨s₀, hf, hg0, s₁, hT, hd, hr1, hr2, hc⟩ := (G.2.2 w).2 s hs
    refine ⟨s₀, hf, hg0, s₁, hT, hd, hr1, hr2, unguard ?_ hc⟩
    obtain ⟨s₀', hf', _, s₁', hT', hz, _⟩ := (left.behind hX hch w).2 s hs
    obtain rfl : s₀' = s₀ := Option.some.inj (hf'.symm.trans hf)
    exact Shared.asleep_of_life (hT.2.1.trans hT'.2.1.symm) hz
  · obtain rfl : n = theRow.name := by split at hn <;> simp_all
    exact pinned_of_view hg G hdef hp hk
  · obtain ⟨a, o, pm, cd, doc, dV, kV, h1, h2, h3, h4, h5⟩ := G.fn hdef
    refine ⟨.ref a, h1, guardV_any ?_ (call w s₀ s₁ mg mb G Y a o pm cd doc dV kV h2 h3 h4 h5 (defOf_name hdef ▸ h1) L.gens args vs as hpre hlay L.reads L.well (L.low low))⟩
    exact ⟨.inl ⟨_, _, [], rfl, (fun _ => rfl), ReadsW.bool true, (by first | with_unfolding_all rfl | wrow_post), fun _ => ⟨List.nodup_nil, fun _ hm => (nomatch hm)⟩⟩, .of_keep fun _ _ e => e, rfl, .of_eq L.gens⟩

end PartNH2

section PartHD
noncomputable abbrev lvT : List (Str × WData) := [(PySem.Str.ofString "BOUNDS",
          PySem.W.WData.tuple
            [PySem.W.WData.tuple
                [PySem.W.WData.str
                    {
                      cps :=
                        #[109, 97, 120, 95, 117, 100, 112, 95, 112, 97, 121, 108, 111, 97, 100, 95, 115, 105, 122,
                          101] },
                  PySem.W.WData.int 1200, PySem.W.WData.int 4611686018427387903],
              PySem.W.WData.tuple
                [PySem.W.WData.str
                    {
                      cps :=
                        #[105, 110, 105, 116, 105, 97, 108, 95, 109, 97, 120, 95, 115, 116, 114, 101, 97, 109, 115, 95,
                          98, 105, 100, 105] },
                  PySem.W.WData.int 0, PySem.W.WData.int 1152921504606846976],
              PySem.W.WData.tuple
                [PySem.W.WData.str
                    {
                      cps :=
                        #[105, 110, 105, 116, 105, 97, 108, 95, 109, 97, 120, 95, 115, 116, 114, 101, 97, 109, 115, 95,
                          117, 110, 105] },
                  PySem.W.WData.int 0, PySem.W.WData.int 1152921504606846976],
              PySem.W.WData.tuple
                [PySem.W.WData.str
                    { cps := #[97, 99, 107, 95, 100, 101, 108, 97, 121, 95, 101, 120, 112, 111, 110, 101, 110, 116] },
                  PySem.W.WData.int 0, PySem.W.WData.int 20],
              PySem.W.WData.tuple
                [PySem.W.WData.str { cps := #[109, 97, 120, 95, 97, 99, 107, 95, 100, 101, 108, 97, 121] },
                  PySem.W.WData.int 0, PySem.W.WData.int 16383],
              PySem.W.WData.tuple
                [PySem.W.WData.str
                    {
                      cps :=
                        #[97, 99, 116, 105, 118, 101, 95, 99, 111, 110, 110, 101, 99, 116, 105, 111, 110, 95, 105, 100,
                          95, 108, 105, 109, 105, 116] },
                  PySem.W.WData.int 2, PySem.W.WData.int 4611686018427387903]])]
/-- the program of which the top keeps the statements that the head lays -/
noncomputable def viewB {s0 s1 s2 s3 s4 s5 s6 s7 s8 s9 s10 s11 s12 s13 s14 s15 s16 s17 s18 s19 s20 s21 s22 s23 s24 s25 s26 s27 s28 s29 s30 s31 s32 s33 s34 s35 s36 s37 : Stmt} (_ : PySem.Challenge.pw_pf0267_01.main.body = [s0, s1, s2, s3, s4, s5, s6, s7, s8, s9, s10, s11, s12, s13, s14, s15, s16, s17, s18, s19, s20, s21, s22, s23, s24, s25, s26, s27, s28, s29, s30, s31, s32, s33, s34, s35, s36, s37]) : Program :=
  { PySem.Challenge.pw_pf0267_01 with main := { PySem.Challenge.pw_pf0267_01.main with body := [s0, s2, s3, s4, s5, s7, s8, s9, s10, s11, s12, s14, s16, s17, s18, s19, s20, s21, s22, s23, s24, s25, s26, s27, s28, s29, s30, s31, s32, s33, s35, s36, s37] } }
noncomputable def hd.view_39 : Program := viewB rfl
/-- the look at the law, by the library's quick twin -/
theorem saidQ : PySem.W.Fast.tw9446332074065402090 PySem.Challenge.rw_pf0267_01 = true := by kernel_rfl
theorem saidT : OpenLaw.wellSaid PySem.Challenge.rw_pf0267_01 = true := by rw [PySem.W.Fast.te9446332074065402090]; exact saidQ
local macro_rules | `(tactic| o_law) => `(tactic| refine holds_law saidT fun said => ?_)
local macro_rules | `(tactic| o_head $H) => `(tactic| refine holdsT (q := hd.view_39) (loose := [Str.ofString "BOUNDS"]) (Xt := fun s => xlAt hd.view_39 lvT s && recOk (RowW.records theRow.toRowW) s) (XP := XL hd.view_39 lvT) (Yf := Hook.obs $H) (Ya := Hook.val $H) (YP := Hook.says $H) (N := 3804) (Hook.of $H) (Hook.keeps $H) (fun s e => xl_of s (Bool.and_eq_true_iff.mp e).1) XL.keeps (by rfl) (by rfl) (by rfl) (fun s e => recFacts_of (Bool.and_eq_true_iff.mp e).2) (by rfl) (by first | assumption | decide +kernel) (by decide +kernel) ⟨rfl, rfl, rfl, rfl, rfl, by decide +kernel⟩ ?hw ?hc)
set_option maxRecDepth 100000 in
set_option maxHeartbeats 8000000 in
open_top hd for PySem.Challenge.rw_pf0267_01
noncomputable def asT : List Addr := [2, 3, 15, 17, 18, 20, 21, 22, 29, 31, 32, 34, 35, 36, 37, 38, 39, 42, 49, 51, 52, 54, 55, 56, 57, 58, 59, 62,
          63, 65, 66, 68, 69, 70, 72, 73, 75, 76, 77, 79, 80, 82, 83, 84, 86, 87, 89, 90, 91, 93, 94, 96, 97, 105, 107,
          108, 110, 111, 112, 114, 115, 117, 118, 119, 121, 122, 124, 125, 126, 128, 129, 131, 132, 133, 135, 136, 138,
          139, 140, 142, 143, 145, 146, 147, 148, 149, 150, 151, 154, 155, 156, 157, 158, 159, 160, 161, 162, 163, 164,
          165, 166, 167, 168, 169, 170, 171, 172, 173, 174, 175, 176, 177, 178, 179, 180, 181, 182, 183, 184, 185, 186,
          187, 188, 189, 190, 191, 192, 194, 195, 197, 198, 199, 201, 202, 204, 205, 206, 209, 210, 211, 213, 214, 216,
          217, 218, 220, 221, 223, 224, 225, 227, 228, 230, 231, 232, 234, 235, 237, 238, 239, 241, 242, 244, 245, 246,
          248, 249, 251, 252, 253, 255, 256, 258, 259, 260, 262, 263, 265, 266, 267, 269, 270, 272, 273, 274, 277, 278,
          279, 281, 282, 284, 285, 286, 289, 290]
theorem asK : ∀ P, asT = (hd.heap_1 P).map (·.1) := fun _ => by kernel_rfl
theorem runA (w : World) (os : OsState) : ((runQ theRow.prog w 11 (some (.ref 6)) 3804 (bootT w os) (topStub theRow.prog)).map fun s => ((staticsOk (importedModules theRow.prog.main.body) (boot_heap w.params) s.abs.heap && namesBound theRow.prog s.abs.heap && gensDone s.abs && laidKept (boot_heap w.params) s.abs.heap), (Hook.obs (kHook hd.heap_1 asT asK)) s.abs)) = some (true, (Hook.val (kHook hd.heap_1 asT asK)) w) := by
  kernel_rfl
theorem runB (w : World) (os : OsState) : ((runQ theRow.prog w 11 (some (.ref 6)) 3804 (bootT w os) (topStub theRow.prog)).map fun s => PySem.W.Fast.tw4187177175401517315 hd.view_39 [Str.ofString "BOUNDS"] (importedModules theRow.prog.main.body) (fun s => xlAt hd.view_39 lvT s && recOk (RowW.records theRow.toRowW) s) true s.abs) = some (openGood hd.view_39 [Str.ofString "BOUNDS"]) := by
  kernel_rfl
theorem map_three {α β γ δ : Type} {x : Option α} {f : α → β} {g : α → γ} {h : α → δ} {b : β} {c : γ} {d : δ} (h1 : x.map (fun s => (f s, h s)) = some (b, d)) (h2 : x.map g = some c) : x.map (fun s => (f s, g s, h s)) = some (b, c, d) := by
  cases x with
  | none => cases h1
  | some a =>
    simp only [Option.map_some, Option.some.injEq, Prod.mk.injEq] at h1 h2 ⊢
    exact ⟨h1.1, h2, h1.2⟩
theorem leftT : LeftO theRow.prog hd.view_39 [Str.ofString "BOUNDS"] (fun s => xlAt hd.view_39 lvT s && recOk (RowW.records theRow.toRowW) s) (Hook.obs (kHook hd.heap_1 asT asK)) (Hook.val (kHook hd.heap_1 asT asK)) 3804 :=
  left_of (by kernel_rfl) (by kernel_rfl) (fun _ => by kernel_rfl) fun w os => map_three (runA w os) (runB w os)

end PartHD

theorem flush1 {M : Model} {A : Around} {env : Env} {Q : Flow → Shared → Prop} {E : Value → Shared → Prop} {s : Shared} (h : wpAny M A (execs [] env) Q E s) : wpAny M A (execs [] env) Q E s := by
  w_top off
  first | (walk1; fail) | exact h

section PartNC
noncomputable def Stop (P : Prop) : Prop := P
theorem Stop.mk {P : Prop} (h : Stop P) : P := h
/-- the functions that have a contract: there the walk stops -/
noncomputable def stopAt (f : Nat) : Bool := [38, 76, 83, 97, 125, 139, 198, 205, 210, 238, 245, 252, 266, 278].contains f
theorem Stop.call {M : Model} {A : Around} {f : Nat} {vs : List Value} {kw : List (Str × Value)} {Q E : Value → Shared → Prop} {s : Shared} (_ : stopAt f = true) (h : Stop (wpAny M A (call (.ref f) vs kw) Q E s)) : wpAny M A (call (.ref f) vs kw) Q E s := h
section
variable {prog : Program} {w : World} {A A₀ : Around} {s : Shared} {K : Frag} {L : Addr} {h₀ base : Heap} {m mg mb : Str → Option Value} {news : List (Addr × Obj)} {p : Program} {loose : List Str} {mean : ExcName → Option Value}
/-- a def of the text is entered (the library's code_def, for cleared stacks) -/
theorem code_defN {env : Env} {outer : List Env} {R : Result → Shared → Prop} {name qual : Str} {params : Arguments} {body : List Stmt} {scope : Scope} {dV kV doc pm cdv ct oc : Value} {an od : Option Addr} {osl : Array (Option Value)} {f : Addr} {args : Args} {binds : List (Str × Value)}
    (B : Below A₀ base outer h₀) (F : Fr h₀ L s.heap m) (X₀ : K.In h₀) (N : News h₀ L s.heap news) (T : Top p loose mean mg mb h₀) (hA : A.frames = some (env :: outer)) (hf : env.frame = some L) (hke : env.scope.kind = .function)
    (ho : K.lookup f = some ⟨oc, od, .func (fnOf name qual params body scope dV kV doc pm an cdv ct), osl⟩) (hcd : codeIn K cdv qual = true) (hroom : A.depth < recursionLimit)
    (hbind : BindsTo s (fnOf name qual params body scope dV kV doc pm an cdv ct) args binds) (hloc : ∀ y ∈ binds, scope.names.lookup y.1 = some .local)
    (h : ∀ g L' h₁, Fr h₀ L g m → Fr g L' h₁ (fun y => binds.reverse.lookup y) → News g L' h₁ news → Below A base (env :: outer) g → K.In g → Top p loose mean mg mb g →
      wpN (model prog w) (A.deeper (envOf qual scope L' f cdv)) (execs body (envOf qual scope L' f cdv))
        (fun fl s' => LeaveK h₀ L m g R (match fl with | .ret v => v | _ => .none) s')
        (fun e s' => wpN (model prog w) (A.deeper (envOf qual scope L' f cdv)) (leaving (envOf qual scope L' f cdv) e) (fun _ s'' => R (.error e) s'') (fun e' s'' => R (.error e') s'') s')
        { s with heap := h₁, toks := s.toks + binds.length })
    (hco : scope.isCoroutine = false) (hgen : scope.isGenerator = false) (hk : scope.kind = .function)
    (hcell : ∀ x ∈ scope.names, x.2 ≠ .cell) : codeN (model prog w) A (.call (.ref f) args) R s := by
  obtain ⟨FG, BG, st, lv⟩ := groundX (R := R) B F N hA hf hke
  have X := X₀.keeps F.keep
  refine codeN_def (fd := fnOf name qual params body scope dV kV doc pm an cdv ct) (body := body) (binds := binds) hroom (X _ _ ho) rfl (T.nolimit.keeps F.keep) (codeRec_of X hcd) rfl hbind hcell hloc (fun h₁ hns hk₁ => ?_) hco hgen hk
  exact n_mono (h _ s.heap.objs.size h₁ FG ⟨hns, fun b o e => hk₁ b o (of_hideAll _ e), Nat.le_of_eq (hideAll_size _ _)⟩
    (fun q hq => ⟨hk₁ _ _ (N q hq).1, Nat.ne_of_lt (Heap.lt_size (N q hq).1), hideAll_none _ (List.mem_map_of_mem hq)⟩) BG (X₀.keeps st) (T.keeps st)) (fun fl s' hl => lv _ _ hl) fun _ _ y => y
end
section
variable {M : Model} {A : Around} {E : Value → Shared → Prop} {s : Shared} {env : Env}
theorem n_execs_nil {Q : Flow → Shared → Prop} (h : Q .next s) : wpN M A (execs [] env) Q E s := n_pure h
theorem n_execs_cons {st : Stmt} {rest : List Stmt} {Q : Flow → Shared → Prop} (h : wpN M A (exec st env) (fun f s₁ => match f with | .next => wpN M A (execs rest env) Q E s₁ | f => Q f s₁) E s) : wpN M A (execs (st :: rest) env) Q E s := by
  show wpN M A (exec st env >>= fun f => match f with | .next => execs rest env | f => pure f) Q E s
  refine n_bind (n_mono h (fun f s₁ h₁ => ?_) fun _ _ x => x)
  cases f <;> first | exact h₁ | exact n_pure h₁
/-- a statement that the library's logic walks, then the rest -/
theorem n_execs_any {st : Stmt} {rest : List Stmt} {Q : Flow → Shared → Prop} (h : wpAny M A (exec st env) (fun f s₁ => match f with | .next => wpN M A (execs rest env) Q E s₁ | f => Q f s₁) E s) : wpN M A (execs (st :: rest) env) Q E s := n_execs_cons (n_any h)
theorem n_Assign_Name {x : Str} {pos' pos : Pos} {value : Expr} {Q : Flow → Shared → Prop}
    (h : wpN M A (eval value env) (fun v s₁ => wpN M A (storeName env x v) (fun _ => Q .next) E s₁) E s)
    (hs : swapsWith value (some (.Name x pos')) pos.line env = pure false := by rfl) : wpN M A (exec (.Assign [.Name x pos'] value pos) env) Q E s := fun Γ p hΓ hN => by
  simp only [exec_Assign_Name env x pos' value pos hs, Sem.wp_bind', Sem.wp_cmd_standAt, Sem.wp_bindName, Sem.wp_pure']
  exact Sem.wp_mono M Γ _ (fun v _ s₁ h₁ => h₁ Γ _ hΓ hN) (fun _ _ _ h' => h') _ _ (h Γ _ hΓ hN)
theorem n_Return {e : Expr} {pos : Pos} {Q : Flow → Shared → Prop} (h : wpN M A (eval e env) (fun v => Q (.ret v)) E s) : wpN M A (exec (.Return (some e) pos) env) Q E s := by
  show wpN M A (standAt pos >>= fun _ => eval e env >>= fun v => pure (Flow.ret v)) Q E s
  exact n_then (wpAny_standAt (n_bind (n_mono h (fun v s₁ h₁ => n_pure h₁) fun _ _ x => x)))
theorem n_If {test : Expr} {body orelse : List Stmt} {pos : Pos} {Q : Flow → Shared → Prop}
    (h : wpN M A (isTrue test env (eval test env)) (fun b s₁ => if b = true then wpN M A (execs body env) Q E s₁ else wpN M A (execs orelse env) Q E s₁) E s) : wpN M A (exec (.If test body orelse pos) env) Q E s := by
  show wpN M A (standAt pos >>= fun _ => isTrue test env (eval test env) >>= fun b => if b = true then execs body env else execs orelse env) Q E s
  refine n_then (wpAny_standAt (n_bind (n_mono h (fun b s₁ h₁ => ?_) fun _ _ x => x)))
  cases b <;> exact h₁
theorem n_BinOp {l r : Expr} {op : Operator} {pos : Pos} {Q : Value → Shared → Prop}
    (h : wpN M A (eval l env) (fun a s₁ => wpN M A (eval r env) (fun b s₂ => wpAny M A (binaryOp op a b) Q E s₂) E s₁) E s) : wpN M A (eval (.BinOp l op r pos) env) Q E s := fun Γ p hΓ hN => by
  simp only [eval_BinOp, Sem.wp_bind', Sem.wp_holding, Sem.wp_cmd_standAt, Sem.wp_operate]
  exact Sem.wp_mono M Γ _ (fun a p₁ s₁ h₁ => Sem.wp_mono M Γ _ (fun b _ s₂ h₂ => h₂ Γ _ hΓ) (fun _ _ _ h' => h') _ _ (h₁ Γ p₁ hΓ hN)) (fun _ _ _ h' => h') _ _ (h Γ p hΓ hN)
theorem n_isTrue_Compare {l r : Expr} {op : CmpOp} {pos : Pos} {whole : Sem Value} {Q : Bool → Shared → Prop}
    (h : wpN M A (eval l env) (fun a s₁ => wpAny M A (eval r env) (fun b s₂ => wpAny M A (compareOp op a b) (fun c s₃ => wpAny M A (truthy c) Q E s₃) E s₂) E s₁) E s)
    (hm : behindInMarks op r = false := by with_unfolding_all rfl) : wpN M A (isTrue (.Compare l [op] [r] pos) env whole) Q E s := fun Γ p hΓ hN => by
  simp only [isTrue_Compare1, markedBehindIn_of_false hm, Sem.wp_bind', Sem.wp_holding, Sem.wp_cmd_standAt, Sem.wp_operate]
  exact Sem.wp_mono M Γ _ (fun a p₁ s₁ h₁ => Sem.wp_mono M Γ _ (fun b _ s₂ h₂ => Sem.wp_mono M Γ _ (fun c p₃ s₃ h₃ => h₃ Γ p₃ hΓ) (fun _ _ _ h' => h') _ _ (h₂ Γ _ hΓ)) (fun _ _ _ h' => h') _ _ (h₁ Γ p₁ hΓ)) (fun _ _ _ h' => h') _ _ (h Γ p hΓ hN)
theorem n_spliced_nil {Q : List Value → Shared → Prop} (h : Q [] s) : wpN M A (spliced []) Q E s := n_pure h
theorem n_spliced_cons {x : Sem Value} {rest : List (Bool × Sem Value)} {Q : List Value → Shared → Prop}
    (h : wpN M A x (fun v s₁ => wpN M A (spliced rest) (fun vs s₂ => Q (v :: vs) s₂) E s₁) E s) : wpN M A (spliced ((false, x) :: rest)) Q E s := by
  show wpN M A (x >>= fun v => (pure [v] : Sem (List Value)) >>= fun here => holding here (spliced rest) >>= fun vs => pure (here ++ vs)) Q E s
  refine n_bind (n_mono h (fun v s₁ h₁ => ?_) fun _ _ e => e)
  refine n_bind (n_pure ?_)
  exact n_bind (n_holding (n_mono h₁ (fun vs s₂ h₂ => n_pure h₂) fun _ _ e => e))
theorem n_evalArgs {f : Value} {x : Sem Value} {rest : List (Bool × Sem Value)} {Q : Args → Shared → Prop}
    (h : wpN M A (spliced ((false, x) :: rest)) (fun vs s₁ => Q ⟨vs, []⟩ s₁) E s) : wpN M A (evalArgs f true ((false, x) :: rest) []) Q E s := by
  unfold evalArgs
  show wpN M A (spliced ((false, x) :: rest) >>= _) Q E s
  refine n_bind (n_mono h (fun vs s₁ h₁ => ?_) fun _ _ e => e)
  refine n_holding ?_
  exact n_then (wpAny_pure (n_then (wpAny_pure (n_pure h₁))))
theorem n_keep {α : Type} {t : Sem α} {vs : List Value} {Q : α → Shared → Prop} (h : wpN M A t Q E s) : wpN M A (t.keep vs) Q E s := fun Γ p hΓ hN => by
  rw [Sem.wp_keep]; exact h Γ p hΓ hN
/-- a def of the text is called: its arguments, then the call -/
theorem n_callWith_fn {pos : Pos} {a : Addr} {x : Sem Value} {rest : List (Bool × Sem Value)} {Q : Value → Shared → Prop} (hs : (((false, x) :: rest : List (Bool × Sem Value)).any (·.1)) = false) (hl : rest.length < 30)
    (h : wpN M A (spliced ((false, x) :: rest)) (fun vs s₁ => (∃ o fd, s₁.heap.get? a = some o ∧ o.data = .func fd) ∧ wpN M A (call (.ref a) vs []) Q E s₁) E s) :
    wpN M A (callWith pos (.ref a) [] ((false, x) :: rest) []) Q E s := by
  unfold callWith
  refine n_bind (n_holding (n_evalArgs (n_mono h (fun vs s₁ h₁ => ?_) fun _ _ e => e)))
  obtain ⟨⟨o, fd, ho, hd⟩, hc⟩ := h₁
  refine n_then (wpAny_standAt ?_)
  have e1 : ((((false, x) :: rest : List (Bool × Sem Value)).any (·.1)) || (([] : List (Option Str × Sem Value)).any (·.1.isNone))) = false := by rw [hs]; rfl
  simp only [e1]
  refine n_then (m := keeperOf (.ref a)) ?_
  unfold keeperOf
  refine wpAny_bind (wpAny_load ho ?_)
  rw [hd]
  refine wpAny_pure ?_
  dsimp only
  have e2 : ¬ (((false, x) :: rest : List (Bool × Sem Value)).length + 2 * ([] : List (Option Str × Sem Value)).length > 30) := by
    simp only [List.length_cons, List.length_nil]; omega
  rw [if_neg e2]
  unfold callMarked
  exact n_bind (n_keep (n_mono hc (fun r s₂ hr => n_bind (n_holding (n_any (wpAny_point (n_pure hr))))) fun _ _ e => e))
theorem n_Call {x : Str} {np pos : Pos} {args : List Expr} {Q : Value → Shared → Prop}
    (h : wpAny M A (eval (.Name x np) env) (fun f s₁ => wpN M A (callWith pos f [] (backTo pos (starEach args env)) []) Q E s₁) E s) : wpN M A (eval (.Call (.Name x np) args [] pos) env) Q E s := by
  show wpN M A (eval (.Name x np) env >>= fun f => callWith pos f [] (backTo pos (starEach args env)) []) Q E s
  exact n_then h
end

end PartNC

theorem flush2 {M : Model} {A : Around} {env : Env} {Q : Flow → Shared → Prop} {E : Value → Shared → Prop} {s : Shared} (h : wpAny M A (execs [] env) Q E s) : wpAny M A (execs [] env) Q E s := by
  w_top off
  first | (walk1; fail) | exact h

section PartNB
open Sem (wp)
theorem ba_mro : mroOf (.type "bytearray") = pure [.type "bytearray", .type "object"] := by rw [mroOf_type]; kernel_rfl
theorem ba_look_new : typeLookup (.type "bytearray") "__new__" = pure (some (.builtin "bytearray.__new__")) := by rw [typeLookup_type, builtinLookup_eq_fast]; kernel_rfl
theorem ba_sub : isSubtype (.type "bytearray") (.type "bytearray") = pure true := by rw [isSubtype_type]; kernel_rfl
theorem ba_slot_init : Slot "bytearray" "__init__" "bytearray.__init__" :=
  .of (owner := "bytearray") (n := "__init__") (by rw [typeLookup_type, builtinLookup_eq_fast]; kernel_rfl) (by decide +kernel) (by decide +kernel) (by decide +kernel)
    (by first | exact .inl (by decide +kernel) | exact .inr (by decide +kernel)) ba_sub
theorem ba_called : TypeCalled "bytearray" "bytearray.__new__" "bytearray.__init__" :=
  ⟨by decide +kernel, by decide +kernel, ⟨_, _, ba_mro⟩, madeBy_type ba_mro ba_look_new (by decide +kernel), by decide +kernel, ba_sub, ba_slot_init⟩
theorem ba_typeCall (a : Value) : checkTypeCall "bytearray" ⟨[a], []⟩ = pure () := by kernel_rfl
theorem ba_newCall (a : Value) : checkBuiltinCall "bytearray.__new__" ⟨[.type "bytearray", a], []⟩ = pure () := by kernel_rfl
theorem ba_entry_new : entryFor table "bytearray.__new__" = some Builtin.«list.__new__» := entryFor_alias (id' := "list.__new__") (by rw [fastTable_eq_tree]; kernel_rfl) (by first | rfl | decide +kernel) (by decide +kernel) (by rw [fastTable_eq_tree]; kernel_rfl)
theorem ba_entry_init : entryFor table "bytearray.__init__" = some Builtin.«bytearray.__init__» := entryFor_of_tree (by kernel_rfl)
theorem ba_plain_new : plainId "bytearray.__new__" = true := by decide +kernel
theorem ba_plain_init : plainId "bytearray.__init__" = true := by decide +kernel
set_option maxRecDepth 1000000 in
theorem ba_owner : ("bytearray.__new__".splitOn ".__new__").headD "" = "bytearray" := by simp +decide [String.splitOn, String.splitOnAux]
section
variable {prog : Program} {w : World} {A : Around} {E : Value → Shared → Prop} {s : Shared}
theorem ba_code_new (a : Value) {Q₁ : Value → Shared → Prop}
    (h : Q₁ (.ref s.heap.objs.size) { s with heap := s.heap.push { cls := .type "bytearray", data := .bytearray #[] } }) :
    codeAny (model prog w) A (.call (.builtin "bytearray.__new__") ⟨[.type "bytearray", a], []⟩) (wants Q₁ E) s := by
  refine codeAny_of_tree ?_
  show wpAny _ A.in1 (do checkBuiltinCall "bytearray.__new__" ⟨[.type "bytearray", a], []⟩; again (.builtin "bytearray.__new__" ⟨[.type "bytearray", a], []⟩)) _ _ s
  refine wpAny_bind (wpAny_of_eq (ba_newCall a) (wpAny_pure ⟨plainId_quiet ba_plain_new _, codeAny_builtin_stack ba_entry_new rfl fun p st => ?_⟩))
  rw [Around.under_plainId ba_plain_new _]
  have hsub := ba_sub
  have hown := ba_owner
  obtain ⟨hp, g, d, tk, os⟩ := s
  simp only [hown]
  wp_walk
  exact h
theorem ba_release : typeLookup (.type "bytearray") "__release_buffer__" = pure (some (.builtin "bytearray.__release_buffer__")) := by rw [typeLookup_type, builtinLookup_eq_fast]; kernel_rfl
theorem ba_bind (v : Value) : Builtin.Bytes.bindOptional "bytearray.__init__" "bytearray" ["source", "encoding", "errors"] [v] [] = pure [some v, none, none] := by kernel_rfl
theorem ba_owner2 : Value.type ("bytearray.__release_buffer__".dropRight ("__release_buffer__".length + 1)) = .type "bytearray" := by decide +kernel
theorem ba_ends : ("bytearray.__release_buffer__".endsWith ("." ++ "__release_buffer__")) = true := by decide +kernel
theorem ok_builtin {id : String} {args : Args} (h : okCode (.builtin id args) = true) : Builtin.Bytes.decodersThatHold.contains id = false ∧ id ≠ "bytearray.__contains__" ∧ id ≠ "bytearray.__mod__" ∧ id ≠ "bytearray.__rmod__" ∧ id ≠ "_struct.pack_into.held" ∧ id ≠ "bytearray.find.held" := by
  have q : shunned.contains id = false := by simpa [okCode] using h
  have n : ∀ x ∈ shunned, id ≠ x := fun x hx e => by
    have : shunned.contains id = true := by rw [e]; exact List.contains_iff_mem.mpr hx
    rw [this] at q; cases q
  refine ⟨?_, n _ (by decide), n _ (by decide), n _ (by decide), n _ (by decide), n _ (by decide)⟩
  cases z : Builtin.Bytes.decodersThatHold.contains id with
  | false => rfl
  | true => exact absurd rfl (n id (List.mem_append_right _ (List.contains_iff_mem.mp z)))
theorem any_no {α : Type} {f : α → Bool} {l : List α} {Q : Bool → Prop} (hf : ∀ x ∈ l, f x = false) (h : Q false) : Q (l.any f) := by
  have e : l.any f = false := List.any_eq_false.mpr fun x hx => by rw [hf x hx]; exact Bool.false_ne_true
  rw [e]; exact h
theorem n_exported {v : Value} {Q : Bool → Shared → Prop} {M : Model} (h : Q false s) : wpN M A (Builtin.Bytes.exported v) Q E s := by
  unfold Builtin.Bytes.exported
  refine n_bind (n_stack fun st hst => n_pure (any_no (Q := fun b => Q b s) (fun x hx => ?_) h))
  have hk := hst x hx
  split <;> first
    | rfl
    | (have := ok_builtin hk; simp_all; done)
theorem n_if_false {α : Type} {M : Model} {c : Bool} {a b : Sem α} {Q : α → Shared → Prop} (hc : c = false) (h : wpN M A b Q E s) : wpN M A (if c = true then a else b) Q E s := by
  subst hc
  exact h
theorem n_if_true {α : Type} {M : Model} {c : Bool} {a b : Sem α} {Q : α → Shared → Prop} (hc : c = true) (h : wpN M A a Q E s) : wpN M A (if c = true then a else b) Q E s := by
  subst hc
  exact h
theorem ba_typeIs {a : Addr} {o : Obj} (ho : s.heap.get? a = some o) (hc : o.cls = .type "bytearray") : s.TypeIs (.ref a) "bytearray" := ⟨o, ho, hc⟩
theorem ba_ownRelease {M : Model} {a : Addr} {o : Obj} {Q : Bool → Shared → Prop} (ho : s.heap.get? a = some o) (hc : o.cls = .type "bytearray") (h : Q false s) : wpAny M A (Builtin.Bytes.ownRelease (.ref a)) Q E s := by
  have hT := ba_typeIs ho hc
  unfold Builtin.Bytes.ownRelease Builtin.Bytes.slotIsOwn
  refine wpAny_bind (wpAny_bind (wpAny_specialOf hT ba_release ?_))
  dsimp only
  rw [show (!("bytearray.__release_buffer__".endsWith ("." ++ "__release_buffer__"))) = false by rw [ba_ends]; rfl]
  refine PySem.bm_if_false rfl ?_
  rw [ba_owner2]
  exact wpAny_isInstance hT ba_sub (wpAny_pure h)
theorem ba_write {M : Model} {a : Addr} {b : Array UInt8} {f : Array UInt8 → Array UInt8} {Q : Unit → Shared → Prop} (ho : s.heap.get? a = some { cls := .type "bytearray", data := .bytearray b }) (hz : (f b).size ≤ sizeLine)
    (h : Q () { s with heap := s.heap.update a (Obj.mapBytearray f) }) : wpAny M A (Builtin.Bytes.write (.ref a) f) Q E s := by
  show wpAny M A (updateBytearray a f) Q E s
  unfold updateBytearray
  refine wpAny_bind (wpAny_load ho ?_)
  refine wpAny_bind (wpAny_update ho ?_)
  have ho' : (s.heap.update a (Obj.mapBytearray f)).get? a = some { cls := .type "bytearray", data := .bytearray (f b) } := Heap.get?_update_self (Obj.mapBytearray f) ho rfl
  refine wpAny_lookBehind ho' ?_ h
  show (if (f b).size > sizeLine then some "bytearray:memory" else none) = none
  rw [if_neg (Nat.not_lt.mpr hz)]
theorem ba_index : typeLookup (.type "int") "__index__" = pure (some (.builtin "int.__index__")) := by rw [typeLookup_type, builtinLookup_eq_fast]; kernel_rfl
end
section
variable {prog : Program} {w : World} {A : Around} {E : Value → Shared → Prop} {s : Shared}
theorem ba_init {a : Addr} {t : Tok} {Q : Fin → Shared → Prop} (ho : s.heap.get? a = some { cls := .type "bytearray", data := .bytearray #[] })
    (h : ∀ h', h'.get? a = some { cls := .type "bytearray", data := .bytearray #[0] } → Heap.SameBut a s.heap h' → Q (.done (.ret .none)) { s with heap := h' }) :
    wpN (model prog w) A (Builtin.«bytearray.__init__» ⟨[.ref a, .int 1 t], []⟩) Q E s := by
  unfold Builtin.«bytearray.__init__»
  refine n_then (ba_ownRelease ho rfl ?_)
  refine n_if_false rfl ?_
  refine n_then (wpAny_of_eq (ba_bind _) ?_)
  refine n_then (wpAny_of_eq (a := ()) rfl ?_)
  refine n_then (wpAny_of_eq (a := ()) rfl ?_)
  refine n_bind ?_
  unfold orM
  refine n_bind (n_exported ?_)
  refine n_any ?_
  show wpAny _ _ (Builtin.Bytes.exportsOf (.ref a) >>= fun n => pure (decide (n > 0))) _ _ _
  refine wpAny_bind ?_
  unfold Builtin.Bytes.exportsOf
  refine wpAny_bind (wpAny_load ho (wpAny_pure (wpAny_pure ?_)))
  refine n_any ?_
  refine PySem.bm_if_false (by decide) ?_
  refine wpAny_bind (ba_write ho (Nat.zero_le _) ?_)
  have ho₁ : (s.heap.update a (Obj.mapBytearray fun _ => #[])).get? a = some { cls := .type "bytearray", data := .bytearray #[] } := Heap.get?_update_self (Obj.mapBytearray fun _ => #[]) ho rfl
  have hs₁ : Heap.SameBut a s.heap (s.heap.update a (Obj.mapBytearray fun _ => #[])) := Heap.SameBut.update ..
  generalize s.heap.update a (Obj.mapBytearray fun _ => #[]) = h₁ at ho₁ hs₁ ⊢
  refine wpAny_bind (wpAny_of_eq (a := (none : Option Str)) rfl ?_)
  refine PySem.bm_if_false rfl ?_
  refine wpAny_bind (wpAny_of_eq (a := ()) rfl ?_)
  refine wpAny_bind (wpAny_of_eq (show specialOf (.int 1 t) "__index__" = pure (some (.builtin "int.__index__")) from ba_index) ?_)
  refine PySem.bm_if_true rfl ?_
  refine wpAny_bind (wpAny_of_eq (a := .ok 1) rfl ?_)
  refine PySem.bm_if_false (by decide) ?_
  rw [if_neg (show ¬ (1 : Int) < 0 by decide)]
  refine PySem.bm_if_false (by decide) ?_
  refine PySem.bm_if_false (by decide) ?_
  refine wpAny_bind (wpAny_rule ?_)
  rw [if_pos (show (1 : Int) > 0 by decide)]
  refine wpAny_bind (ba_write ho₁ (by decide) ?_)
  refine wpAny_pure (h _ ?_ ?_)
  · exact Heap.get?_update_self (Obj.mapBytearray fun _ => Array.replicate (1 : Int).toNat 0) ho₁ rfl
  · exact hs₁.trans (Heap.SameBut.update ..)
theorem codeN_builtin {id : String} {args : Args} {b : Builtin} {R : Result → Shared → Prop} (hb : entryFor table id = some b)
    (h : wpN (model prog w) (A.under (.builtin id args)) (b args) (fun fin s' => match fin with | .done f => R (.ok f) s' | .again c' => c'.quiet = true ∧ okCode c' = true ∧ codeN (model prog w) A c' R s')
      (fun e s' => R (.error e) s') s) : codeN (model prog w) A (.builtin id args) R s := by
  refine codeN_tree ?_
  have e : (model prog w).den (.builtin id args) = b args := by
    show (match entryFor table id with | some b => b args | none => unsupported ((withoutEnding? id "#data").getD id)) = _
    rw [hb]
  rw [e]
  exact h
theorem codeN_call_builtin {id : String} {args : Args} {b : Builtin} {R : Result → Shared → Prop} (hp : plainId id = true) (ho : okCode (.builtin id args) = true) (hb : entryFor table id = some b)
    (h : wpAny (model prog w) A.in1 (checkBuiltinCall id args) (fun _ s₁ => wpN (model prog w) A.in1 (b args) (fun fin s' => match fin with | .done f => R (.ok f) s' | .again c' => c'.quiet = true ∧ okCode c' = true ∧ codeN (model prog w) A c' R s')
      (fun e s' => R (.error e) s') s₁) (fun e s' => R (.error e) s') s) : codeN (model prog w) A (.call (.builtin id) args) R s := by
  refine codeN_tree ?_
  show wpN _ A.in1 (do checkBuiltinCall id args; again (.builtin id args)) _ _ s
  refine n_then (wpAny_mono h (fun _ s₁ h₁ => n_pure ⟨plainId_quiet hp _, ho, codeN_builtin hb ?_⟩) fun _ _ x => x)
  rw [Around.under_plainId hp _]
  exact h₁
theorem n_bytearray {t : Tok} {Q : Value → Shared → Prop}
    (h : ∀ h', h'.get? s.heap.objs.size = some { cls := .type "bytearray", data := .bytearray #[0] } → (∀ b o, s.heap.get? b = some o → h'.get? b = some o) → Q (.ref s.heap.objs.size) { s with heap := h' }) :
    wpN (model prog w) A (call (.type "bytearray") [.int 1 t] []) Q E s := by
  have ft := ba_called
  obtain ⟨c, tl, hmro⟩ := ft.mro
  refine n_call (codeN_tree ?_)
  show wpN _ _ (callAny (.type "bytearray") _) _ _ _
  refine n_pure ⟨Code.quiet_builtin _ (by decide +kernel), rfl, codeN_builtin F.entry_type_call ?_⟩
  rw [Around.under_plain (weight_type_call_type "bytearray" [.int 1 t] []) rfl]
  unfold Builtin.«type.__call__»
  refine n_if_false ft.notType ?_
  refine n_if_false ft.canCreate ?_
  refine n_then (wpAny_of_eq (ba_typeCall _) ?_)
  refine n_then (wpAny_of_eq hmro ?_)
  refine n_if_false rfl ?_
  refine n_then (wpAny_of_eq ft.made ?_)
  refine n_then (wpAny_pure ?_)
  have hn : wpAny (model prog w) A.in1 (holding [Value.builtin "bytearray.__new__"] (call (.builtin "bytearray.__new__") (.type "bytearray" :: [.int 1 t]) []))
      (fun v s' => v = .ref s.heap.objs.size ∧ s' = { s with heap := s.heap.push { cls := .type "bytearray", data := .bytearray #[] } }) (fun _ _ => False) s :=
    wpAny_holding (wpAny_call (codeAny_mono (ba_code_new (E := fun _ _ => False) (Q₁ := fun v s' => v = .ref s.heap.objs.size ∧ s' = { s with heap := s.heap.push { cls := .type "bytearray", data := .bytearray #[] } }) (.int 1 t) ⟨rfl, rfl⟩) fun r s' hr => by
      cases r with
      | error e => exact hr
      | ok fl => cases fl <;> exact hr))
  refine n_then (wpAny_mono hn (fun v s' hv => ?_) fun _ _ x => x.elim)
  obtain ⟨rfl, rfl⟩ := hv
  have ho : (s.heap.push { cls := .type "bytearray", data := .bytearray #[] }).get? s.heap.objs.size = some { cls := .type "bytearray", data := .bytearray #[] } := Heap.get?_push_size _ rfl
  have hT : ({ s with heap := s.heap.push { cls := .type "bytearray", data := .bytearray #[] } } : Shared).TypeIs (.ref s.heap.objs.size) "bytearray" := ba_typeIs (s := { s with heap := s.heap.push { cls := .type "bytearray", data := .bytearray #[] } }) ho rfl
  refine n_then (wpAny_isInstance hT ba_sub ?_)
  refine n_if_false rfl ?_
  refine n_bind (n_holding ?_)
  unfold callSpecial?
  refine n_then (wpAny_specialOf hT ba_slot_init.lookup ?_)
  dsimp only
  refine n_holding ?_
  refine n_then (wpAny_of_eq (ba_slot_init.bind _) ?_)
  dsimp only
  refine n_bind ?_
  refine n_call (codeN_call_builtin ba_slot_init.plain rfl ba_entry_init (ba_slot_init.check _ _ _ _ _ _ _ _ hT ?_ ?_))
  · unfold argsOk; kernel_rfl
  refine ba_init ho fun h' hn' hs' => ?_
  refine n_pure ?_
  refine n_if_false (by decide) ?_
  refine n_pure ?_
  exact h h' hn' fun b o e => (hs'.2 b (Nat.ne_of_lt (Heap.lt_size e))).trans (Heap.get?_push_of_some _ e)
end

end PartNB

theorem flush3 {M : Model} {A : Around} {env : Env} {Q : Flow → Shared → Prop} {E : Value → Shared → Prop} {s : Shared} (h : wpAny M A (execs [] env) Q E s) : wpAny M A (execs [] env) Q E s := by
  w_top off
  first | (walk1; fail) | exact h

section PartNB3
theorem bs_slot : Slot "bytearray" "__setitem__" "bytearray.__setitem__" :=
  .of (owner := "bytearray") (n := "__setitem__") (by rw [typeLookup_type, builtinLookup_eq_fast]; kernel_rfl) (by decide +kernel) (by decide +kernel) (by decide +kernel)
    (by first | exact .inl (by decide +kernel) | exact .inr (by decide +kernel)) ba_sub
theorem bs_entry : entryFor table "bytearray.__setitem__" = some Builtin.«bytearray.__setitem__» := entryFor_of_tree (by kernel_rfl)
theorem bs_args (a b c : Value) : argsOk "bytearray.__setitem__" ⟨[a, b, c], []⟩ := by unfold argsOk; kernel_rfl
theorem bx_bytes : typeLookup (.type "bytearray") "__bytes__" = pure none := by rw [typeLookup_type, builtinLookup_eq_fast]; kernel_rfl
theorem bx_index : typeLookup (.type "bytearray") "__index__" = pure none := by rw [typeLookup_type, builtinLookup_eq_fast]; kernel_rfl
theorem bx_buffer : typeLookup (.type "bytearray") "__buffer__" = pure (some (.builtin "bytearray.__buffer__")) := by rw [typeLookup_type, builtinLookup_eq_fast]; kernel_rfl
section
variable {prog : Program} {w : World} {A : Around} {E : Value → Shared → Prop} {s : Shared}
theorem bs_subscript {M : Model} {k : Int} {t : Tok} {Q : Option Int → Shared → Prop} (hf : Builtin.Bytes.fitsIndex k = true) (h : Q (some k) s) : wpAny M A (Builtin.Bytes.subscript? (.int k t)) Q E s := by
  unfold Builtin.Bytes.subscript?
  refine wpAny_bind (wpAny_of_eq (show specialOf (.int k t) "__index__" = pure (some (.builtin "int.__index__")) from ba_index) ?_)
  refine PySem.bm_if_false rfl ?_
  refine wpAny_bind (wpAny_of_eq (a := k) rfl ?_)
  refine PySem.bm_if_false (by rw [hf]; rfl) ?_
  exact wpAny_pure h
theorem bs_byteValue {M : Model} {v : Int} {t : Tok} {Q : UInt8 → Shared → Prop} (h0 : 0 ≤ v) (h1 : v < 256) (h : Q v.toNat.toUInt8 s) : wpAny M A (Builtin.Bytes.byteValue (.int v t)) Q E s := by
  unfold Builtin.Bytes.byteValue
  refine wpAny_bind (wpAny_of_eq (a := v) rfl ?_)
  refine PySem.bm_if_false (by simp only [Bool.or_eq_false_iff, decide_eq_false_iff_not]; omega) ?_
  exact wpAny_pure h
theorem bs_payload {M : Model} {a : Addr} {b : Array UInt8} {Q : Array UInt8 → Shared → Prop} (ho : s.heap.get? a = some { cls := .type "bytearray", data := .bytearray b }) (h : Q b s) : wpAny M A (Builtin.Bytes.payload (.ref a)) Q E s := by
  unfold Builtin.Bytes.payload Builtin.Bytes.payload?
  exact wpAny_bind (wpAny_bind (wpAny_load ho (wpAny_pure (wpAny_pure h))))
theorem bx_ends : ("bytearray.__buffer__".endsWith ("." ++ "__buffer__")) = true := by decide +kernel
theorem bx_owner : Value.type ("bytearray.__buffer__".dropRight ("__buffer__".length + 1)) = .type "bytearray" := by decide +kernel
theorem bx_slotIsOwn {M : Model} {a : Addr} {Q : Bool → Shared → Prop} (hT : s.TypeIs (.ref a) "bytearray") (h : Q true s) : wpAny M A (Builtin.Bytes.slotIsOwn (.ref a) "__buffer__") Q E s := by
  unfold Builtin.Bytes.slotIsOwn
  refine wpAny_bind (wpAny_specialOf hT bx_buffer ?_)
  dsimp only
  rw [show (!("bytearray.__buffer__".endsWith ("." ++ "__buffer__"))) = false by rw [bx_ends]; rfl]
  refine bm_if_false rfl ?_
  rw [bx_owner]
  exact wpAny_isInstance hT ba_sub h
theorem ba_setItem {a : Addr} {b : Array UInt8} {k v : Int} {t u : Tok} {Q : Unit → Shared → Prop} (ho : s.heap.get? a = some { cls := .type "bytearray", data := .bytearray b }) (h0 : 0 ≤ k) (h1 : k < b.size) (hz : b.size ≤ sizeLine) (h2 : 0 ≤ v) (h3 : v < 256)
    (h : Q () { s with heap := s.heap.update a (Obj.mapBytearray (·.setIfInBounds k.toNat v.toNat.toUInt8)) }) : wpAny (model prog w) A (setItem (.ref a) (.int k t) (.int v u)) Q E s := by
  have hT := ba_typeIs ho rfl
  have hf : Builtin.Bytes.fitsIndex k = true := by
    have : sizeLine = 16777216 := rfl
    simp only [Builtin.Bytes.fitsIndex, Bool.and_eq_true, decide_eq_true_eq]; omega
  unfold setItem
  try with_reducible refine wpAny_holding ?_
  first | refine wpAny_bind (wpAny_pure ?_) | skip
  refine wpAny_bind (wpAny_sequenceKey hT (by decide) ?_)
  refine wpAny_bind (wpAny_callSpecial?_slot (name := Str.ofString "__setitem__") hT bs_slot
    (wpAny_call_entry bs_slot hT bs_entry ?_ (bs_args _ _ _)))
  unfold Builtin.«bytearray.__setitem__»
  refine PySem.bm_if_false rfl ?_
  show wpAny _ _ (Builtin.Bytes.subscript? (.int k t) >>= _) _ _ s
  refine wpAny_bind (bs_subscript hf ?_)
  dsimp only
  refine wpAny_bind (bs_byteValue h2 h3 ?_)
  refine wpAny_bind (bs_payload ho ?_)
  have hk : seqIndex? k b.size = some k.toNat := by
    unfold seqIndex?
    have e : (if k < 0 then k + (b.size : Int) else k) = k := if_neg (by omega)
    simp only [e]
    exact if_pos (by simp only [Bool.and_eq_true, decide_eq_true_eq]; omega)
  rw [hk]
  dsimp only
  refine wpAny_bind (ba_write ho (by rw [Array.size_setIfInBounds]; exact hz) ?_)
  exact wpAny_pure ⟨.none, rfl, wpAny_pure h⟩
theorem bx_new {a : Addr} {b : Array UInt8} {Q : Value → Shared → Prop} (ho : s.heap.get? a = some { cls := .type "bytearray", data := .bytearray b }) (hz : b.size ≤ sizeLine)
    (hQ : Q (.bytes b s.toks) { s with toks := s.toks + 1 }) : codeAny (model prog w) A (.call (.builtin "bytes.__new__") ⟨[.type "bytes", .ref a], []⟩) (wants Q E) s := by
  have hT := ba_typeIs ho rfl
  refine codeAny_of_tree ?_
  show wpAny _ A.in1 (do checkBuiltinCall "bytes.__new__" ⟨[.type "bytes", .ref a], []⟩; again (.builtin "bytes.__new__" ⟨[.type "bytes", .ref a], []⟩)) _ _ s
  refine wpAny_bind (wpAny_of_eq (F.bm_newCall _) (wpAny_pure ⟨plainId_quiet F.bm_plain _, codeAny_builtin F.bm_entry ?_⟩))
  rw [Around.under_plainId F.bm_plain _]
  unfold Builtin.«bytes.__new__»
  refine wpAny_bind (wpAny_of_eq (a := true) rfl ?_)
  refine bm_if_false rfl ?_
  refine wpAny_bind (wpAny_of_eq F.bm_sub ?_)
  refine bm_if_false rfl ?_
  refine wpAny_bind (wpAny_of_eq (F.bm_bind _) ?_)
  refine wpAny_bind (wpAny_of_eq (a := ()) rfl ?_)
  refine wpAny_bind (wpAny_of_eq (a := ()) rfl ?_)
  refine bm_if_false rfl ?_
  refine wpAny_bind (wpAny_specialOf hT bx_bytes ?_)
  refine wpAny_bind (wpAny_bind ?_)
  show wpAny _ _ (load a >>= _) _ _ _
  refine wpAny_bind (wpAny_load ho ?_)
  refine wpAny_pure (wpAny_pure ?_)
  refine bm_if_false rfl ?_
  refine wpAny_bind (wpAny_specialOf hT bx_index ?_)
  refine bm_if_true rfl ?_
  first
    | show wpAny _ _ (Builtin.Bytes.buffer? "bytes.__new__" (.ref a) true >>= _) _ _ _
    | (refine wpAny_bind ?_; show wpAny _ _ (Builtin.Bytes.buffer? "bytes.__new__" (.ref a) true >>= _) _ _ _)
  refine wpAny_bind ?_
  unfold Builtin.Bytes.buffer?
  refine wpAny_bind (wpAny_specialOf hT bx_buffer ?_)
  refine wpAny_bind (bx_slotIsOwn hT ?_)
  refine bm_if_false rfl ?_
  refine wpAny_bind (wpAny_specialOf hT bx_buffer ?_)
  dsimp only
  refine wpAny_bind (ba_ownRelease ho rfl ?_)
  refine bm_if_false rfl ?_
  refine wpAny_bind (bs_payload ho (wpAny_pure ?_))
  dsimp only
  refine wpAny_bind (wpAny_rule ?_)
  refine wpAny_bind (wpAny_mkBytes ?_ hz)
  show wpAny _ _ (if (Value.type "bytes" == Value.type "bytes") = true then _ else _) _ _ _
  refine bm_if_true (by decide) ?_
  first
    | exact wpAny_pure hQ
    | exact wpAny_bind (wpAny_pure (wpAny_pure hQ))
theorem bx_call {a : Addr} {b : Array UInt8} {Q : Value → Shared → Prop} (ho : s.heap.get? a = some { cls := .type "bytearray", data := .bytearray b }) (hz : b.size ≤ sizeLine)
    (hQ : Q (.bytes b s.toks) { s with toks := s.toks + 1 }) : wpAny (model prog w) A (call (.type "bytes") [.ref a]) Q E s := by
  refine callType_codes (Q₁ := fun obj s₁ => s₁.TypeIs obj "bytes" ∧ Q obj s₁) F.bm_called (F.bm_typeCall _) F.entry_object_init
    (bx_new ho hz ⟨PySem.W.typeIs_bytes _ _ _, hQ⟩) fun obj s₁ h₁ => ?_
  exact ⟨h₁.1, F.args_object_init_2 obj _, object_init_meets F.bm_called.init.lookup F.bm_called.made (by decide) prog w A.in1 _ s₁ ⟨h₁.1, rfl, h₁.2⟩⟩
end

end PartNB3

theorem flush4 {M : Model} {A : Around} {env : Env} {Q : Flow → Shared → Prop} {E : Value → Shared → Prop} {s : Shared} (h : wpAny M A (execs [] env) Q E s) : wpAny M A (execs [] env) Q E s := by
  w_top off
  first | (walk1; fail) | exact h

section PartNT
section
variable {prog : Program} {w : World} {A : Around} {E : Value → Shared → Prop} {s : Shared}
theorem tup_index {l : Addr} {i j k m : Int} {t u u1 u2 u3 : Tok} {Q : Value → Shared → Prop} (ht : IsTup s.heap l #[.int i u, .int j u1, .int k u2, .int m u3]) (h : Q (.int 0 s.toks) { s with toks := s.toks + 1 }) :
    wpAny (model prog w) A (call (.builtin "tuple.index") [.ref l, .int i t]) Q E s := by
  obtain ⟨⟨cls, dd, data, sl⟩, ho, hc, n, hd⟩ := id ht
  simp only at hc hd
  subst hc hd
  refine wpAny_call_entry PySem.F.slot_tuple_index ⟨_, ho, rfl⟩ PySem.F.entry_tuple_index ?_ (PySem.F.args_tuple_index_2 _ _)
  unfold Builtin.«tuple.index»
  refine wpAny_bind (wpAny_of_eq (a := (.ref l, [.int i t])) rfl ?_)
  refine wpAny_bind ?_
  unfold Builtin.Tuple.tupleItemsOf
  refine wpAny_bind (wpAny_seqItems ho rfl (wpAny_pure ?_))
  dsimp only
  refine wpAny_bind (wpAny_pure ?_)
  refine wpAny_bind (wpAny_pure ?_)
  refine wpAny_bind ?_
  rw [Std.Legacy.Range.forIn_eq_forIn_range']
  have hr : List.range' (0 : Nat) 4 1 = [0, 1, 2, 3] := rfl
  simp only [Std.Legacy.Range.size, List.size_toArray, List.length_cons, List.length_nil, Nat.min_self, hr]
  rw [List.forIn_cons]
  refine wpAny_bind ?_
  show wpAny _ _ (eqBool (.int i u) (.int i t) >>= _) _ _ _
  refine wpAny_bind (wpAny_eqBool_int ?_)
  rw [show (i == i) = true from beq_self_eq_true i]
  refine bm_if_true rfl ?_
  unfold retInt
  refine wpAny_bind (wpAny_bind (wpAny_mkInt (wpAny_pure ?_)))
  refine wpAny_pure ?_
  dsimp only
  refine wpAny_pure ?_
  dsimp only
  refine wpAny_pure ?_
  exact ⟨_, rfl, h⟩
theorem tup_methodK {K : Frag} {l : Addr} {vs : List Value} {n : Nat} {sl : Array (Option Value)} {pl : Sem Bool} {Q : Value × List Value → Shared → Prop} (X : K.In s.heap) (hl : K.lookup l = some ⟨.type "tuple", none, .seq vs.toArray n, sl⟩) (h : Q (.builtin "tuple.index", [.ref l]) s) :
    wpAny (model prog w) A (getMethod (.ref l) "index" pl) Q E s :=
  getMethod_builtin ⟨_, X _ _ hl, rfl⟩ PySem.F.plainAttrs_tuple PySem.F.slot_tuple_index PySem.F.type_tuple_index (fun a e => by cases e; exact ⟨_, X _ _ hl, rfl⟩) h
end

end PartNT

theorem flush5 {M : Model} {A : Around} {env : Env} {Q : Flow → Shared → Prop} {E : Value → Shared → Prop} {s : Shared} (h : wpAny M A (execs [] env) Q E s) : wpAny M A (execs [] env) Q E s := by
  w_top off
  first | (walk1; fail) | exact h

section PartNF
open PyProof.V
theorem go_plain {prog : Program} {w : World} {A : Around} {E : Value → Shared → Prop} {s : Shared} {target : PySem.Expr} {I : Addr} {o : Obj} {v : Value} {cls : String} {Q : Unit → Shared → Prop} (ho : s.heap.get? I = some o) (hc : o.cls = .type cls)
    (hn : ["enumerate", "zip", "dict_itemiterator", "dict_reverseitemiterator", "odict_iterator", "itertools.zip_longest", "itertools.pairwise"].contains cls = false) (h : Q () s) :
    wpAny (model prog w) A (letOwnedTupleGo target (.ref I) v) Q E s := by
  have core : wpAny (model prog w) A (do
      let (.ref r, .ref a) := (Value.ref I, v) | return
      let o ← load r
      match o.cls, o.data with
      | .type n, .fields vs =>
        if ["enumerate", "zip", "dict_itemiterator", "dict_reverseitemiterator", "odict_iterator", "itertools.zip_longest", "itertools.pairwise"].contains n && vs[0]? == some (rawInt a) then
          rule "for.unpacks-the-owned-tuple"
          updateField r 0 .none
      | _, _ => pure ()) Q E s := by
    cases v <;> first
      | exact wpAny_pure h
      | (refine wpAny_bind (wpAny_load ho ?_)
         rw [hc]
         cases o.data <;> first
           | exact wpAny_pure h
           | (simp only [hn, Bool.false_and]; exact wpAny_pure h))
  unfold letOwnedTupleGo
  cases target <;> first | exact core | exact wpAny_pure h

section
variable {prog : Program} {w : World} {A : Around} {s : Shared} {env : Env} {h₀ : Heap} {target : PySem.Expr} {body : List Stmt} {Q : Flow → Shared → Prop}
/-- what is left of a loop: the values to come, each a turn -/
noncomputable def NRest (prog : Program) (w : World) (A : Around) (h₀ : Heap) (env : Env) (target : PySem.Expr) (body : List Stmt) (Q : Flow → Shared → Prop) (s : Shared) (I : Addr) (cls : String) (P : List (Addr × Obj) → Prop) : List Value → (Str → Option Value) → List (Addr × Obj) → Prop
  | [], m, news => ∀ h tk, Fr h₀ env.locals h m → News h₀ env.locals h news → Q .next { s with heap := h, toks := tk }
  | v :: r, m, news => ∀ (it : Obj) h tk, it.cls = .type cls → Fr h₀ env.locals h m → News h₀ env.locals h ((I, it) :: news) →
      wpAny (model prog w) A (assign target env v) (fun _ s₂ => wpN (model prog w) A (execs body env) (UnrPost h₀ env.locals { s with heap := h, toks := tk } I it (fun m' n' => P n' ∧ NRest prog w A h₀ env target body Q s I cls P r m' n') Q) (fun _ _ => False) s₂) (fun _ _ => False) { s with heap := h, toks := tk }
theorem codeN_forL {I ax : Addr} {axo : Obj} {items : Array Value} {n : Nat} {cls : String} {St : Nat → Heap → Prop} {P : List (Addr × Obj) → Prop} {R : Result → Shared → Prop}
    (W : Walks prog w A I [I, ax] [I] n (fun i v => items[i]? = some v) St) (hcls : ["enumerate", "zip", "dict_itemiterator", "dict_reverseitemiterator", "odict_iterator", "itertools.zip_longest", "itertools.pairwise"].contains cls = false)
    (hn : n = items.size) (hI : ∀ i h, St i h → ∃ o, h.get? I = some o ∧ o.cls = .type cls) (hne : ax ≠ I) (hnew : h₀.get? I = none) (hL : env.locals ≠ I) (hax : ∀ h m news, Fr h₀ env.locals h m → News h₀ env.locals h news → P news → h.get? ax = some axo)
    (hR : ∀ f s', Q f s' → R (.ok f) s') :
    ∀ (k i : Nat), k = n - i → i ≤ n → ∀ (m : Str → Option Value) (news : List (Addr × Obj)) (h : Heap) (tk : Nat), St i h → Fr h₀ env.locals h m → News h₀ env.locals h news → (∀ p ∈ news, p.1 ≠ I) → P news →
      NRest prog w A h₀ env target body Q s I cls P (items.toList.drop i) m news → codeN (model prog w) A (.forLoop target (.ref I) body [] env) R { s with heap := h, toks := tk } := by
  intro k
  induction k with
  | zero =>
    intro i hk hi m news h tk st F N hoff hP hrest
    have hin : i = n := by omega
    subst hin
    refine codeN_tree ?_
    show wpN _ A ((forTurn target (.ref I) body [] env).onRaise (fun x => do noteFrame x env; theTreesLotGoes x)) _ _ _
    refine n_onRaise ?_
    simp only [forTurn]
    refine n_then (wpAny_standAt (n_bind (n_any (wpAny_onRaise (W.done _ _ _ st fun h₁ tk₁ hk₁ => ?_)))))
    refine n_pure ?_
    refine And.intro rfl <| And.intro rfl (codeN_tree ?_)
    show wpN _ A (do return Fin.done (← (execs [] env).onRaise (fun x => do noteFrame x env; theTreesLotGoes x))) _ _ _
    refine n_bind (n_onRaise (n_pure (n_pure (hR _ _ ?_))))
    have z : items.toList.drop i = [] := List.drop_of_length_le (by rw [Array.length_toList, hn]; exact Nat.le_refl _)
    rw [z] at hrest
    have keepI : ∀ b o, h₀.get? b = some o → b ≠ I := fun b o e hb => by rw [hb, hnew] at e; cases e
    exact hrest h₁ tk₁ ⟨F.ns.at' fun o e => hk₁ _ o (by simp [hL]) e, fun b o e => hk₁ b o (by simp [keepI b o e]) (F.keep b o e), F.above⟩
      fun p hp => ⟨hk₁ _ _ (by simp [hoff p hp]) (N p hp).1, (N p hp).2⟩
  | succ k ih =>
    intro i hk hi m news h tk st F N hoff hP hrest
    have hlt : i < n := by omega
    have keepI : ∀ b o, h₀.get? b = some o → b ≠ I := fun b o e hb => by rw [hb, hnew] at e; cases e
    refine codeN_tree ?_
    show wpN _ A ((forTurn target (.ref I) body [] env).onRaise (fun x => do noteFrame x env; theTreesLotGoes x)) _ _ _
    refine n_onRaise ?_
    simp only [forTurn]
    refine n_then (wpAny_standAt (n_bind (n_any (wpAny_onRaise (W.item i _ _ _ hlt st fun v h₁ tk₁ hv st₁ hk₁ => ?_)))))
    have F₁ : Fr h₀ env.locals h₁ m := ⟨F.ns.at' fun o e => hk₁ _ o (by simp [hL]) e, fun b o e => hk₁ b o (by simp [keepI b o e]) (F.keep b o e), F.above⟩
    have N₁ : News h₀ env.locals h₁ news := fun p hp => ⟨hk₁ _ _ (by simp [hoff p hp]) (N p hp).1, (N p hp).2⟩
    obtain ⟨it, hit, hic⟩ := hI _ _ st₁
    have NI : News h₀ env.locals h₁ ((I, it) :: news) := fun p hp => by
      rcases List.mem_cons.mp hp with rfl | hp
      · exact ⟨hit, fun e => hL e.symm, hnew⟩
      · exact N₁ p hp
    have hdrop : items.toList.drop i = v :: items.toList.drop (i + 1) := by
      have hl : i < items.toList.length := by rw [Array.length_toList]; omega
      have hv' : items.toList[i]? = some v := by simpa using hv
      rw [List.drop_eq_getElem_cons hl]
      congr 1
      exact Option.some.inj ((List.getElem?_eq_getElem hl).symm.trans hv')
    rw [hdrop] at hrest
    have turn := hrest it h₁ tk₁ hic F₁ NI
    refine n_then (go_plain hit hic hcls ?_)
    refine n_then (wpAny_mono turn (fun _ s₂ t₂ => n_bind (n_mono t₂ (fun f s₃ t₃ => ?_) fun _ _ e => e.elim)) fun _ _ e => e.elim)
    have fin : UnrEnd h₀ env.locals { s with heap := h₁, toks := tk₁ } I it (fun m' n' => P n' ∧ NRest prog w A h₀ env target body Q s I cls P (items.toList.drop (i + 1)) m' n') s₃ →
        codeN (model prog w) A (.forLoop target (.ref I) body [] env) R s₃ := by
      rintro ⟨h₃, tk₃, m₃, news₃, rfl, F₃, N₃, off₃, P₃, r₃⟩
      refine ih (i + 1) (by omega) (by omega) m₃ news₃ h₃ tk₃ (W.frame _ _ _ st₁ fun b hb o e => ?_) F₃ (fun p hp => N₃ p (List.mem_cons_of_mem _ hp)) off₃ P₃ r₃
      rcases List.mem_cons.mp hb with rfl | hb
      · rw [hit] at e
        cases e
        exact (N₃ _ (List.mem_cons_self ..)).1
      · obtain rfl := List.mem_singleton.mp hb
        rw [hax _ _ _ F₁ N₁ hP] at e
        cases e
        exact hax _ _ _ F₃ (fun p hp => N₃ p (List.mem_cons_of_mem _ hp)) P₃
    cases f with
    | next => exact n_pure (And.intro rfl <| And.intro rfl (fin t₃))
    | cont => exact n_pure (And.intro rfl <| And.intro rfl (fin t₃))
    | brk => exact n_pure (hR _ _ t₃)
    | ret v => exact n_pure (hR _ _ t₃)
theorem n_tupL {t : Addr} {items : Array Value} {m : Str → Option Value} {news : List (Addr × Obj)} (hh : A.handled = none) (ht : IsTup h₀ t items) (F : Fr h₀ env.locals s.heap m) (N : News h₀ env.locals s.heap news)
    (rest : ∀ I : Addr, (∀ p ∈ news, p.1 < I) → NRest prog w A h₀ env target body Q s I "tuple_iterator" (fun _ => True) items.toList m news) :
    wpAny (model prog w) A (pyIter (.ref t)) (fun it s₂ => codeN (model prog w) A (.forLoop target it body [] env) (fun r s' => match r with | .ok f => Q f s' | .error _ => False) s₂) (fun _ _ => False) s := by
  obtain ⟨o, ho, hoc, hod⟩ := ht
  have hos := F.keep _ _ ho
  have hts : s.heap.IsTuple t items := ⟨o, hos, hoc, hod⟩
  refine wpAny_pyIter_tuple hts ?_
  have hlt : t < s.heap.objs.size := Heap.lt_size hos
  have W := Walks.tuple (prog := prog) (w := w) (A := A) hh s.heap.objs.size t (Nat.ne_of_lt hlt) items
  exact codeN_forL (axo := o) (cls := "tuple_iterator") W (by decide) rfl (fun i h st => by obtain ⟨⟨o, a, b, c⟩, _⟩ := st; exact ⟨o, a, b⟩) (Nat.ne_of_lt hlt) (next_is_new F) (Nat.ne_of_lt F.ns.lt) (fun h m news F' N' _ => F'.keep _ _ ho) (fun f s' q => q) _ 0 rfl (Nat.zero_le _) m news _ _
    ⟨⟨_, Heap.get?_push_size _ rfl, rfl, rfl⟩, hts.at fun o e => Heap.get?_push_of_some _ e⟩ (F.push _) (fun p hp => ⟨Heap.get?_push_of_some _ (N p hp).1, (N p hp).2⟩) (fun p hp => Nat.ne_of_lt (Heap.lt_size (N p hp).1)) trivial
    (by rw [List.drop_zero]; exact rest _ fun p hp => Heap.lt_size (N p hp).1)
theorem n_listL {t : Addr} {o : Obj} {items : Array Value} {k : Nat} {m : Str → Option Value} {news : List (Addr × Obj)} (hh : A.handled = none) (F : Fr h₀ env.locals s.heap m) (N : News h₀ env.locals s.heap news) (hm : (t, o) ∈ news) (hc : o.cls = .type "list") (hd : o.data = .seq items k)
    (rest : ∀ I : Addr, (∀ p ∈ news, p.1 < I) → NRest prog w A h₀ env target body Q s I "list_iterator" (fun n' => (t, o) ∈ n') items.toList m news) :
    wpAny (model prog w) A (pyIter (.ref t)) (fun it s₂ => codeN (model prog w) A (.forLoop target it body [] env) (fun r s' => match r with | .ok f => Q f s' | .error _ => False) s₂) (fun _ _ => False) s := by
  have hos := (N _ hm).1
  have hts : s.heap.IsList t items := ⟨o, hos, hc, k, hd⟩
  refine wpAny_pyIter_list hts ?_
  have hlt : t < s.heap.objs.size := Heap.lt_size hos
  have W := Walks.list (prog := prog) (w := w) (A := A) hh s.heap.objs.size t (Nat.ne_of_lt hlt) items
  exact codeN_forL (axo := o) (cls := "list_iterator") W (by decide) rfl (fun i h st => by obtain ⟨⟨o, a, b, c⟩, _⟩ := st; exact ⟨o, a, b⟩) (Nat.ne_of_lt hlt) (next_is_new F) (Nat.ne_of_lt F.ns.lt) (fun h m news F' N' hp => (N' _ hp).1) (fun f s' q => q) _ 0 rfl (Nat.zero_le _) m news _ _
    ⟨⟨_, Heap.get?_push_size _ rfl, rfl, rfl⟩, hts.at fun o e => Heap.get?_push_of_some _ e⟩ (F.push _) (fun p hp => ⟨Heap.get?_push_of_some _ (N p hp).1, (N p hp).2⟩) (fun p hp => Nat.ne_of_lt (Heap.lt_size (N p hp).1)) hm
    (by rw [List.drop_zero]; exact rest _ fun p hp => Heap.lt_size (N p hp).1)
theorem NRest_ind {α : Type} {I : Addr} {cls : String} {P : List (Addr × Obj) → Prop} (f : α → Value) (Inv : List α → (Str → Option Value) → List (Addr × Obj) → Prop)
    (done : ∀ m news, Inv [] m news → ∀ h tk, Fr h₀ env.locals h m → News h₀ env.locals h news → Q .next { s with heap := h, toks := tk })
    (turn : ∀ a r m news, Inv (a :: r) m news → ∀ (it : Obj) h tk, it.cls = .type cls → Fr h₀ env.locals h m → News h₀ env.locals h ((I, it) :: news) →
      wpAny (model prog w) A (assign target env (f a)) (fun _ s₂ => wpN (model prog w) A (execs body env) (UnrPost h₀ env.locals { s with heap := h, toks := tk } I it (fun m' n' => P n' ∧ Inv r m' n') Q) (fun _ _ => False) s₂) (fun _ _ => False) { s with heap := h, toks := tk }) :
    ∀ (l : List α) (m : Str → Option Value) (news : List (Addr × Obj)), Inv l m news → NRest prog w A h₀ env target body Q s I cls P (l.map f) m news := by
  intro l
  induction l with
  | nil => exact fun m news hi => done m news hi
  | cons a r ih =>
    intro m news hi it h tk hc F N
    refine wpAny_mono (turn a r m news hi it h tk hc F N) (fun _ s₂ h₂ => n_mono h₂ (fun fl s₃ h₃ => ?_) fun _ _ e => e) fun _ _ e => e
    have fin : UnrEnd h₀ env.locals { s with heap := h, toks := tk } I it (fun m' n' => P n' ∧ Inv r m' n') s₃ → UnrEnd h₀ env.locals { s with heap := h, toks := tk } I it (fun m' n' => P n' ∧ NRest prog w A h₀ env target body Q s I cls P (r.map f) m' n') s₃ := by
      rintro ⟨h', tk', m', news', e, F', N', off, hp, hi'⟩
      exact ⟨h', tk', m', news', e, F', N', off, hp, ih m' news' hi'⟩
    cases fl with
    | next => exact fin h₃
    | cont => exact fin h₃
    | brk => exact h₃
    | ret v => exact h₃
theorem n_For {target iter : PySem.Expr} {pos : Pos}
    (h : wpN (model prog w) A (eval iter env) (fun x s₁ => wpAny (model prog w) A (pyIter x) (fun it s₂ => codeN (model prog w) A (.forLoop target it body [] env) (fun r s' => match r with | .ok f => Q f s' | .error _ => False) s₂) (fun _ _ => False) s₁) (fun _ _ => False) s)
    (hs : ∀ x, foldedSetIterable iter env x = pure x := by intro _; rfl) : wpN (model prog w) A (exec (.For target iter body [] pos) env) Q (fun _ _ => False) s := by
  rw [exec_For]
  refine n_then (wpAny_standAt (n_bind (n_mono h (fun x s₁ h₁ => ?_) fun _ _ e => e)))
  rw [hs x]
  refine n_then (wpAny_pure ?_)
  refine n_then (wpAny_standAt ?_)
  refine n_then (wpAny_holding (wpAny_mono h₁ (fun it s₂ h₂ => ?_) fun _ _ e => e))
  unfold runOwn
  exact n_onRaise (n_run rfl (codeN_mono h₂ (fun r s' x => by cases r <;> first | exact x | exact x.elim)))
end

section
variable {prog : Program} {w : World} {A : Around} {s : Shared} {env : Env} {h₀ : Heap} {target : PySem.Expr} {body : List Stmt} {Q : Flow → Shared → Prop}
/-- what is left of a loop: the values to come, each a turn -/
noncomputable def ARest (prog : Program) (w : World) (A : Around) (h₀ : Heap) (env : Env) (target : PySem.Expr) (body : List Stmt) (Q : Flow → Shared → Prop) (s : Shared) (I : Addr) (cls : String) (P : List (Addr × Obj) → Prop) : List Value → (Str → Option Value) → List (Addr × Obj) → Prop
  | [], m, news => ∀ h tk, Fr h₀ env.locals h m → News h₀ env.locals h news → Q .next { s with heap := h, toks := tk }
  | v :: r, m, news => ∀ (it : Obj) h tk, it.cls = .type cls → Fr h₀ env.locals h m → News h₀ env.locals h ((I, it) :: news) →
      wpAny (model prog w) A (assign target env v) (fun _ s₂ => wpAny (model prog w) A (execs body env) (UnrPost h₀ env.locals { s with heap := h, toks := tk } I it (fun m' n' => P n' ∧ ARest prog w A h₀ env target body Q s I cls P r m' n') Q) (fun _ _ => False) s₂) (fun _ _ => False) { s with heap := h, toks := tk }
theorem codeA_forL {I ax : Addr} {axo : Obj} {items : Array Value} {n : Nat} {cls : String} {St : Nat → Heap → Prop} {P : List (Addr × Obj) → Prop} {R : Result → Shared → Prop}
    (W : Walks prog w A I [I, ax] [I] n (fun i v => items[i]? = some v) St) (hcls : ["enumerate", "zip", "dict_itemiterator", "dict_reverseitemiterator", "odict_iterator", "itertools.zip_longest", "itertools.pairwise"].contains cls = false)
    (hn : n = items.size) (hI : ∀ i h, St i h → ∃ o, h.get? I = some o ∧ o.cls = .type cls) (hne : ax ≠ I) (hnew : h₀.get? I = none) (hL : env.locals ≠ I) (hax : ∀ h m news, Fr h₀ env.locals h m → News h₀ env.locals h news → P news → h.get? ax = some axo)
    (hR : ∀ f s', Q f s' → R (.ok f) s') :
    ∀ (k i : Nat), k = n - i → i ≤ n → ∀ (m : Str → Option Value) (news : List (Addr × Obj)) (h : Heap) (tk : Nat), St i h → Fr h₀ env.locals h m → News h₀ env.locals h news → (∀ p ∈ news, p.1 ≠ I) → P news →
      ARest prog w A h₀ env target body Q s I cls P (items.toList.drop i) m news → codeAny (model prog w) A (.forLoop target (.ref I) body [] env) R { s with heap := h, toks := tk } := by
  intro k
  induction k with
  | zero =>
    intro i hk hi m news h tk st F N hoff hP hrest
    have hin : i = n := by omega
    subst hin
    refine codeAny_of_tree ?_
    show wpAny _ A ((forTurn target (.ref I) body [] env).onRaise (fun x => do noteFrame x env; theTreesLotGoes x)) _ _ _
    refine wpAny_onRaise ?_
    simp only [forTurn]
    refine wpAny_bind (wpAny_standAt (wpAny_bind (id (wpAny_onRaise (W.done _ _ _ st fun h₁ tk₁ hk₁ => ?_)))))
    refine wpAny_pure ?_
    refine And.intro rfl (codeAny_of_tree ?_)
    show wpAny _ A (do return Fin.done (← (execs [] env).onRaise (fun x => do noteFrame x env; theTreesLotGoes x))) _ _ _
    refine wpAny_bind (wpAny_onRaise (wpAny_pure (wpAny_pure (hR _ _ ?_))))
    have z : items.toList.drop i = [] := List.drop_of_length_le (by rw [Array.length_toList, hn]; exact Nat.le_refl _)
    rw [z] at hrest
    have keepI : ∀ b o, h₀.get? b = some o → b ≠ I := fun b o e hb => by rw [hb, hnew] at e; cases e
    exact hrest h₁ tk₁ ⟨F.ns.at' fun o e => hk₁ _ o (by simp [hL]) e, fun b o e => hk₁ b o (by simp [keepI b o e]) (F.keep b o e), F.above⟩
      fun p hp => ⟨hk₁ _ _ (by simp [hoff p hp]) (N p hp).1, (N p hp).2⟩
  | succ k ih =>
    intro i hk hi m news h tk st F N hoff hP hrest
    have hlt : i < n := by omega
    have keepI : ∀ b o, h₀.get? b = some o → b ≠ I := fun b o e hb => by rw [hb, hnew] at e; cases e
    refine codeAny_of_tree ?_
    show wpAny _ A ((forTurn target (.ref I) body [] env).onRaise (fun x => do noteFrame x env; theTreesLotGoes x)) _ _ _
    refine wpAny_onRaise ?_
    simp only [forTurn]
    refine wpAny_bind (wpAny_standAt (wpAny_bind (id (wpAny_onRaise (W.item i _ _ _ hlt st fun v h₁ tk₁ hv st₁ hk₁ => ?_)))))
    have F₁ : Fr h₀ env.locals h₁ m := ⟨F.ns.at' fun o e => hk₁ _ o (by simp [hL]) e, fun b o e => hk₁ b o (by simp [keepI b o e]) (F.keep b o e), F.above⟩
    have N₁ : News h₀ env.locals h₁ news := fun p hp => ⟨hk₁ _ _ (by simp [hoff p hp]) (N p hp).1, (N p hp).2⟩
    obtain ⟨it, hit, hic⟩ := hI _ _ st₁
    have NI : News h₀ env.locals h₁ ((I, it) :: news) := fun p hp => by
      rcases List.mem_cons.mp hp with rfl | hp
      · exact ⟨hit, fun e => hL e.symm, hnew⟩
      · exact N₁ p hp
    have hdrop : items.toList.drop i = v :: items.toList.drop (i + 1) := by
      have hl : i < items.toList.length := by rw [Array.length_toList]; omega
      have hv' : items.toList[i]? = some v := by simpa using hv
      rw [List.drop_eq_getElem_cons hl]
      congr 1
      exact Option.some.inj ((List.getElem?_eq_getElem hl).symm.trans hv')
    rw [hdrop] at hrest
    have turn := hrest it h₁ tk₁ hic F₁ NI
    refine wpAny_bind (go_plain hit hic hcls ?_)
    refine wpAny_bind (wpAny_mono turn (fun _ s₂ t₂ => wpAny_bind (wpAny_mono t₂ (fun f s₃ t₃ => ?_) fun _ _ e => e.elim)) fun _ _ e => e.elim)
    have fin : UnrEnd h₀ env.locals { s with heap := h₁, toks := tk₁ } I it (fun m' n' => P n' ∧ ARest prog w A h₀ env target body Q s I cls P (items.toList.drop (i + 1)) m' n') s₃ →
        codeAny (model prog w) A (.forLoop target (.ref I) body [] env) R s₃ := by
      rintro ⟨h₃, tk₃, m₃, news₃, rfl, F₃, N₃, off₃, P₃, r₃⟩
      refine ih (i + 1) (by omega) (by omega) m₃ news₃ h₃ tk₃ (W.frame _ _ _ st₁ fun b hb o e => ?_) F₃ (fun p hp => N₃ p (List.mem_cons_of_mem _ hp)) off₃ P₃ r₃
      rcases List.mem_cons.mp hb with rfl | hb
      · rw [hit] at e
        cases e
        exact (N₃ _ (List.mem_cons_self ..)).1
      · obtain rfl := List.mem_singleton.mp hb
        rw [hax _ _ _ F₁ N₁ hP] at e
        cases e
        exact hax _ _ _ F₃ (fun p hp => N₃ p (List.mem_cons_of_mem _ hp)) P₃
    cases f with
    | next => exact wpAny_pure (And.intro rfl (fin t₃))
    | cont => exact wpAny_pure (And.intro rfl (fin t₃))
    | brk => exact wpAny_pure (hR _ _ t₃)
    | ret v => exact wpAny_pure (hR _ _ t₃)
theorem a_tupL {t : Addr} {items : Array Value} {m : Str → Option Value} {news : List (Addr × Obj)} (hh : A.handled = none) (ht : IsTup h₀ t items) (F : Fr h₀ env.locals s.heap m) (N : News h₀ env.locals s.heap news)
    (rest : ∀ I : Addr, (∀ p ∈ news, p.1 < I) → ARest prog w A h₀ env target body Q s I "tuple_iterator" (fun _ => True) items.toList m news) :
    wpAny (model prog w) A (pyIter (.ref t)) (fun it s₂ => codeAny (model prog w) A (.forLoop target it body [] env) (fun r s' => match r with | .ok f => Q f s' | .error _ => False) s₂) (fun _ _ => False) s := by
  obtain ⟨o, ho, hoc, hod⟩ := ht
  have hos := F.keep _ _ ho
  have hts : s.heap.IsTuple t items := ⟨o, hos, hoc, hod⟩
  refine wpAny_pyIter_tuple hts ?_
  have hlt : t < s.heap.objs.size := Heap.lt_size hos
  have W := Walks.tuple (prog := prog) (w := w) (A := A) hh s.heap.objs.size t (Nat.ne_of_lt hlt) items
  exact codeA_forL (axo := o) (cls := "tuple_iterator") W (by decide) rfl (fun i h st => by obtain ⟨⟨o, a, b, c⟩, _⟩ := st; exact ⟨o, a, b⟩) (Nat.ne_of_lt hlt) (next_is_new F) (Nat.ne_of_lt F.ns.lt) (fun h m news F' N' _ => F'.keep _ _ ho) (fun f s' q => q) _ 0 rfl (Nat.zero_le _) m news _ _
    ⟨⟨_, Heap.get?_push_size _ rfl, rfl, rfl⟩, hts.at fun o e => Heap.get?_push_of_some _ e⟩ (F.push _) (fun p hp => ⟨Heap.get?_push_of_some _ (N p hp).1, (N p hp).2⟩) (fun p hp => Nat.ne_of_lt (Heap.lt_size (N p hp).1)) trivial
    (by rw [List.drop_zero]; exact rest _ fun p hp => Heap.lt_size (N p hp).1)
theorem a_listL {t : Addr} {o : Obj} {items : Array Value} {k : Nat} {m : Str → Option Value} {news : List (Addr × Obj)} (hh : A.handled = none) (F : Fr h₀ env.locals s.heap m) (N : News h₀ env.locals s.heap news) (hm : (t, o) ∈ news) (hc : o.cls = .type "list") (hd : o.data = .seq items k)
    (rest : ∀ I : Addr, (∀ p ∈ news, p.1 < I) → ARest prog w A h₀ env target body Q s I "list_iterator" (fun n' => (t, o) ∈ n') items.toList m news) :
    wpAny (model prog w) A (pyIter (.ref t)) (fun it s₂ => codeAny (model prog w) A (.forLoop target it body [] env) (fun r s' => match r with | .ok f => Q f s' | .error _ => False) s₂) (fun _ _ => False) s := by
  have hos := (N _ hm).1
  have hts : s.heap.IsList t items := ⟨o, hos, hc, k, hd⟩
  refine wpAny_pyIter_list hts ?_
  have hlt : t < s.heap.objs.size := Heap.lt_size hos
  have W := Walks.list (prog := prog) (w := w) (A := A) hh s.heap.objs.size t (Nat.ne_of_lt hlt) items
  exact codeA_forL (axo := o) (cls := "list_iterator") W (by decide) rfl (fun i h st => by obtain ⟨⟨o, a, b, c⟩, _⟩ := st; exact ⟨o, a, b⟩) (Nat.ne_of_lt hlt) (next_is_new F) (Nat.ne_of_lt F.ns.lt) (fun h m news F' N' hp => (N' _ hp).1) (fun f s' q => q) _ 0 rfl (Nat.zero_le _) m news _ _
    ⟨⟨_, Heap.get?_push_size _ rfl, rfl, rfl⟩, hts.at fun o e => Heap.get?_push_of_some _ e⟩ (F.push _) (fun p hp => ⟨Heap.get?_push_of_some _ (N p hp).1, (N p hp).2⟩) (fun p hp => Nat.ne_of_lt (Heap.lt_size (N p hp).1)) hm
    (by rw [List.drop_zero]; exact rest _ fun p hp => Heap.lt_size (N p hp).1)
theorem ARest_ind {α : Type} {I : Addr} {cls : String} {P : List (Addr × Obj) → Prop} (f : α → Value) (Inv : List α → (Str → Option Value) → List (Addr × Obj) → Prop)
    (done : ∀ m news, Inv [] m news → ∀ h tk, Fr h₀ env.locals h m → News h₀ env.locals h news → Q .next { s with heap := h, toks := tk })
    (turn : ∀ a r m news, Inv (a :: r) m news → ∀ (it : Obj) h tk, it.cls = .type cls → Fr h₀ env.locals h m → News h₀ env.locals h ((I, it) :: news) →
      wpAny (model prog w) A (assign target env (f a)) (fun _ s₂ => wpAny (model prog w) A (execs body env) (UnrPost h₀ env.locals { s with heap := h, toks := tk } I it (fun m' n' => P n' ∧ Inv r m' n') Q) (fun _ _ => False) s₂) (fun _ _ => False) { s with heap := h, toks := tk }) :
    ∀ (l : List α) (m : Str → Option Value) (news : List (Addr × Obj)), Inv l m news → ARest prog w A h₀ env target body Q s I cls P (l.map f) m news := by
  intro l
  induction l with
  | nil => exact fun m news hi => done m news hi
  | cons a r ih =>
    intro m news hi it h tk hc F N
    refine wpAny_mono (turn a r m news hi it h tk hc F N) (fun _ s₂ h₂ => wpAny_mono h₂ (fun fl s₃ h₃ => ?_) fun _ _ e => e) fun _ _ e => e
    have fin : UnrEnd h₀ env.locals { s with heap := h, toks := tk } I it (fun m' n' => P n' ∧ Inv r m' n') s₃ → UnrEnd h₀ env.locals { s with heap := h, toks := tk } I it (fun m' n' => P n' ∧ ARest prog w A h₀ env target body Q s I cls P (r.map f) m' n') s₃ := by
      rintro ⟨h', tk', m', news', e, F', N', off, hp, hi'⟩
      exact ⟨h', tk', m', news', e, F', N', off, hp, ih m' news' hi'⟩
    cases fl with
    | next => exact fin h₃
    | cont => exact fin h₃
    | brk => exact h₃
    | ret v => exact h₃
theorem a_For {target iter : PySem.Expr} {pos : Pos}
    (h : wpAny (model prog w) A (eval iter env) (fun x s₁ => wpAny (model prog w) A (pyIter x) (fun it s₂ => codeAny (model prog w) A (.forLoop target it body [] env) (fun r s' => match r with | .ok f => Q f s' | .error _ => False) s₂) (fun _ _ => False) s₁) (fun _ _ => False) s)
    (hs : ∀ x, foldedSetIterable iter env x = pure x := by intro _; rfl) : wpAny (model prog w) A (exec (.For target iter body [] pos) env) Q (fun _ _ => False) s := by
  rw [exec_For]
  refine wpAny_bind (wpAny_standAt (wpAny_bind (wpAny_mono h (fun x s₁ h₁ => ?_) fun _ _ e => e)))
  rw [hs x]
  refine wpAny_bind (wpAny_pure ?_)
  refine wpAny_bind (wpAny_standAt ?_)
  refine wpAny_bind (wpAny_holding (wpAny_mono h₁ (fun it s₂ h₂ => ?_) fun _ _ e => e))
  unfold runOwn
  exact wpAny_onRaise (wpAny_run (codeAny_mono h₂ (fun r s' x => by cases r <;> first | exact x | exact x.elim)))
end

end PartNF

theorem flush6 {M : Model} {A : Around} {env : Env} {Q : Flow → Shared → Prop} {E : Value → Shared → Prop} {s : Shared} (h : wpAny M A (execs [] env) Q E s) : wpAny M A (execs [] env) Q E s := by
  w_top off
  first | (walk1; fail) | exact h

section PartNS
open PyProof.V
theorem picked_mid {d : Array UInt8} {pre mid post : List UInt8} (h : d.toList = pre ++ (mid ++ post)) {i j : Int} (hi : i = pre.length) (hj : j = pre.length + mid.length) :
    KBy.picked d (some i) (some j) = mid.toArray := by
  have hs : d.size = pre.length + (mid.length + post.length) := by rw [← Array.length_toList, h]; simp
  have hj' : j = ((pre.length + mid.length : Nat) : Int) := by omega
  rw [KBc.picked_eq, h, hi, hj']
  simp only [Option.elim, clipAt_nat]
  rw [Nat.min_eq_left (by omega), Nat.min_eq_left (by omega), Nat.add_sub_cancel_left, List.drop_left, List.take_left]
/-- in the octets b the one at place i is c -/
noncomputable def At (b : Array UInt8) (i : Int) (c : UInt8) : Prop := ∃ pre post, b.toList = pre ++ (c :: post) ∧ i = (pre.length : Int) ∧ b.size < 1000
/-- the octets of b from i to j are mid -/
noncomputable def Mid (b : Array UInt8) (i j : Int) (mid : List UInt8) : Prop := ∃ pre post, b.toList = pre ++ (mid ++ post) ∧ i = (pre.length : Int) ∧ j = pre.length + mid.length ∧ b.size < 1000
theorem At.lt {b : Array UInt8} {i : Int} {c : UInt8} (h : At b i c) : i < b.size := by
  obtain ⟨pre, post, hd, hi, _⟩ := h
  have : b.size = pre.length + (post.length + 1) := by rw [← Array.length_toList, hd]; simp
  omega
theorem At.size {b : Array UInt8} {i : Int} {c : UInt8} (h : At b i c) : b.size < 1000 := let ⟨_, _, _, _, hz⟩ := h; hz
theorem At.mid {b : Array UInt8} {i : Int} {c : UInt8} (h : At b i c) : Mid b i (i + 1) [c] := by
  obtain ⟨pre, post, hd, hi, hz⟩ := h
  exact ⟨pre, post, hd, hi, by simp [hi], hz⟩
section
variable {prog : Program} {w : World} {A : Around} {E : Value → Shared → Prop} {s : Shared} {value slice : PySem.Expr} {b : Array UInt8} {t : Tok} {h₀ : Heap} {L : Addr} {m : PySem.Str → Option Value} {news : List (Addr × Obj)} {Q : Value → Shared → Prop} {pre mid post : List UInt8} {c : UInt8} {i j : Int} {ti tj : Tok}
theorem bslice_K (hF : Fr h₀ L s.heap m) (hN : News h₀ L s.heap news) (hd : b.toList = pre ++ (mid ++ post)) (hi : i = pre.length) (hj : j = pre.length + mid.length) (hz : b.size < 1000)
    (h : ∀ h' t' k, Fr h₀ L h' m → News h₀ L h' news → KBw.bInts mid.toArray = mid.map (fun x => (x.toNat : Int)) → Q (.bytes mid.toArray t') { s with heap := h', toks := k })
    (hs : subscripted slice false (.bytes b t) (.ref s.heap.objs.size) = operate [.ref s.heap.objs.size, .bytes b t] (getItem (.bytes b t) (.ref s.heap.objs.size)) := by with_unfolding_all rfl)
    (ht : ∀ r, letTemporaryGo value (.bytes b t) r = pure () := by intro _; with_unfolding_all rfl) :
    wpAny (model prog w) A (subscriptTail value slice (.bytes b t) (.ref s.heap.objs.size)) Q E { s with heap := s.heap.push { cls := .type "slice", data := .fields #[.int i ti, .int j tj, .none] } } := by
  refine KBc.slice_K (ks := KBw.bInts b) hF hN rfl (.int i ti) (.int j tj) (by rw [KBw.ints_length]; omega) (fun h' t' k F' N' _ => ?_) hs ht
  rw [picked_mid hd hi hj]
  exact h h' t' k F' N' (by simp [KBw.bInts])
theorem bitem_K {ui : Tok} (hd : b.toList = pre ++ (c :: post)) (hi : i = pre.length) (hz : b.size < 1000)
    (h : ∀ t' k, Q (.int (c.toNat : Int) t') { s with toks := k })
    (hs : subscripted slice false (.bytes b t) (.int i ui) = operate [.bytes b t, .int i ui] (getItem (.bytes b t) (.int i ui)) := by with_unfolding_all rfl)
    (ht : ∀ r, letTemporaryGo value (.bytes b t) r = pure () := by intro _; with_unfolding_all rfl) : wpAny (model prog w) A (subscriptTail value slice (.bytes b t) (.int i ui)) Q E s := by
  have hsz : b.size = pre.length + (post.length + 1) := by rw [← Array.length_toList, hd]; simp
  have g : wpAny (model prog w) A (getItem (.bytes b t) (.int i ui)) Q E s := by
    refine getItem_gives (typeIs_bytes s _ t) (by decide) FB.slot_bytes_getitem FB.entry_bytes_getitem (FB.args_bytes_getitem_2 _ _) (gives_bytes_getitem _ i t ui c ?_ ?_) (h _ _)
    · simp only [Builtin.Bytes.fitsIndex, Bool.and_eq_true, decide_eq_true_eq]; omega
    · have hl : pre.length < b.size := by omega
      have e : seqIndex? i b.size = some pre.length := by
        subst hi
        have h3 : (pre.length : Int) < b.size := by omega
        have h1 : ¬ ((pre.length : Int) < 0) := by omega
        have h2 : 0 ≤ (pre.length : Int) := by omega
        simp [seqIndex?, h1, h2, h3, hl]
      rw [e]
      show b[pre.length]? = some c
      rw [← Array.getElem?_toList, hd]
      simp
  exact tail_of_ItemOn ⟨"bytes", _, FB.slot_bytes_getitem.lookup, typeIs_bytes _ _ _, g⟩ hs ht
theorem bitemA_K {ui : Tok} (hA : At b i c)
    (h : ∀ t' k, Q (.int (c.toNat : Int) t') { s with toks := k })
    (hs : subscripted slice false (.bytes b t) (.int i ui) = operate [.bytes b t, .int i ui] (getItem (.bytes b t) (.int i ui)) := by with_unfolding_all rfl)
    (ht : ∀ r, letTemporaryGo value (.bytes b t) r = pure () := by intro _; with_unfolding_all rfl) : wpAny (model prog w) A (subscriptTail value slice (.bytes b t) (.int i ui)) Q E s := by
  obtain ⟨pre, post, hd, hi, hz⟩ := hA
  exact bitem_K hd hi hz h hs ht
theorem bsliceM_K (hF : Fr h₀ L s.heap m) (hN : News h₀ L s.heap news) (hM : Mid b i j mid)
    (h : ∀ h' t' k, Fr h₀ L h' m → News h₀ L h' news → KBw.bInts mid.toArray = mid.map (fun x => (x.toNat : Int)) → Q (.bytes mid.toArray t') { s with heap := h', toks := k })
    (hs : subscripted slice false (.bytes b t) (.ref s.heap.objs.size) = operate [.ref s.heap.objs.size, .bytes b t] (getItem (.bytes b t) (.ref s.heap.objs.size)) := by with_unfolding_all rfl)
    (ht : ∀ r, letTemporaryGo value (.bytes b t) r = pure () := by intro _; with_unfolding_all rfl) :
    wpAny (model prog w) A (subscriptTail value slice (.bytes b t) (.ref s.heap.objs.size)) Q E { s with heap := s.heap.push { cls := .type "slice", data := .fields #[.int i ti, .int j tj, .none] } } := by
  obtain ⟨pre, post, hd, hi, hj, hz⟩ := hM
  exact bslice_K hF hN hd hi hj hz h hs ht
end

end PartNS

theorem flush7 {M : Model} {A : Around} {env : Env} {Q : Flow → Shared → Prop} {E : Value → Shared → Prop} {s : Shared} (h : wpAny M A (execs [] env) Q E s) : wpAny M A (execs [] env) Q E s := by
  w_top off
  first | (walk1; fail) | exact h

section PartNK
open PyProof.V PyProof.Rows.LCg PyProof.Rows.LCt
section
variable {prog : Program} {w : World} {A : Around} {E : Value → Shared → Prop} {s : Shared} {h₀ : Heap} {L : Addr} {m : PySem.Str → Option Value} {env : Env}
/-- a tuple of the ledger -/
noncomputable def TupAtN (ax : Addr) (o : Obj) (its : Array Value) (nw : List (Addr × Obj)) : Prop := (ax, o) ∈ nw ∧ o.cls = .type "tuple" ∧ ∃ k, o.data = .seq its k
theorem TupAtN.tup {ax : Addr} {o : Obj} {its : Array Value} {nw : List (Addr × Obj)} {h : Heap} (x : TupAtN ax o its nw) (N : News h₀ L h nw) : h.IsTuple ax its := by
  obtain ⟨hm, hc, k, hd⟩ := x
  exact ⟨o, (N _ hm).1, hc, k, hd⟩
noncomputable def TupSrc (prog : Program) (w : World) (A : Around) (h₀ : Heap) (L : Addr) (m : PySem.Str → Option Value) (env : Env) (elt : PySem.Expr) (x : PySem.Str) (scope : Scope) (cl : List (PySem.Str × Addr)) (Fin : Shared → List Value → List (Addr × Obj) → Prop) (xv : Value) (s₁ : Shared) : Prop :=
  ∃ ax o its news, xv = .ref ax ∧ Fr h₀ L s₁.heap m ∧ News h₀ L s₁.heap news ∧ TupAtN ax o its news ∧ its.size ≤ sizeLine ∧
      ∀ g, CompRest prog w A h₀ L m env elt x scope cl { s₁ with heap := g } (TupAtN ax o its) (fun i v => its[i]? = some v) (Fin { s₁ with heap := g }) its.size 0 [] news
theorem TupSrc.intro {elt : PySem.Expr} {x : PySem.Str} {scope : Scope} {cl : List (PySem.Str × Addr)} {Fin : Shared → List Value → List (Addr × Obj) → Prop} {ax : Addr} {its : Array Value} {k : Nat} {news : List (Addr × Obj)} {s₁ : Shared}
    (F : Fr h₀ L s₁.heap m) (N : News h₀ L s₁.heap news) (hm : (ax, { cls := .type "tuple", data := .seq its k }) ∈ news) (hz : its.size ≤ sizeLine)
    (h : ∀ g, CompRest prog w A h₀ L m env elt x scope cl { s₁ with heap := g } (TupAtN ax { cls := .type "tuple", data := .seq its k } its) (fun i v => its[i]? = some v) (Fin { s₁ with heap := g }) its.size 0 [] news) :
    TupSrc prog w A h₀ L m env elt x scope cl Fin (.ref ax) s₁ := ⟨ax, _, its, news, rfl, F, N, ⟨hm, rfl, _, rfl⟩, hz, h⟩
theorem asg_comp_tup {elt iter : PySem.Expr} {x y : PySem.Str} {px py : Pos} {scope : Scope} {cl : List (PySem.Str × Addr)} {pos spos : Pos} {Q : Flow → Shared → Prop} (_F : Fr h₀ L s.heap m) (hLe : env.locals = L)
    (hsw : swapsWith (.ListComp elt [⟨.Name x px, iter, [], 0⟩] scope pos) (some (.Name y py)) spos.line env = pure true)
    (hclos : closureFor scope env = pure cl) (hcell : ∀ z ∈ scope.names, z.2 ≠ .cell) (hkind : scope.kind = .function)
    (hnames : ∀ z ∈ scope.names, z.2 = .local → scope.names.lookup z.1 = some .local) (hx : scope.names.lookup x = some .local)
    (hy : env.kindOf y = some .local) (hp : (env.scope.kind == .class || (env.scope.kind == .module && env.locals != env.globals)) = false)
    (hs : ∀ x, foldedSetIterable iter env x = pure x) (hh : A.handled = none)
    (h : wpAny (model prog w) A (eval iter env) (TupSrc prog w A h₀ L m env elt x scope cl (fun s₂ => FinA h₀ L m s₂ y Q)) E s) :
    wpAny (model prog w) A (exec (.Assign [.Name y py] (.ListComp elt [⟨.Name x px, iter, [], 0⟩] scope pos) spos) env) Q E s := by
  subst hLe
  rw [exec_Assign_Name_used _ _ _ _ hsw]
  refine wpAny_bind (wpAny_standAt (wpAny_bind ?_))
  show wpAny _ A (comprehension (.ListComp elt [⟨.Name x px, iter, [], 0⟩] scope pos) scope env _ (newList []) false (eval iter env) (some (assign (.Name y py) env)) >>= _) _ _ s
  refine wpAny_bind (wpAny_mono (wpAny_comprehension_free (use := some (assign (.Name y py) env)) (Q := fun _ s' => Q .next s') rfl hs hclos hkind hnames
    (wpAny_mono h (fun xv s₁ h₁ => ?_) fun _ _ e => e)) (fun _ s' hq => wpAny_pure (wpAny_pure hq)) fun _ _ e => e)
  obtain ⟨ax, o, its, news, rfl, F, N, S, hsz, R⟩ := h₁
  have hl := S.tup N
  have hlt : ax < s₁.heap.objs.size := Heap.lt_size (N _ S.1).1
  refine wpAny_pyIter_tuple hl ?_
  have up : ∀ b o, s₁.heap.get? b = some o → (s₁.heap.push { cls := .type "tuple_iterator", data := .fields #[.ref ax, .int 0 0] }).get? b = some o := fun b o e => Heap.get?_push_of_some _ e
  refine block_U (Walks.tuple hh s₁.heap.objs.size ax (Nat.ne_of_lt hlt) its) hsz (fun i h st => by obtain ⟨o, e, _⟩ := st.1; exact ⟨o, e⟩)
    (fun i h h' o' nw st e e' k N' S' => ⟨by obtain ⟨o2, q, r⟩ := st.1; rw [e] at q; cases q; exact ⟨o', e', r⟩, S'.tup N'⟩) hcell hkind hx ⟨⟨_, Heap.get?_push_size _ rfl, rfl, rfl⟩, hl.at fun o e => up _ _ e⟩ (fun b hb => ?_)
    (F.keeps up) (N.grown up) (Nat.ne_of_lt F.ns.lt) (next_is_new F) (fun p hp => Nat.ne_of_lt (Heap.lt_size (N p hp).1)) S (R _) ?_
  · show b < (s₁.heap.push _).objs.size
    rw [Heap.size_push]
    rcases List.mem_cons.mp hb with rfl | hb
    · exact Nat.lt_succ_self _
    · rw [List.mem_singleton.mp hb]; exact Nat.lt_succ_of_lt hlt
  · intro D C h' tk m' ys news' F' N' o1 hn hC₀ hD₀ hCL hDL hCD offC fin
    show wpAny _ A (assign (.Name y py) env (.ref D)) _ _ _
    refine wpAny_assign_Name (wpAny_storeName_local hy F'.ns (fun h₂ hn₂ hs₂ => ?_) hp)
    have hL₀ : h₀.get? env.locals = none := Heap.get?_none_of_le F'.above
    have F₂ : Fr h₀ env.locals h₂ (fun z => if z = y then some (.ref D) else m z) := ⟨hn₂, fun b o e => hs₂.extBut b o (fun q => by rw [q, hL₀] at e; cases e) (F'.keep b o e), F'.above⟩
    refine ⟨m', hn.sameBut hs₂ hCL, fun h'' hs'' => fin D h'' _ (F₂.change hs'' hCL hC₀) (fun p hp => ?_) o1⟩
    have z : h₂.get? p.1 = some p.2 := hs₂.extBut _ _ (N' p hp).2.1 (N' p hp).1
    refine ⟨hs''.extBut _ _ ?_ z, (N' p hp).2⟩
    rcases List.mem_cons.mp hp with rfl | hp
    · exact Ne.symm hCD
    · exact offC p hp
end

end PartNK

theorem flush8 {M : Model} {A : Around} {env : Env} {Q : Flow → Shared → Prop} {E : Value → Shared → Prop} {s : Shared} (h : wpAny M A (execs [] env) Q E s) : wpAny M A (execs [] env) Q E s := by
  w_top off
  first | (walk1; fail) | exact h

section PartNE0
/-- told or not told: a value that is bytes or None -/
noncomputable def ov (x : Option (List UInt8)) (t : Tok) : Option Value := x.map fun v => .bytes v.toArray t
theorem sub_bn : isSubtype (.type "bytes") (.type "NoneType") = pure false := by rw [isSubtype_type]; kernel_rfl
theorem sub_nb : isSubtype (.type "NoneType") (.type "bytes") = pure false := by rw [isSubtype_type]; kernel_rfl
theorem slot_b_eqr : Slot "bytes" (cmpInfo .Eq).2.2 "bytes.__eq__" := PySem.W.FB.slot_bytes_eq
theorem slot_b_ner : Slot "bytes" (cmpInfo .NotEq).2.2 "bytes.__ne__" := PySem.W.FB.slot_bytes_ne
theorem n_eq_b (b : Array UInt8) (u : Tok) : Gives (Builtin.«NoneType.__eq__» ⟨[.none, .bytes b u], []⟩) (.val (Value.notImplemented)) :=
  .of_wp fun M A E s Q h => by obtain ⟨hp, g, d, tk, os⟩ := s; wp_walk; exact ⟨_, rfl, h⟩
theorem n_ne_b (b : Array UInt8) (u : Tok) : Gives (Builtin.«NoneType.__ne__» ⟨[.none, .bytes b u], []⟩) (.val (Value.notImplemented)) :=
  .of_wp fun M A E s Q h => by obtain ⟨hp, g, d, tk, os⟩ := s; wp_walk; exact ⟨_, rfl, h⟩
theorem b_eq_n (b : Array UInt8) (u : Tok) : Gives (Builtin.«bytes.__eq__» ⟨[.bytes b u, .none], []⟩) (.val (Value.notImplemented)) :=
  .of_wp fun M A E s Q h => by have z := sub_nb; obtain ⟨hp, g, d, tk, os⟩ := s; wp_walk; (try (rw [z]; wp_walk)); exact ⟨_, rfl, h⟩
theorem b_ne_n (b : Array UInt8) (u : Tok) : Gives (Builtin.«bytes.__ne__» ⟨[.bytes b u, .none], []⟩) (.val (Value.notImplemented)) :=
  .of_wp fun M A E s Q h => by have z := sub_nb; obtain ⟨hp, g, d, tk, os⟩ := s; wp_walk; (try (rw [z]; wp_walk)); exact ⟨_, rfl, h⟩
section
variable {prog : Program} {w : World} {A : Around} {E : Value → Shared → Prop} {s : Shared} {Q : Value → Shared → Prop} {b c : Array UInt8} {t u : Tok}
theorem ty_b (s' : Shared) (b : Array UInt8) (u : Tok) : s'.TypeIs (.bytes b u) "bytes" := rfl
theorem eq_none_bytes (h : Q (.bool false) s) : wpAny (model prog w) A (compareOp .Eq .none (.bytes b u)) Q E s := by
  show wpAny _ A (richCompare .Eq _ _) Q E s
  exact EqNone.wpAny_richCompare_eq_decline (k := false) (fun _ => rfl) (fun s' => ty_b s' b u) (by decide) sub_bn PySem.F.slot_NoneType_eq slot_b_eqr rfl
    (call_gives PySem.F.slot_NoneType_eq rfl PySem.F.entry_NoneType_eq (PySem.F.args_NoneType_eq_2 _ _) (n_eq_b b u)
      ⟨rfl, call_gives slot_b_eqr (ty_b s b u) PySem.W.FB.entry_bytes_eq (PySem.W.FB.args_bytes_eq_2 _ _) (b_eq_n b u) ⟨rfl, h⟩⟩)
theorem eq_bytes_none (h : Q (.bool false) s) : wpAny (model prog w) A (compareOp .Eq (.bytes b u) .none) Q E s := by
  show wpAny _ A (richCompare .Eq _ _) Q E s
  exact EqNone.wpAny_richCompare_eq_decline (k := false) (fun s' => ty_b s' b u) (fun _ => rfl) (by decide) sub_nb PySem.W.FB.slot_bytes_eq PySem.F.slot_NoneType_eq_refl rfl
    (call_gives PySem.W.FB.slot_bytes_eq (ty_b s b u) PySem.W.FB.entry_bytes_eq (PySem.W.FB.args_bytes_eq_2 _ _) (b_eq_n b u)
      ⟨rfl, call_gives PySem.F.slot_NoneType_eq_refl rfl PySem.F.entry_NoneType_eq (PySem.F.args_NoneType_eq_2 _ _) (n_eq_b b u) ⟨rfl, h⟩⟩)
theorem ne_none_bytes (h : Q (.bool true) s) : wpAny (model prog w) A (compareOp .NotEq .none (.bytes b u)) Q E s := by
  show wpAny _ A (richCompare .NotEq _ _) Q E s
  exact EqNone.wpAny_richCompare_ne_decline (k := false) (fun _ => rfl) (fun s' => ty_b s' b u) (by decide) sub_bn PySem.F.slot_NoneType_ne slot_b_ner rfl
    (call_gives PySem.F.slot_NoneType_ne rfl PySem.F.entry_NoneType_ne (PySem.F.args_NoneType_ne_2 _ _) (n_ne_b b u)
      ⟨rfl, call_gives slot_b_ner (ty_b s b u) PySem.W.FB.entry_bytes_ne (PySem.W.FB.args_bytes_ne_2 _ _) (b_ne_n b u) ⟨rfl, h⟩⟩)
theorem ne_bytes_none (h : Q (.bool true) s) : wpAny (model prog w) A (compareOp .NotEq (.bytes b u) .none) Q E s := by
  show wpAny _ A (richCompare .NotEq _ _) Q E s
  exact EqNone.wpAny_richCompare_ne_decline (k := false) (fun s' => ty_b s' b u) (fun _ => rfl) (by decide) sub_nb PySem.W.FB.slot_bytes_ne PySem.F.slot_NoneType_ne_refl rfl
    (call_gives PySem.W.FB.slot_bytes_ne (ty_b s b u) PySem.W.FB.entry_bytes_ne (PySem.W.FB.args_bytes_ne_2 _ _) (b_ne_n b u)
      ⟨rfl, call_gives PySem.F.slot_NoneType_ne_refl rfl PySem.F.entry_NoneType_ne (PySem.F.args_NoneType_ne_2 _ _) (n_ne_b b u) ⟨rfl, h⟩⟩)
theorem eq_ov {x y : Option (List UInt8)} (h : Q (.bool (x == y)) s) : wpAny (model prog w) A (compareOp .Eq ((ov x t).getD .none) ((ov y u).getD .none)) Q E s := by
  cases x with
  | none => cases y with
    | none => exact EqNone.eq_none_none h
    | some y => exact eq_none_bytes h
  | some x => cases y with
    | none => exact eq_bytes_none h
    | some y => exact eq_bytes (by simpa using h)
theorem ne_ov {x y : Option (List UInt8)} (h : Q (.bool (x != y)) s) : wpAny (model prog w) A (compareOp .NotEq ((ov x t).getD .none) ((ov y u).getD .none)) Q E s := by
  cases x with
  | none => cases y with
    | none => exact EqNone.ne_none_none h
    | some y => exact ne_none_bytes h
  | some x => cases y with
    | none => exact ne_bytes_none h
    | some y => exact ne_bytes (by
        show Q (.bool (!(x.toArray.toList == y.toArray.toList))) s
        simpa [bne] using h)
end

end PartNE0

theorem flush9 {M : Model} {A : Around} {env : Env} {Q : Flow → Shared → Prop} {E : Value → Shared → Prop} {s : Shared} (h : wpAny M A (execs [] env) Q E s) : wpAny M A (execs [] env) Q E s := by
  w_top off
  first | (walk1; fail) | exact h

section PartNX0
theorem nsAt_of {K : Frag} {h : Heap} {N : Addr} {mg : Str → Option Value} {n : Str} {v : Value} (X : K.In h) (G : h.Ns N mg) (e : nsIn K N n = some (some v)) : mg n = some v := by
  obtain ⟨o, es, ep, ho, hd, _, hf⟩ := G
  unfold nsIn at e
  split at e
  · rename_i c d es' n' sl q
    have := X _ _ q
    rw [ho] at this
    cases this
    cases hd
    split at e
    · rename_i en he
      cases e
      rw [← hf]
      unfold nsFind findBy
      rw [← Array.find?_toList, he]
      rfl
    · split at e <;> cases e
  · cases e
noncomputable abbrev qErr : Obj := excClassObj (Str.ofString "QuicError") (Str.ofString "QuicError") 38 37 [.type "Exception"] [.type "Exception", .type "BaseException", .type "object"] true [] [] false none none (some (.ref 22)) none (some (.str (Str.ofString "QuicError") 200)) (some (.str (Str.ofString "QuicError") 208)) (some (.bool true)) "Exception.__new__"
theorem q_lk : PySem.Challenge.rw_pf0267_01 = PySem.Challenge.rw_pf0267_01 → ∀ {P : Params}, (hd.heap_1 P).lookup 38 = some qErr := by k_fill; intro _ P; k_is
theorem q_nsok : PySem.Challenge.rw_pf0267_01 = PySem.Challenge.rw_pf0267_01 → ∀ {P : Params}, nsOkIn (hd.heap_1 P) 37 = true := by intro _ P; kernel_rfl
theorem q_ns1 : PySem.Challenge.rw_pf0267_01 = PySem.Challenge.rw_pf0267_01 → ∀ {P : Params}, nsIn (hd.heap_1 P) 37 "__init__" = some (some (.ref 35)) := by k_fill; intro _ P; k_is
theorem q_ns2 : PySem.Challenge.rw_pf0267_01 = PySem.Challenge.rw_pf0267_01 → ∀ {P : Params}, nsIn (hd.heap_1 P) 37 "__setattr__" = some none := by k_fill; intro _ P; k_is
theorem q_ns3 : PySem.Challenge.rw_pf0267_01 = PySem.Challenge.rw_pf0267_01 → ∀ {P : Params}, nsIn (hd.heap_1 P) 37 "code" = some none := by k_fill; intro _ P; k_is
theorem q_ns4 : PySem.Challenge.rw_pf0267_01 = PySem.Challenge.rw_pf0267_01 → ∀ {P : Params}, nsIn (hd.heap_1 P) 37 "frame_type" = some none := by k_fill; intro _ P; k_is
theorem q_ns5 : PySem.Challenge.rw_pf0267_01 = PySem.Challenge.rw_pf0267_01 → ∀ {P : Params}, nsIn (hd.heap_1 P) 37 "text" = some none := by k_fill; intro _ P; k_is
theorem q_ns6 : PySem.Challenge.rw_pf0267_01 = PySem.Challenge.rw_pf0267_01 → ∀ {P : Params}, nsIn (hd.heap_1 P) 37 "__getattribute__" = some none := by k_fill; intro _ P; k_is
theorem q_ns7 : PySem.Challenge.rw_pf0267_01 = PySem.Challenge.rw_pf0267_01 → ∀ {P : Params}, nsIn (hd.heap_1 P) 37 "__getattr__" = some none := by k_fill; intro _ P; k_is
theorem q_sub : PySem.Challenge.rw_pf0267_01 = PySem.Challenge.rw_pf0267_01 → ∀ {P : Params}, subIn (hd.heap_1 P) (.ref 38) (.type "Exception") = some true := by k_fill; intro _ P; k_is
theorem qErr_at {P : Params} {h : Heap} (X : (hd.heap_1 P).In h) : h.get? 38 = some qErr := X _ _ (q_lk rfl)
theorem qErr_ns {P : Params} {h : Heap} (X : (hd.heap_1 P).In h) : h.Ns 37 (h.nsMap 37) := .of_isNs (isNs_of_in X (q_nsok rfl))
theorem qErr_init {P : Params} {h : Heap} (X : (hd.heap_1 P).In h) : h.nsMap 37 "__init__" = some (.ref 35) := nsAt_of X (qErr_ns X) (q_ns1 rfl)
theorem qErr_none {P : Params} {h : Heap} (X : (hd.heap_1 P).In h) {n : Str} (e : nsIn (hd.heap_1 P) 37 n = some none) : h.nsMap 37 n = none := ns_none_of X (qErr_ns X) e
section
variable {prog : Program} {w : World} {A : Around} {E : Value → Shared → Prop} {s : Shared}
theorem init_check {P : Params} {M : Model} (X : (hd.heap_1 P).In s.heap) {e : Addr} {ob : Obj} {v : Value} {Q : Unit → Shared → Prop}
    (he : s.heap.get? e = some ob) (hcls : ob.cls = .ref 38) (h : Q () s) : wpAny M A (checkBuiltinCall "Exception.__init__" ⟨[.ref e, v], []⟩) Q E s := by
  have hC := qErr_at X
  obtain ⟨hp, g, d, t, os⟩ := s
  have hT : Looks M hp (typeOf (.ref e)) (.ref 38) := (Looks.ld he).andThen (by rw [hcls]; exact .now)
  have hI : Looks M hp (isInstance (.ref e) (.type "Exception")) true := hT.andThen (looks_subIn X (q_sub rfl))
  have hN : ∀ {Q : String → Shared → Prop}, (∀ x, Q x ⟨hp, g, d, t, os⟩) → wpAny M A (Bind.printed "*" true ⟨.positional, "*", "Exception", .self, [⟨"args", .varPos, false⟩]⟩ (some (.ref e))) Q E ⟨hp, g, d, t, os⟩ := by
    intro Q hQ
    unfold Bind.printed Bind.receiverType
    rw [if_neg (by decide)]
    refine wpAny_bind (m := (if (Manifest.Receiver.self == Manifest.Receiver.cls) = true then pure (Value.ref e) else typeOf (.ref e))) ?_
    rw [if_neg (by decide)]
    refine hT.here (wpAny_bind (m := typeNameWhole _) ?_)
    unfold typeNameWhole classData
    exact wpAny_bind (wpAny_bind (wpAny_load hC (wpAny_pure (wpAny_pure (wpAny_pure (hQ _))))))
  simp only [checkBuiltinCall, excClass_Exception.initKind, excClass_Exception.initSplit, excClass_Exception.initSig]
  refine wpAny_bind (hI.here ?_)
  simp only [Bool.not_true, Bool.false_eq_true, if_false]
  unfold Bind.checkArgs
  dsimp only
  refine wpAny_bind (hN fun full => ?_)
  refine wpAny_bind (m := Bind.printed "Exception" false _ _) (printed_name (by decide) ?_)
  show wpAny M A (Sem.onRaise (Bind.check ⟨.positional, "*", "Exception", .self, [⟨"args", .varPos, false⟩]⟩ full "Exception" _ []) _) Q E _
  rw [check_star_args]
  exact wpAny_onRaise (wpAny_pure h)
theorem init_sub {P : Params} {K : Frag} (X : (hd.heap_1 P).In s.heap) {e : Addr} {ob : Obj} {vs : Array Value} {t0 : Addr} {v : Value} {Q : Value → Shared → Prop}
    (he : s.heap.get? e = some ob) (hcls : ob.cls = .ref 38) (hd' : ob.data = .fields vs) (h0 : vs[0]? = some (.ref t0))
    (h : Q .none { s with heap := (s.heap.push { cls := .type "tuple", data := .seq #[v] }).update e (Obj.mapFields (·.setIfInBounds 0 (.ref s.heap.objs.size))) }) :
    wpAny (model prog w) A (call (.builtin "Exception.__init__") [.ref e, v]) Q E s := by
  refine wpAny_call (codeAny_call_builtin excClass_Exception.init.plain excClass_Exception.initEntry (init_check X he hcls ?_))
  unfold Builtin.«BaseException.__init__»
  dsimp only
  rw [if_neg (by simp)]
  unfold newTuple Builtin.BaseException.bexcPut
  have hsz : 0 < vs.size := (Array.getElem?_eq_some_iff.mp h0).1
  have he₁ := Heap.get?_push_of_some (h := s.heap) { cls := .type "tuple", data := .seq #[v] } he
  refine wpAny_bind (wpAny_newObj_type (wpAny_bind (wpAny_bind (wpAny_field he₁ hd' h0 (wpAny_bind (wpAny_setField he₁ hd' hsz ?_))))) (by show 1 ≤ sizeLine; rw [sizeLine_eq]; decide))
  exact wpAny_letGo (wpAny_pure h)
end

end PartNX0

theorem flush10 {M : Model} {A : Around} {env : Env} {Q : Flow → Shared → Prop} {E : Value → Shared → Prop} {s : Shared} (h : wpAny M A (execs [] env) Q E s) : wpAny M A (execs [] env) Q E s := by
  w_top off
  first | (walk1; fail) | exact h

section PartNX1
/-- an own exception e with its dict D in flight: fl is the mark of its newest entry -/
noncomputable def OnE (base : Heap) (l : List Env) (e D : Addr) (fl : Value) (h : Heap) : Prop :=
  base.StaysIn h ∧ base.get? e = none ∧ h.FunFrames base l ∧
    ∃ oe vs T oT ts, h.get? e = some oe ∧ oe.cls = .ref 38 ∧ oe.dict = some D ∧ oe.data = .fields vs ∧ vs[1]? = some (.ref T) ∧ base.get? T = none ∧ T ≠ e ∧ h.get? T = some oT ∧ oT.data = .fields ts ∧ ts[3]? = some fl
theorem OnE.there {base h : Heap} {l : List Env} {e D : Addr} {fl : Value} (x : OnE base l e D fl h) : ∃ oe vs, h.get? e = some oe ∧ oe.cls = .ref 38 ∧ oe.dict = some D ∧ oe.data = .fields vs :=
  let ⟨_, _, _, oe, vs, _, _, _, he, hc, hD, hd, _⟩ := x; ⟨oe, vs, he, hc, hD, hd⟩
theorem dict_mapFields (f : Array Value → Array Value) (o : Obj) : (o.mapFields f).dict = o.dict := by
  obtain ⟨c, d, dt, sl⟩ := o
  cases dt <;> rfl
section
variable {M : Model} {A : Around} {E : Value → Shared → Prop} {s : Shared}
theorem e_entry {base : Heap} {env : Env} {outer : List Env} {L e D : Addr} {oe : Obj} {vs : Array Value} {head : Value} {hadNext : Bool} {Q : Unit → Shared → Prop}
    (hfr : A.frames = some (env :: outer)) (hl : s.heap.FunFrames base (env :: outer)) (hf : env.frame = some L)
    (he : s.heap.get? e = some oe) (hc : oe.cls = .ref 38) (hD : oe.dict = some D) (hkb : base.StaysIn s.heap) (hen : base.get? e = none) (hd : oe.data = .fields vs) (hsz : 1 < vs.size)
    (h : ∀ h', OnE base (env :: outer) e D (rawInt L) h' → s.heap.UpToSlots h' → Q () { s with heap := h' }) :
    wpAny M A (do let a ← frameOf env; let pl ← entryPlaceOf L hadNext; let b ← EntryCells.newEntry head a .none (rawInt L) .none pl; setField (.ref e) 1 b) Q E s := by
  have hne : e ∉ (env :: outer).filterMap (·.frame) := by
    intro hm
    obtain ⟨_, o, ho, hnf⟩ := hl.mem hm
    cases ho.symm.trans he
    exact hnf vs hd
  apply wpAny_bind
  apply wpAny_frameOf_fun hfr hl hf
  intro h₁ hs₁
  apply wpAny_bind
  apply wpAny_entryPlaceOf
  intro pl hpl
  unfold EntryCells.newEntry newFields
  apply wpAny_bind
  refine wpAny_newObj_type ?_ (hpl.sizeOk5 _ _ _ _ _)
  have he₁ : h₁.get? e = some oe := (hs₁.2.1 e hne).trans he
  have kb₁ : base.StaysIn h₁ := by
    intro b o hb
    refine (hs₁.2.1 b ?_).trans (hkb b o hb)
    intro hm
    rw [(hl.mem hm).1] at hb
    cases hb
  generalize hN : ({ cls := .type "traceback", dict := none, data := .fields ([head, .ref L, .none, rawInt L, .none] ++ (if pl.isEmpty then List.replicate 6 Value.none else pl)).toArray } : Obj) = nu
  have hnd : ∃ ts, nu.data = .fields ts ∧ ts[3]? = some (rawInt L) := by
    refine ⟨_, by rw [← hN], ?_⟩
    simp
  have hnf : nu.isFreed = false := by rw [← hN]; rfl
  have he₂ : (h₁.push nu).get? e = some oe := Heap.get?_push_of_some nu he₁
  refine wpAny_setField he₂ hd hsz ?_
  have hTe : h₁.objs.size ≠ e := Nat.ne_of_gt (Heap.lt_size he₁)
  have hd₃ := Obj.data_mapFields hd (·.setIfInBounds 1 (Value.ref h₁.objs.size))
  have he₃ := Heap.get?_update_self (Obj.mapFields (·.setIfInBounds 1 (Value.ref h₁.objs.size))) he₂ (Obj.isFreed_of_fields hd₃)
  have hT₃ := (Heap.get?_update_other (h₁.push nu) (Obj.mapFields (·.setIfInBounds 1 (Value.ref h₁.objs.size))) (Ne.symm hTe)).trans (Heap.get?_push_size h₁ hnf)
  have keep : ∀ b o, b ≠ e → h₁.get? b = some o → ((h₁.push nu).update e (Obj.mapFields (·.setIfInBounds 1 (Value.ref h₁.objs.size)))).get? b = some o := by
    intro b o hbe hb
    rw [Heap.get?_update_other _ _ (Ne.symm hbe)]
    exact Heap.get?_push_of_some nu hb
  have other : ∀ b o, s.heap.get? b = some o → (∀ ws, o.data ≠ .fields ws) → b ≠ e := by
    rintro b o hb hnf rfl
    cases hb.symm.trans he
    exact hnf vs hd
  apply h
  · refine ⟨?_, hen, ?_, ?_⟩
    · intro b o hb
      exact keep b o (by rintro rfl; rw [hen] at hb; cases hb) (kb₁ b o hb)
    · refine hl.of_keeps fun b o hb hnf => ?_
      obtain ⟨sl, hs⟩ := hs₁.2.2 b o hb
      exact ⟨_, keep b _ (other b o hb hnf) hs, rfl⟩
    · obtain ⟨ts, ht, ht3⟩ := hnd
      exact ⟨_, _, h₁.objs.size, nu, ts, he₃, (Obj.cls_mapFields _ _).trans hc, (dict_mapFields _ _).trans hD, hd₃, by simp [hsz], kb₁.fresh, hTe, hT₃, ht, ht3⟩
  · intro b o hb hnf
    obtain ⟨sl, hs⟩ := hs₁.2.2 b o hb
    exact ⟨sl, keep b _ (other b o hb hnf) hs⟩
theorem e_land {base : Heap} {l : List Env} {e D : Addr} {fl : Value} {Q : Unit → Shared → Prop} (x : OnE base l e D fl s.heap)
    (h : ∀ h', OnE base l e D .none h' → s.heap.UpToSlots h' → Q () { s with heap := h' }) : wpAny M A (setFlight (.ref e) none) Q E s := by
  obtain ⟨hkb, hen, hl, oe, vs, T, oT, ts, he, hc, hD, hd, h1, hnT, hTe, hT, hdT, h3⟩ := x
  have hsz : 3 < ts.size := (Array.getElem?_eq_some_iff.mp h3).1
  have oth : ∀ b, b ≠ T → (s.heap.update T (Obj.mapFields (·.setIfInBounds 3 ((none : Option Addr).elim Value.none fun f => rawInt f)))).get? b = s.heap.get? b :=
    fun b hb => Heap.get?_update_other _ _ (Ne.symm hb)
  have noT : ∀ b o, s.heap.get? b = some o → (∀ ws, o.data ≠ .fields ws) → b ≠ T := by
    rintro b o hb hnf rfl
    cases hb.symm.trans hT
    exact hnf ts hdT
  unfold setFlight
  apply wpAny_bind
  refine wpAny_field he hd h1 ?_
  rw [if_pos (show (Value.ref T != Value.none) = true from by simp)]
  refine wpAny_setField hT hdT hsz (h _ ⟨?_, hen, ?_, ?_⟩ ?_)
  · intro b o hb
    exact (oth b (by rintro rfl; rw [hnT] at hb; cases hb)).trans (hkb b o hb)
  · exact hl.of_keeps fun b o hb hnf => ⟨o, (oth b (noT b o hb hnf)).trans hb, rfl⟩
  · exact ⟨oe, vs, T, _, _, (oth e (Ne.symm hTe)).trans he, hc, hD, hd, h1, hnT, hTe, Heap.get?_update_self _ hT (Obj.isFreed_of_fields (Obj.data_mapFields hdT _)), Obj.data_mapFields hdT _, by simp [hsz]⟩
  · intro b o hb hnf
    exact ⟨o.slots, (oth b (noT b o hb hnf)).trans hb⟩
theorem e_noteFirst {base : Heap} {env : Env} {outer : List Env} {L e D : Addr} {oe : Obj} {vs : Array Value} {Q : Unit → Shared → Prop}
    (hfr : A.frames = some (env :: outer)) (hl : s.heap.FunFrames base (env :: outer)) (hf : env.frame = some L)
    (he : s.heap.get? e = some oe) (hc : oe.cls = .ref 38) (hD : oe.dict = some D) (hkb : base.StaysIn s.heap) (hen : base.get? e = none) (hd : oe.data = .fields vs) (h1 : vs[1]? = some .none)
    (h : ∀ h', OnE base (env :: outer) e D (rawInt L) h' → s.heap.UpToSlots h' → Q () { s with heap := h' }) : wpAny M A (noteFrame (.ref e) env) Q E s := by
  unfold noteFrame
  simp only [hf]
  apply wpAny_bind
  refine wpAny_field he hd h1 ?_
  rw [if_neg (by decide)]
  exact e_entry hfr hl hf he hc hD hkb hen hd (Array.getElem?_eq_some_iff.mp h1).1 h
theorem e_noteNext {base : Heap} {env : Env} {outer : List Env} {L e D : Addr} {Q : Unit → Shared → Prop}
    (hfr : A.frames = some (env :: outer)) (hf : env.frame = some L) (x : OnE base (env :: outer) e D .none s.heap)
    (h : ∀ h', OnE base (env :: outer) e D (rawInt L) h' → s.heap.UpToSlots h' → Q () { s with heap := h' }) : wpAny M A (noteFrame (.ref e) env) Q E s := by
  obtain ⟨hkb, hen, hl, oe, vs, T, oT, ts, he, hc, hD, hd, h1, hnT, hTe, hT, hdT, h3⟩ := x
  have oth : ∀ b, b ≠ T → (s.heap.update T (Obj.mapFields (·.setIfInBounds 3 Value.none))).get? b = s.heap.get? b := fun b hb => Heap.get?_update_other _ _ (Ne.symm hb)
  have noT : ∀ b o, s.heap.get? b = some o → (∀ ws, o.data ≠ .fields ws) → b ≠ T := by
    rintro b o hb hnf rfl
    cases hb.symm.trans hT
    exact hnf ts hdT
  unfold noteFrame
  simp only [hf]
  apply wpAny_bind
  refine wpAny_field he hd h1 ?_
  rw [if_pos (show (Value.ref T != Value.none) = true from by simp)]
  apply wpAny_bind
  refine wpAny_field hT hdT h3 ?_
  rw [if_neg (show ¬ ((Value.none == rawInt L) = true) from by simp [rawInt])]
  apply wpAny_bind
  refine wpAny_setField hT hdT (Array.getElem?_eq_some_iff.mp h3).1 ?_
  refine e_entry hfr (hl.of_keeps fun b o hb hnf => ⟨o, (oth b (noT b o hb hnf)).trans hb, rfl⟩) hf ((oth e (Ne.symm hTe)).trans he) hc hD
    (fun b o hb => (oth b (by rintro rfl; rw [hnT] at hb; cases hb)).trans (hkb b o hb)) hen hd (Array.getElem?_eq_some_iff.mp h1).1
    fun h' x1 x2 => h h' x1 fun b o hb hnf => x2 b o ((oth b (noT b o hb hnf)).trans hb) hnf
theorem OnE.tail {base h : Heap} {env : Env} {outer : List Env} {e D : Addr} {fl : Value} (x : OnE base (env :: outer) e D fl h) : OnE base outer e D fl h :=
  let ⟨a, b, ⟨_, _, c⟩, d⟩ := x; ⟨a, b, c, d⟩
theorem e_leaveFirst {base : Heap} {env : Env} {outer : List Env} {L e D : Addr} {oe : Obj} {vs : Array Value} {Q : Unit → Shared → Prop}
    (hfr : A.frames = some (env :: outer)) (hl : s.heap.FunFrames base (env :: outer)) (hf : env.frame = some L)
    (he : s.heap.get? e = some oe) (hc : oe.cls = .ref 38) (hD : oe.dict = some D) (hkb : base.StaysIn s.heap) (hen : base.get? e = none) (hd : oe.data = .fields vs) (h1 : vs[1]? = some .none)
    (h : ∀ h', OnE base outer e D .none h' → s.heap.UpToSlots h' → Q () { s with heap := h' }) : wpAny M A (leaving env (.ref e)) Q E s := by
  unfold leaving
  apply wpAny_bind
  refine e_noteFirst hfr hl hf he hc hD hkb hen hd h1 fun h₁ x₁ u₁ => ?_
  exact e_land x₁ fun h₂ x₂ u₂ => h h₂ x₂.tail (u₁.trans u₂)
theorem e_leaveNext {base : Heap} {env : Env} {outer : List Env} {L e D : Addr} {Q : Unit → Shared → Prop}
    (hfr : A.frames = some (env :: outer)) (hf : env.frame = some L) (x : OnE base (env :: outer) e D .none s.heap)
    (h : ∀ h', OnE base outer e D .none h' → s.heap.UpToSlots h' → Q () { s with heap := h' }) : wpAny M A (leaving env (.ref e)) Q E s := by
  unfold leaving
  apply wpAny_bind
  refine e_noteNext hfr hf x fun h₁ x₁ u₁ => ?_
  exact e_land x₁ fun h₂ x₂ u₂ => h h₂ x₂.tail (u₁.trans u₂)
end

end PartNX1

theorem flush11 {M : Model} {A : Around} {env : Env} {Q : Flow → Shared → Prop} {E : Value → Shared → Prop} {s : Shared} (h : wpAny M A (execs [] env) Q E s) : wpAny M A (execs [] env) Q E s := by
  w_top off
  first | (walk1; fail) | exact h

section PartND0
theorem keys_list : typeLookup (.type "list") (Str.ofString "keys") = pure none := by rw [typeLookup_type, builtinLookup_eq_fast]; kernel_rfl
theorem keys_tuple : typeLookup (.type "tuple") (Str.ofString "keys") = pure none := by rw [typeLookup_type, builtinLookup_eq_fast]; kernel_rfl
theorem keys_size : (Str.ofString "keys").length + 100 ≤ sizeLine := by rw [sizeLine_eq]; decide +kernel
theorem keys_name : (["__module__", "__name__", "__qualname__", "__doc__", "__annotations__"] : List Str).contains (Str.ofString "keys") = false := by decide +kernel
section
variable {prog : Program} {w : World} {A : Around} {E : Value → Shared → Prop} {s : Shared}
theorem keys_no_list {a : Addr} {o : Obj} {xs : Array Value} {k : Nat} {Q : Option Value → Shared → Prop}
    (hx : s.heap.get? a = some o) (hc : o.cls = .type "list") (hdat : o.data = .seq xs k) (hd : o.dict = none) (hA : A.handled = none)
    (h : ∀ h' tk, (∀ b ob, s.heap.get? b = some ob → h'.get? b = some ob) → Q none { s with heap := h', toks := tk }) :
    wpAny (model prog w) A (getAttr? (.ref a) (Str.ofString "keys")) Q E s := by
  obtain ⟨c, dct, dat, sl⟩ := o
  simp only at hc hdat hd
  subst hc hdat hd
  obtain ⟨hp, g, d, tk, os⟩ := s
  have hT : ∀ tk', (⟨hp, g, d, tk', os⟩ : Shared).TypeIs (.ref a) "list" := fun _ => ⟨_, hx, rfl⟩
  have f1 := sub_AttributeError
  have f3 := PySem.F.slot_list_getattribute.lookup
  have f4 := PySem.F.slot_list_getattribute.bind (.ref a)
  have f5 := am_list_getattr_none
  unfold getAttr? getAttrBy? getAttrBy
  repeat (any_goals (first | assumption | exact hT _ | ((with_reducible show wpAny _ _ (call (Value.builtin "list.__getattribute__") _ _) _ _ _); refine call_meets PySem.F.slot_list_getattribute (hT _) am_entry_list_getattribute (PySem.F.args_list_getattribute_2 _ _) (meets_getattribute_miss_list a xs k sl _ _ keys_list keys_name keys_size) ⟨hx, hA, fun h' tk' e hx' => ?_⟩) | wp_step))
  obtain ⟨t', u', he⟩ := hx'.there
  show wpAny _ _ (getattributeRaised _ _ _ _ _ _ _) _ _ _
  unfold getattributeRaised
  repeat (any_goals (first | assumption | wp_step))
  exact h _ _ hx'.keeps
theorem keys_no_tuple {a : Addr} {o : Obj} {xs : Array Value} {k : Nat} {Q : Option Value → Shared → Prop}
    (hx : s.heap.get? a = some o) (hc : o.cls = .type "tuple") (hdat : o.data = .seq xs k) (hd : o.dict = none) (hA : A.handled = none)
    (h : ∀ h' tk, (∀ b ob, s.heap.get? b = some ob → h'.get? b = some ob) → Q none { s with heap := h', toks := tk }) :
    wpAny (model prog w) A (getAttr? (.ref a) (Str.ofString "keys")) Q E s := by
  obtain ⟨c, dct, dat, sl⟩ := o
  simp only at hc hdat hd
  subst hc hdat hd
  obtain ⟨hp, g, d, tk, os⟩ := s
  have hT : ∀ tk', (⟨hp, g, d, tk', os⟩ : Shared).TypeIs (.ref a) "tuple" := fun _ => ⟨_, hx, rfl⟩
  have f1 := sub_AttributeError
  have f3 := PySem.F.slot_tuple_getattribute.lookup
  have f4 := PySem.F.slot_tuple_getattribute.bind (.ref a)
  have f5 := am_tuple_getattr_none
  unfold getAttr? getAttrBy? getAttrBy
  repeat (any_goals (first | assumption | exact hT _ | ((with_reducible show wpAny _ _ (call (Value.builtin "tuple.__getattribute__") _ _) _ _ _); refine call_meets PySem.F.slot_tuple_getattribute (hT _) am_entry_tuple_getattribute (PySem.F.args_tuple_getattribute_2 _ _) (meets_getattribute_miss_tuple a xs k sl _ _ keys_tuple keys_name keys_size) ⟨hx, hA, fun h' tk' e hx' => ?_⟩) | wp_step))
  obtain ⟨t', u', he⟩ := hx'.there
  show wpAny _ _ (getattributeRaised _ _ _ _ _ _ _) _ _ _
  unfold getattributeRaised
  repeat (any_goals (first | assumption | wp_step))
  exact h _ _ hx'.keeps
end

end PartND0

theorem flush12 {M : Model} {A : Around} {env : Env} {Q : Flow → Shared → Prop} {E : Value → Shared → Prop} {s : Shared} (h : wpAny M A (execs [] env) Q E s) : wpAny M A (execs [] env) Q E s := by
  w_top off
  first | (walk1; fail) | exact h

section PartND1
theorem entry_upd : entryFor table "dict.update.loop" = some Builtin.«dict.update.loop» := entryFor_of_tree (by kernel_rfl)
section
variable {prog : Program} {w : World} {A : Around} {E : Value → Shared → Prop} {s : Shared}
theorem upd_loop {I d ax : Addr} {items : Array Value} {n : Nat} {St : Nat → Heap → Prop} {kvs : List (Str × Value)} {R : Result → Shared → Prop}
    (W : Walks prog w A.in1 I [I, ax] [I] n (fun i v => items[i]? = some v) St) (hk : kvs.length = n) (hdI : d ≠ I) (hda : d ≠ ax) (hsz : kvs.length ≤ 1000)
    (hit : ∀ (i : Nat) kv, kvs[i]? = some kv → ∃ T o t nn, items[i]? = some (.ref T) ∧ T ≠ I ∧ T ≠ d ∧ s.heap.get? T = some o ∧ o.cls = .type "tuple" ∧ o.data = .seq #[.str kv.1 t, kv.2] nn)
    (hR : ∀ h' tk', h'.DictOf (strKind prog w) d (merged [] kvs) → (∀ b o, b ≠ I → b ≠ d → s.heap.get? b = some o → h'.get? b = some o) → R (.ok (.ret .none)) { s with heap := h', toks := tk' }) :
    ∀ (k i : Nat), k = n - i → i ≤ n → ∀ h tk, St i h → h.DictOf (strKind prog w) d (merged [] (kvs.take i)) → (∀ b o, b ≠ I → b ≠ d → s.heap.get? b = some o → h.get? b = some o) →
      codeAny (model prog w) A (.builtin "dict.update.loop" ⟨[.ref d, .ref I, rawInt i, .none], []⟩) R { s with heap := h, toks := tk } := by
  intro k
  induction k with
  | zero =>
    intro i hk' hi h tk st hd hkp
    have hin : i = n := by omega
    subst hin
    refine codeAny_builtin entry_upd ?_
    unfold Builtin.«dict.update.loop»
    dsimp only [rawInt]
    refine wpAny_bind (W.done _ _ _ st fun h₁ tk₁ hk₁ => ?_)
    show wpAny _ _ (Builtin.Dict.addKeywords d [] >>= _) _ _ _
    refine wpAny_bind (wpAny_pure (wpAny_pure ?_))
    refine hR h₁ tk₁ ?_ fun b o hb hb2 q => hk₁ b o (by simpa using hb) (hkp b o hb hb2 q)
    rw [List.take_of_length_le (by omega)] at hd
    obtain ⟨o, es, ep, ho, r⟩ := hd
    exact ⟨o, es, ep, hk₁ d o (by simpa using hdI) ho, r⟩
  | succ k ih =>
    intro i hk' hi h tk st hd hkp
    have hin : i < n := by omega
    refine codeAny_builtin entry_upd ?_
    unfold Builtin.«dict.update.loop»
    dsimp only [rawInt]
    refine wpAny_bind (W.item i _ _ _ hin st fun v h₁ tk₁ hv st₁ hk₁ => ?_)
    obtain ⟨T, o, t, nn, hT, hTI, hTd, ho, hoc, hod⟩ := hit i (kvs[i]'(by omega)) (by simp)
    rw [hT] at hv
    obtain rfl := Option.some.inj hv
    have hT1 : h₁.get? T = some o := hk₁ T o (by simpa using hTI) (hkp T o hTI hTd ho)
    refine wpAny_bind (wpAny_holding ?_)
    unfold Builtin.Dict.pairItems
    refine wpAny_bind (m := tryCatch _ _) ?_
    refine wpAny_tryCatch ?_
    refine wpAny_bind (wpAny_typeOf (T := "tuple") ⟨o, hT1, hoc⟩ ?_)
    rw [if_pos (by decide)]
    unfold seqItems?
    refine wpAny_bind (wpAny_bind (wpAny_load hT1 ?_))
    rw [hod]
    refine wpAny_pure (wpAny_pure ?_)
    dsimp only
    refine wpAny_holding ?_
    have hd1 : h₁.DictOf (strKind prog w) d (merged [] (kvs.take i)) := by
      obtain ⟨o', es, ep, ho', r⟩ := hd
      exact ⟨o', es, ep, hk₁ d o' (by simpa using hdI) ho', r⟩
    refine wpAny_dictSet_pairs (strKind_is _ _ _ _) hd1 (fun h₂ hd₂ hs => ?_) ?_
    · refine wpAny_pure ⟨Code.quiet_builtin _ (by decide +kernel), ?_⟩
      refine ih (i + 1) (by omega) (by omega) h₂ _ (W.frame _ _ _ st₁ fun b hb o' q => ?_) ?_ fun b o' hb hb2 q => ?_
      · rcases List.mem_cons.mp hb with rfl | hb
        · exact (hs.2 _ (Ne.symm hdI)).trans q
        · rcases List.mem_cons.mp hb with rfl | hb
          · exact (hs.2 _ (Ne.symm hda)).trans q
          · cases hb
      · rw [merged_take_succ [] kvs i (kvs[i]'(by omega)) (by simp)]
        exact hd₂
      · exact (hs.2 _ hb2).trans (hk₁ b o' (by simpa using hb) (hkp b o' hb hb2 q))
    · have := merged_length_le [] (kvs.take i)
      have h2 : (kvs.take i).length ≤ kvs.length := by simp only [List.length_take]; omega
      rw [sizeLine_eq]
      simp only [List.length_nil] at this
      omega
end

end PartND1

theorem flush13 {M : Model} {A : Around} {env : Env} {Q : Flow → Shared → Prop} {E : Value → Shared → Prop} {s : Shared} (h : wpAny M A (execs [] env) Q E s) : wpAny M A (execs [] env) Q E s := by
  w_top off
  first | (walk1; fail) | exact h

section PartND2
section
variable {prog : Program} {w : World} {A : Around} {E : Value → Shared → Prop} {s : Shared}

theorem dict_pairs_list {h₀ : Heap} {L ax : Addr} {m : Str → Option Value} {news : List (Addr × Obj)} {axo : Obj} {items : Array Value} {an : Nat} {kvs : List (Str × Value)} {Q : Value → Shared → Prop}
    (F : Fr h₀ L s.heap m) (N : News h₀ L s.heap news) (hbig : sysModules < h₀.objs.size) (hA : A.handled = none) (ho : s.heap.get? ax = some axo) (hc : axo.cls = .type "list") (hd : axo.data = .seq items an) (hdn : axo.dict = none)
    (hk : kvs.length = items.size) (hsz : kvs.length ≤ 1000)
    (hit : ∀ (i : Nat) kv, kvs[i]? = some kv → ∃ T o t nn, items[i]? = some (.ref T) ∧ s.heap.get? T = some o ∧ o.cls = .type "tuple" ∧ o.data = .seq #[.str kv.1 t, kv.2] nn)
    (h : ∀ d h' tk' o, Fr h₀ L h' m → News h₀ L h' ((d, o) :: news) → (∀ p ∈ news, p.1 < d) → (d == sysModules) = false → o.IsDictOf (strKind prog w) (merged [] kvs) → Q (.ref d) { s with heap := h', toks := tk' }) :
    wpAny (model prog w) A (call (.type "dict") [.ref ax]) Q E s := by
  refine callType_codes (Q₁ := fun obj s₁ => obj = .ref s.heap.objs.size ∧ s₁ = { s with heap := s.heap.push { cls := .type "dict", data := .dict #[] } }) PySem.F.kt_called_dict (PySem.F.kt_typeCall_dict_1 _) PySem.F.entry_dict_init (kt_code_dict_new _ ⟨rfl, rfl⟩) ?_
  rintro obj s₁ ⟨rfl, rfl⟩
  have hnew : (s.heap.push { cls := .type "dict", data := .dict #[] }).DictOf (strKind prog w) s.heap.objs.size [] := Heap.DictOf.new s.heap
  have hax := Heap.lt_size ho
  have ho1 : (s.heap.push { cls := .type "dict", data := .dict #[] }).get? ax = some axo := Heap.get?_push_of_some _ ho
  refine ⟨hnew.typeIs, PySem.F.args_dict_init_2 _ _, ?_⟩
  unfold Builtin.«dict.__init__»
  refine wpAny_bind ?_
  unfold Builtin.Dict.selfAndRest
  refine wpAny_bind (wpAny_notOrdered_dict hnew.typeIs ?_)
  show wpAny _ _ (pure (s.heap.objs.size, [Value.ref ax])) _ _ _
  refine wpAny_pure ?_
  show wpAny _ _ (Builtin.Dict.updateFrom "dict.__init__" s.heap.objs.size (.ref ax) [] .none) _ _ _
  unfold Builtin.Dict.updateFrom
  refine wpAny_bind (wpAny_typeOf (T := "list") ⟨axo, ho1, hc⟩ ?_)
  rw [if_pos (by decide)]
  refine wpAny_bind (keys_no_list (s := { s with heap := _ }) ho1 hc hd hdn hA fun h₂ tk₂ k₂ => ?_)
  dsimp only [Option.isNone]
  rw [if_pos rfl]
  refine wpAny_bind (wpAny_rule ?_)
  have ho2 : h₂.get? ax = some axo := k₂ _ _ ho1
  have hl2 : h₂.IsList ax items := ⟨axo, ho2, hc, an, hd⟩
  refine wpAny_bind (wpAny_pyIter_list (s := { s with heap := _, toks := _ }) hl2 ?_)
  have hdlt : s.heap.objs.size < h₂.objs.size := Heap.lt_size (k₂ _ _ (Heap.get?_push_size _ rfl))
  have kAll : ∀ b o, s.heap.get? b = some o → (h₂.push { cls := .type "list_iterator", data := .fields #[.ref ax, .int 0 0] }).get? b = some o :=
    fun b o q => Heap.get?_push_of_some _ (k₂ _ _ (Heap.get?_push_of_some _ q))
  have hit0 : (h₂.push { cls := .type "list_iterator", data := .fields #[.ref ax, .int 0 0] }).IsListIter h₂.objs.size ax 0 := ⟨_, Heap.get?_push_size _ rfl, rfl, rfl⟩
  refine wpAny_pure ⟨Code.quiet_builtin _ (by decide +kernel), ?_⟩
  dsimp only at ho2 hl2 hdlt kAll hit0 ⊢
  refine upd_loop (s := ⟨h₂.push { cls := .type "list_iterator", data := .fields #[.ref ax, .int 0 0] }, s.gens, s.drawn, tk₂, s.os⟩) (d := s.heap.objs.size) (n := items.size) (Walks.list (A := A.in1.in1) hA h₂.objs.size ax (Nat.ne_of_lt (Nat.lt_trans hax hdlt)) items) hk (Nat.ne_of_lt hdlt) (Nat.ne_of_gt hax) hsz (fun i kv hkv => ?_) (fun h₃ tk₃ hd₃ k₃ => ?_)
    items.size 0 (by omega) (by omega) _ _ ⟨hit0, ⟨axo, kAll _ _ ho, hc, an, hd⟩⟩ ?_ (fun b o _ _ q => q)
  · obtain ⟨T, o, t, nn, e1, e2, e3, e4⟩ := hit i kv hkv
    have := Heap.lt_size e2
    exact ⟨T, o, t, nn, e1, Nat.ne_of_lt (Nat.lt_trans this hdlt), Nat.ne_of_lt this, kAll _ _ e2, e3, e4⟩
  · have kF : ∀ b o, s.heap.get? b = some o → h₃.get? b = some o := fun b o q => by
      have := Heap.lt_size q
      exact k₃ b o (Nat.ne_of_lt (Nat.lt_trans this hdlt)) (Nat.ne_of_lt this) (kAll _ _ q)
    obtain ⟨o, q1, q2⟩ := Heap.dictOf_iff.mp hd₃
    refine ⟨rfl, h _ h₃ tk₃ o (F.keeps kF) (fun p hp => ?_) (fun p hp => Heap.lt_size (N p hp).1) (F.notModules hbig) q2⟩
    rcases List.mem_cons.mp hp with rfl | hp
    · exact ⟨q1, Nat.ne_of_gt F.ns.lt, none_at_size F⟩
    · exact ⟨kF _ _ (N p hp).1, (N p hp).2⟩
  · obtain ⟨o, es, ep, q, r⟩ := hnew
    exact ⟨o, es, ep, Heap.get?_push_of_some _ (k₂ _ _ q), r⟩

theorem dict_pairs_tuple {h₀ : Heap} {L ax : Addr} {m : Str → Option Value} {news : List (Addr × Obj)} {axo : Obj} {items : Array Value} {an : Nat} {kvs : List (Str × Value)} {Q : Value → Shared → Prop}
    (F : Fr h₀ L s.heap m) (N : News h₀ L s.heap news) (hbig : sysModules < h₀.objs.size) (hA : A.handled = none) (ho : s.heap.get? ax = some axo) (hc : axo.cls = .type "tuple") (hd : axo.data = .seq items an) (hdn : axo.dict = none)
    (hk : kvs.length = items.size) (hsz : kvs.length ≤ 1000)
    (hit : ∀ (i : Nat) kv, kvs[i]? = some kv → ∃ T o t nn, items[i]? = some (.ref T) ∧ s.heap.get? T = some o ∧ o.cls = .type "tuple" ∧ o.data = .seq #[.str kv.1 t, kv.2] nn)
    (h : ∀ d h' tk' o, Fr h₀ L h' m → News h₀ L h' ((d, o) :: news) → (∀ p ∈ news, p.1 < d) → (d == sysModules) = false → o.IsDictOf (strKind prog w) (merged [] kvs) → Q (.ref d) { s with heap := h', toks := tk' }) :
    wpAny (model prog w) A (call (.type "dict") [.ref ax]) Q E s := by
  refine callType_codes (Q₁ := fun obj s₁ => obj = .ref s.heap.objs.size ∧ s₁ = { s with heap := s.heap.push { cls := .type "dict", data := .dict #[] } }) PySem.F.kt_called_dict (PySem.F.kt_typeCall_dict_1 _) PySem.F.entry_dict_init (kt_code_dict_new _ ⟨rfl, rfl⟩) ?_
  rintro obj s₁ ⟨rfl, rfl⟩
  have hnew : (s.heap.push { cls := .type "dict", data := .dict #[] }).DictOf (strKind prog w) s.heap.objs.size [] := Heap.DictOf.new s.heap
  have hax := Heap.lt_size ho
  have ho1 : (s.heap.push { cls := .type "dict", data := .dict #[] }).get? ax = some axo := Heap.get?_push_of_some _ ho
  refine ⟨hnew.typeIs, PySem.F.args_dict_init_2 _ _, ?_⟩
  unfold Builtin.«dict.__init__»
  refine wpAny_bind ?_
  unfold Builtin.Dict.selfAndRest
  refine wpAny_bind (wpAny_notOrdered_dict hnew.typeIs ?_)
  show wpAny _ _ (pure (s.heap.objs.size, [Value.ref ax])) _ _ _
  refine wpAny_pure ?_
  show wpAny _ _ (Builtin.Dict.updateFrom "dict.__init__" s.heap.objs.size (.ref ax) [] .none) _ _ _
  unfold Builtin.Dict.updateFrom
  refine wpAny_bind (wpAny_typeOf (T := "tuple") ⟨axo, ho1, hc⟩ ?_)
  rw [if_pos (by decide)]
  refine wpAny_bind (keys_no_tuple (s := { s with heap := _ }) ho1 hc hd hdn hA fun h₂ tk₂ k₂ => ?_)
  dsimp only [Option.isNone]
  rw [if_pos rfl]
  refine wpAny_bind (wpAny_rule ?_)
  have ho2 : h₂.get? ax = some axo := k₂ _ _ ho1
  have hl2 : h₂.IsTuple ax items := ⟨axo, ho2, hc, an, hd⟩
  refine wpAny_bind (wpAny_pyIter_tuple (s := { s with heap := _, toks := _ }) hl2 ?_)
  have hdlt : s.heap.objs.size < h₂.objs.size := Heap.lt_size (k₂ _ _ (Heap.get?_push_size _ rfl))
  have kAll : ∀ b o, s.heap.get? b = some o → (h₂.push { cls := .type "tuple_iterator", data := .fields #[.ref ax, .int 0 0] }).get? b = some o :=
    fun b o q => Heap.get?_push_of_some _ (k₂ _ _ (Heap.get?_push_of_some _ q))
  have hit0 : (h₂.push { cls := .type "tuple_iterator", data := .fields #[.ref ax, .int 0 0] }).IsTupleIter h₂.objs.size ax 0 := ⟨_, Heap.get?_push_size _ rfl, rfl, rfl⟩
  refine wpAny_pure ⟨Code.quiet_builtin _ (by decide +kernel), ?_⟩
  dsimp only at ho2 hl2 hdlt kAll hit0 ⊢
  refine upd_loop (s := ⟨h₂.push { cls := .type "tuple_iterator", data := .fields #[.ref ax, .int 0 0] }, s.gens, s.drawn, tk₂, s.os⟩) (d := s.heap.objs.size) (n := items.size) (Walks.tuple (A := A.in1.in1) hA h₂.objs.size ax (Nat.ne_of_lt (Nat.lt_trans hax hdlt)) items) hk (Nat.ne_of_lt hdlt) (Nat.ne_of_gt hax) hsz (fun i kv hkv => ?_) (fun h₃ tk₃ hd₃ k₃ => ?_)
    items.size 0 (by omega) (by omega) _ _ ⟨hit0, ⟨axo, kAll _ _ ho, hc, an, hd⟩⟩ ?_ (fun b o _ _ q => q)
  · obtain ⟨T, o, t, nn, e1, e2, e3, e4⟩ := hit i kv hkv
    have := Heap.lt_size e2
    exact ⟨T, o, t, nn, e1, Nat.ne_of_lt (Nat.lt_trans this hdlt), Nat.ne_of_lt this, kAll _ _ e2, e3, e4⟩
  · have kF : ∀ b o, s.heap.get? b = some o → h₃.get? b = some o := fun b o q => by
      have := Heap.lt_size q
      exact k₃ b o (Nat.ne_of_lt (Nat.lt_trans this hdlt)) (Nat.ne_of_lt this) (kAll _ _ q)
    obtain ⟨o, q1, q2⟩ := Heap.dictOf_iff.mp hd₃
    refine ⟨rfl, h _ h₃ tk₃ o (F.keeps kF) (fun p hp => ?_) (fun p hp => Heap.lt_size (N p hp).1) (F.notModules hbig) q2⟩
    rcases List.mem_cons.mp hp with rfl | hp
    · exact ⟨q1, Nat.ne_of_gt F.ns.lt, none_at_size F⟩
    · exact ⟨kF _ _ (N p hp).1, (N p hp).2⟩
  · obtain ⟨o, es, ep, q, r⟩ := hnew
    exact ⟨o, es, ep, Heap.get?_push_of_some _ (k₂ _ _ q), r⟩
end

end PartND2

theorem flush14 {M : Model} {A : Around} {env : Env} {Q : Flow → Shared → Prop} {E : Value → Shared → Prop} {s : Shared} (h : wpAny M A (execs [] env) Q E s) : wpAny M A (execs [] env) Q E s := by
  w_top off
  first | (walk1; fail) | exact h

section PartNCO
open PyProof.Rows.LCg PyProof.Rows.LCt
section
variable {prog : Program} {w : World} {A : Around} {E : Value → Shared → Prop} {s : Shared} {h₀ : Heap} {L : Addr} {m : PySem.Str → Option Value} {env : Env}
noncomputable def KeyP (prog : Program) (w : World) (kvs : List (PySem.Str × Value)) (i : Nat) (v : Value) : Prop := ∃ k y, kvs[i]? = some (k, y) ∧ (PySem.strKind prog w).is k v = true
noncomputable def DictSrcT (prog : Program) (w : World) (A : Around) (h₀ : Heap) (L : Addr) (m : PySem.Str → Option Value) (env : Env) (ct elt : PySem.Expr) (x : PySem.Str) (scope : Scope) (cl : List (PySem.Str × Addr)) (Fin : Shared → List Value → List (Addr × Obj) → Prop) (xv : Value) (s₁ : Shared) : Prop :=
  ∃ d o kvs news, xv = .ref d ∧ Fr h₀ L s₁.heap m ∧ News h₀ L s₁.heap news ∧ (d, o) ∈ news ∧ o.IsDictOf (PySem.strKind prog w) kvs ∧ (d == sysModules) = false ∧ kvs.length ≤ sizeLine ∧
    ∀ g, CompRestT prog w A h₀ L m env ct elt x scope cl { s₁ with heap := g } (fun nw => (d, o) ∈ nw) (KeyP prog w kvs) (Fin { s₁ with heap := g }) kvs.length 0 [] news
theorem ListComp_D {ct elt iter : PySem.Expr} {x : PySem.Str} {px : Pos} {scope : Scope} {cl : List (PySem.Str × Addr)} {pos : Pos} {Q : Value → Shared → Prop} (_F : Fr h₀ L s.heap m) (hh : A.handled = none)
    (hclos : closureFor scope env = pure cl) (hcell : ∀ y ∈ scope.names, y.2 ≠ .cell) (hkind : scope.kind = .function)
    (hnames : ∀ y ∈ scope.names, y.2 = .local → scope.names.lookup y.1 = some .local) (hx : scope.names.lookup x = some .local)
    (h : wpAny (model prog w) A (eval iter env) (DictSrcT prog w A h₀ L m env ct elt x scope cl (fun s₂ => FinE h₀ L m s₂ Q)) E s)
    (hs : ∀ x, foldedSetIterable iter env x = pure x := by intro _; rfl) :
    wpAny (model prog w) A (eval (.ListComp elt [⟨.Name x px, iter, [ct], 0⟩] scope pos) env) Q E s := by
  rw [eval_ListComp]
  refine wpAny_comprehension_free (use := none) rfl hs hclos hkind hnames (wpAny_mono h (fun xv s₁ h₁ => ?_) fun _ _ e => e)
  obtain ⟨d, o, kvs, news, rfl, F, N, hm, ho, lo, hsz, R⟩ := h₁
  obtain ⟨es, ep, hex, hdat, hko, hpa, hnd⟩ := ho
  have hod := (N _ hm).1
  have hlt : d < s₁.heap.objs.size := Heap.lt_size hod
  have hat : s₁.heap.DictAt (PySem.strKind prog w) d kvs ep := ⟨o, es, hod, hex, hdat, hko, hpa, hnd⟩
  refine wpAny_pyIter_dict lo hat ?_
  have up : ∀ b ob, s₁.heap.get? b = some ob → (s₁.heap.push { cls := .type "dict_keyiterator", data := .fields #[.ref d, .int 0 0, .int kvs.length 0, .int ep 0] }).get? b = some ob := fun b ob e => Heap.get?_push_of_some _ e
  refine block_T (Walks.dictKeys (knd := PySem.strKind prog w) hh s₁.heap.objs.size d (Nat.ne_of_lt hlt) kvs ep) hsz (fun i h st => by obtain ⟨o, e, _⟩ := st.1; exact ⟨o, e⟩)
    (S := fun nw => (d, o) ∈ nw) (fun i h h' o' nw st e e' k N' S' => ⟨by obtain ⟨o2, q, r⟩ := st.1; rw [e] at q; cases q; exact ⟨o', e', r⟩, ⟨o, es, (N' _ S').1, hex, hdat, hko, hpa, hnd⟩⟩) hcell hkind hx
    ⟨⟨_, Heap.get?_push_size _ rfl, rfl, rfl⟩, ⟨o, es, up _ _ hod, hex, hdat, hko, hpa, hnd⟩⟩ (fun b hb => ?_)
    (F.keeps up) (N.grown up) (Nat.ne_of_lt F.ns.lt) (next_is_new F) (fun p hp => Nat.ne_of_lt (Heap.lt_size (N p hp).1)) hm (R _) ?_
  · show b < (s₁.heap.push _).objs.size
    rw [Heap.size_push]
    rcases List.mem_cons.mp hb with rfl | hb
    · exact Nat.lt_succ_self _
    · rw [List.mem_singleton.mp hb]; exact Nat.lt_succ_of_lt hlt
  · intro D C h tk m' ys news' F' N' o1 hn hC₀ hD₀ hCL hDL hCD offC fin
    refine ⟨m', hn, fun h'' hs'' => fin D h'' tk (F'.change hs'' hCL hC₀) (fun p hp => ?_) o1⟩
    refine ⟨hs''.extBut _ _ ?_ (N' p hp).1, (N' p hp).2⟩
    rcases List.mem_cons.mp hp with rfl | hp
    · exact Ne.symm hCD
    · exact offC p hp
theorem CompEnd.mono {h₀ : Heap} {L : Addr} {m : PySem.Str → Option Value} {s₁ : Shared} {I : Addr} {oI : Obj} {C : Addr} {oC : Obj} {D : Addr} {oD : Obj} {S : List (Addr × Obj) → Prop} {r1 r2 : Value → List (Addr × Obj) → Prop} {y : Value} {s₂ : Shared}
    (h : CompEnd h₀ L m s₁ I oI C oC D oD S r1 y s₂) (hr : ∀ n, r1 y n → r2 y n) : CompEnd h₀ L m s₁ I oI C oC D oD S r2 y s₂ :=
  let ⟨a, b, c, d, e, f, g, i, j⟩ := h; ⟨a, b, c, d, e, f, g, i, hr _ j⟩
theorem compT_ind {ct elt : PySem.Expr} {x : PySem.Str} {scope : Scope} {cl : List (PySem.Str × Addr)} {S : List (Addr × Obj) → Prop} {P : Nat → Value → Prop} {Fin : List Value → List (Addr × Obj) → Prop} {n : Nat} (Inv : Nat → List Value → List (Addr × Obj) → Prop)
    (done : ∀ ys news, Inv n ys news → Fin ys news)
    (turn : ∀ i ys news, i < n → Inv i ys news → ∀ v I oI C oC D m₂ h tk (E' : Value → Shared → Prop), P i v → NsObj oC m₂ → m₂ x = some v → Fr h₀ L h m → News h₀ L h ((I, oI) :: (C, oC) :: (D, lst ys) :: news) → Off3 I C D news → ((@Ne Nat I C) ∧ (@Ne Nat I D) ∧ (@Ne Nat C D)) →
      wpAny (model prog w) A (isTrue ct (compEnvC scope cl C env) (eval ct (compEnvC scope cl C env))) (fun ok s' => if ok = true then
        wpAny (model prog w) A (eval elt (compEnvC scope cl C env)) (CompEnd h₀ L m { s with heap := h, toks := tk } I oI C oC D (lst ys) S (fun y news' => Inv (i + 1) (ys ++ [y]) news')) E' s'
        else CompEnd h₀ L m { s with heap := h, toks := tk } I oI C oC D (lst ys) S (fun _ news' => Inv (i + 1) ys news') Value.none s') E' { s with heap := h, toks := tk }) :
    ∀ (k i : Nat) (ys : List Value) (news : List (Addr × Obj)), i + k = n → Inv i ys news → CompRestT prog w A h₀ L m env ct elt x scope cl s S P Fin k i ys news := by
  intro k
  induction k with
  | zero =>
    intro i ys news hi hinv
    have : i = n := by omega
    subst this
    exact CompRestT.zero (done ys news hinv)
  | succ k ih =>
    intro i ys news hi hinv
    refine CompRestT.succ fun v I oI C oC D m₂ h tk E' hP hns hm₂ F N off ne => ?_
    refine wpAny_mono (turn i ys news (by omega) hinv v I oI C oC D m₂ h tk E' hP hns hm₂ F N off ne) (fun ok s' hq => ?_) fun _ _ e => e
    by_cases hok : ok = true
    · rw [if_pos hok] at hq ⊢
      exact wpAny_mono hq (fun y s'' hc => CompEnd.mono hc fun news' hi' => ih (i + 1) (ys ++ [y]) news' (by omega) hi') fun _ _ e => e
    · rw [if_neg hok] at hq ⊢
      exact CompEnd.mono hq fun news' hi' => ih (i + 1) ys news' (by omega) hi'
end

end PartNCO

theorem flush15 {M : Model} {A : Around} {env : Env} {Q : Flow → Shared → Prop} {E : Value → Shared → Prop} {s : Shared} (h : wpAny M A (execs [] env) Q E s) : wpAny M A (execs [] env) Q E s := by
  w_top off
  first | (walk1; fail) | exact h

section PartNP
noncomputable abbrev barr (b : Array UInt8) : Obj := { cls := .type "bytearray", data := .bytearray b }
section
variable {prog : Program} {w : World} {A : Around} {E : Value → Shared → Prop} {s : Shared} {h₀ : Heap} {L : Addr} {m : Str → Option Value} {news news' : List (Addr × Obj)}
theorem bs_store {a : Addr} {b : Array UInt8} {k v : Int} {t u : Tok} {Q : Unit → Shared → Prop} (F : Fr h₀ L s.heap m) (N : News h₀ L s.heap news) (U : Upd a (barr b) (barr (b.setIfInBounds k.toNat v.toNat.toUInt8)) news news')
    (h0 : 0 ≤ k) (h1 : k < b.size) (hz : b.size ≤ sizeLine) (h2 : 0 ≤ v) (h3 : v < 256)
    (h : ∀ h', Fr h₀ L h' m → News h₀ L h' news' → Q () { s with heap := h' }) : wpAny (model prog w) A (setItem (.ref a) (.int k t) (.int v u)) Q E s := by
  obtain ⟨pre, post, rfl, rfl, h4, h5⟩ := U.split
  have ho := (N (a, barr b) (by simp)).1
  obtain ⟨F', N'⟩ := news_upd (f := Obj.mapBytearray (·.setIfInBounds k.toNat v.toNat.toUInt8)) (o' := barr (b.setIfInBounds k.toNat v.toNat.toUInt8)) F N h4 h5 rfl rfl
  exact ba_setItem ho h0 h1 hz h2 h3 (h _ F' N')
theorem bx_K {a : Addr} {b : Array UInt8} {Q : Value → Shared → Prop} (N : News h₀ L s.heap news) (hm : (a, barr b) ∈ news) (hz : b.size ≤ sizeLine)
    (hQ : Q (.bytes b s.toks) { s with toks := s.toks + 1 }) : wpAny (model prog w) A (call (.type "bytes") [.ref a]) Q E s := bx_call (N _ hm).1 hz hQ
theorem n_bytearray_K {t : Tok} {Q : Value → Shared → Prop} (F : Fr h₀ L s.heap m) (N : News h₀ L s.heap news)
    (h : ∀ a h', Fr h₀ L h' m → News h₀ L h' ((a, barr #[0]) :: news) → (∀ p ∈ news, p.1 < a) → Q (.ref a) { s with heap := h' }) : wpN (model prog w) A (call (.type "bytearray") [.int 1 t] []) Q E s :=
  n_bytearray fun h' hn hk => h _ h' (F.grownK hk) (News.more (F.grownK hk) (N.grown hk) hn (fun _ _ e => by cases e) (next_is_new F)) fun p hp => Heap.lt_size (N p hp).1
end
section
variable {M : Model} {A : Around} {E : Value → Shared → Prop} {s : Shared} {env : Env}
theorem n_noRaise {α : Type} {t : Sem α} {Q : α → Shared → Prop} (h : wpN M A t Q (fun _ _ => False) s) : wpN M A t Q E s := n_mono h (fun _ _ x => x) fun _ _ x => x.elim
theorem n_callWith_type {pos : Pos} {T : String} {e : Expr} {Q : Value → Shared → Prop}
    (h : wpN M A (spliced (backTo pos (starEach [e] env))) (fun vs s₁ => wpN M A (call (.type T) vs []) Q E s₁) E s)
    (he : starEach [e] env = [(false, eval e env)] := by rfl) : wpN M A (callWith pos (.type T) [] (backTo pos (starEach [e] env)) []) Q E s := by
  have hb : backTo pos [(false, eval e env)] = [(false, eval e env)] := rfl
  rw [he, hb] at h ⊢
  unfold callWith
  refine n_bind (n_holding (n_evalArgs (n_mono h (fun vs s₁ h₁ => ?_) fun _ _ e => e)))
  refine n_then (wpAny_standAt ?_)
  refine n_then (m := keeperOf (.type T)) (wpAny_pure ?_)
  exact n_bind (n_mono h₁ (fun r s₂ hr => n_bind (n_holding (n_any (wpAny_point (n_pure hr))))) fun _ _ e => e)
/-- a def of the text is called: its arguments, then the call -/
theorem n_callWith_def {K : Frag} {a : Addr} {pos : Pos} {e : Expr} {rest : List Expr} {Q : Value → Shared → Prop} (hf : fnIn K a = true) (hl : rest.length < 30)
    (h : wpN M A (spliced (backTo pos (starEach (e :: rest) env))) (fun vs s₁ => K.In s₁.heap ∧ wpN M A (call (.ref a) vs []) Q E s₁) E s)
    (he : starEach (e :: rest) env = (false, eval e env) :: starEach rest env := by rfl) (hs : (backTo pos (starEach rest env)).any (·.1) = false := by rfl) (hn : (backTo pos (starEach rest env)).length = rest.length := by rfl) :
    wpN M A (callWith pos (.ref a) [] (backTo pos (starEach (e :: rest) env)) []) Q E s := by
  have hb : backTo pos ((false, eval e env) :: starEach rest env) = (false, eval e env) :: backTo pos (starEach rest env) := rfl
  rw [he, hb] at h ⊢
  refine n_callWith_fn (by simpa using hs) (by rw [hn]; exact hl) (n_mono h (fun vs s₁ h₁ => ⟨?_, h₁.2⟩) fun _ _ e => e)
  unfold fnIn at hf
  split at hf
  · rename_i q
    exact ⟨_, _, h₁.1 _ _ q, rfl⟩
  · cases hf
end
theorem allLt_mem : ∀ {l : List (Addr × Obj)} {a : Addr}, AllLt a l → ∀ p ∈ l, p.1 < a
  | [], _, _, _, h => nomatch h
  | _ :: _, _, x, p, h => by
    rcases List.mem_cons.mp h with rfl | h
    · exact x.1
    · exact allLt_mem x.2 p h
theorem allLt_ne {l : List (Addr × Obj)} {a : Addr} (h : AllLt a l) : ∀ p ∈ l, p.1 ≠ a := fun p hp => Nat.ne_of_lt (allLt_mem h p hp)
local macro_rules | `(tactic| k_all) => `(tactic| first | assumption | (exact allLt_ne (by first | assumption | exact And.right (by assumption) | exact And.right (And.right (by assumption)))))
local macro_rules | `(tactic| walk_at "UnrEnd") => `(tactic| (refine UnrEnd.intro (by k_asm) (by k_asm) _ (fun p hp => hp) (by k_all) ?_))
local macro_rules | `(tactic| walk_at "setItem ref int") => `(tactic| (k_here; (with_reducible show wpAny _ _ (setItem (Value.ref _) (Value.int _ _) (Value.int _ _)) _ _ _); k_dflt (refine' bs_store ?F ?N ?U ?h0 ?h1 ?hz ?h2 ?h3 ?_; (case F => k_asm); (case N => k_asm); (case U => k_upd); (case h0 => decide); (case h1 => decide); (case hz => decide); (case h2 => (rw [Int.fmod_eq_emod_of_nonneg _ (by decide)]; omega)); (case h3 => (rw [Int.fmod_eq_emod_of_nonneg _ (by decide)]; omega))); intro h' F' N'; (try k_sweep)))
local macro_rules | `(tactic| walk_at "call type:bytes") => `(tactic| (k_here; (with_reducible show wpAny _ _ (call (Value.type "bytes") [Value.ref _]) _ _ _); k_dflt (refine' bx_K ?N ?hm ?hz ?_; (case N => k_asm); (case hm => k_mem); (case hz => first | decide | (rw [Array.size_setIfInBounds]; decide)))))
theorem fdiv256 {n : Int} (h0 : 0 ≤ n) (h1 : n < 256) : n.fdiv 256 = 0 := by
  rw [Int.fdiv_eq_ediv_of_nonneg _ (by decide)]; omega
local macro_rules | `(tactic| walk_at "ite") => `(tactic| (k_here; k_openite; first
  | (refine ite_pos (by (simp only [Int.reduceMul, Int.reduceSub, Int.reduceToNat, Int.reducePow, decide_eq_true_eq]; omega)) ?_)
  | (refine ite_neg (by (simp only [Int.reduceMul, Int.reduceSub, Int.reduceToNat, Int.reducePow, decide_eq_true_eq]; omega)) ?_)
  | (refine ite_neg (by (simp only [Int.reduceMul, Int.reduceToNat, Int.reducePow, bne_iff_ne, ne_eq, Decidable.not_not]; exact fdiv256 (by omega) (by omega))) ?_)))
theorem one_octet {n : Int} (h0 : 0 ≤ n) (h1 : n < 256) : (#[0] : Array UInt8).setIfInBounds (Int.toNat 0) (n.fmod 256).toNat.toUInt8 = #[n.toNat.toUInt8] := by
  have e : n.fmod 256 = n := by rw [Int.fmod_eq_emod_of_nonneg _ (by decide)]; omega
  rw [e]; rfl
theorem c_put_whole : ∀ {w : World} {mean : ExcName → Option Value} {mg mb : Str → Option Value} {n : Int} {tn t1 : Tok} {news : List (Addr × Obj)}
    {cn : Str} {cs : Scope} {a : Addr} {ccd : Value} {cl : List (Str × Addr)} {outer : List Env} {A₀ : Around} {base h₀ : Heap} {L : Addr} {m : Str → Option Value} {s : Shared} {Q E : Value → Shared → Prop}
    (XB : (hd.heap_1 w.params).In base) (B : Below A₀ base outer h₀) (F : Fr h₀ L s.heap m) (X : (hd.heap_1 w.params).In h₀) (N : News h₀ L s.heap news) (T : Top hd.view_39 (looseW hd.view_39 [Str.ofString "BOUNDS"]) mean mg mb h₀) (hk : cs.kind = .function) (hn0 : 0 ≤ n) (hn1 : n < 256)
    (hret : ∀ (t : Tok) (h' : Heap) (tk' : Nat), Fr h₀ L h' m → News h₀ L h' news → Q (.bytes #[n.toNat.toUInt8] t) { s with heap := h', toks := tk' }),
    wpN (model PySem.Challenge.rw_pf0267_01.row.prog w) (ktrTop 305 16 (some []) cn cs L a ccd cl outer) (call (.ref 69) [.int n tn, .int 1 t1] []) Q E s := by
  k_fill
  intro w mean mg mb n tn t1 news cn cs a ccd cl outer A₀ base h₀ L m s Q E XB B F X N T hk hn0 hn1 hret
  refine n_call ?_
  k_dflt (refine' code_defN ?k1 ?k2 ?k3 ?k4 ?k5 ?kA ?kF ?kK ?k6 ?k7 ?k8 ?k9 ?kB ?_ ?c2 ?c3 ?c4 ?c5; (case kA => exact rfl); (case kF => exact rfl); (case kK => assumption); (case k1 => k_asm); (case k2 => k_asm); (case k3 => k_asm); (case k4 => k_asm); (case k5 => k_asm); (case k6 => k_is); (case k7 => k_is); (case k8 => exact Nat.le_of_ble_eq_true rfl); (case k9 => exact BindsTo.of_eq rfl); (case c5 => decide); (case kB => exact locs rfl); (case c2 => exact rfl); (case c3 => exact rfl); (case c4 => exact rfl); k_whole; intro g' L' h' FG' F' N' B' X' T'; (try dsimp only); (try k_lift B'))
  refine n_noRaise ?_
  refine n_execs_any ?_
  (try k_fold)
  k_steps
  refine n_execs_cons (n_Assign_Name (n_Call ?_))
  (try k_fold)
  k_steps
  refine n_callWith_type (n_any ?_)
  (try k_fold)
  k_steps
  refine n_bytearray_K (by k_asm) (by k_asm) ?_
  intro a1 h1 F1 N1 l1
  have l2 : ∀ p ∈ news, p.1 ≠ a1 := fun p hp => Nat.ne_of_lt (l1 p hp)
  dsimp only
  refine n_any ?_
  (try k_fold)
  k_steps
  refine n_any ?_
  (try k_fold)
  k_steps
  rw [one_octet hn0 hn1]
  exact hret _ _ _ (by k_asm) (by first | k_asm | (refine' cb_drop ?cbN ?cbS; (case cbN => assumption); (case cbS => (intro p hp; simp only [List.mem_cons, List.mem_append]; first | exact .inr hp | exact .inr (.inr hp) | exact .inr (.inr (.inr hp)) | exact .inr (.inr (.inr (.inr hp)))))))

end PartNP

theorem flush16 {M : Model} {A : Around} {env : Env} {Q : Flow → Shared → Prop} {E : Value → Shared → Prop} {s : Shared} (h : wpAny M A (execs [] env) Q E s) : wpAny M A (execs [] env) Q E s := by
  w_top off
  first | (walk1; fail) | exact h

section Group2
local macro_rules | `(tactic| k_all) => `(tactic| first | assumption | (exact allLt_ne (by first | assumption | exact And.right (by assumption) | exact And.right (And.right (by assumption)))))
section Group3
local macro_rules | `(tactic| walk_at "UnrEnd") => `(tactic| (refine UnrEnd.intro (by k_asm) (by k_asm) _ (fun p hp => hp) (by k_all) ?_))
local macro_rules | `(tactic| walk_at "exec For Name Subscript cons nil") => `(tactic| (k_here; (rename Fr _ _ _ _ => lF'); (with_unfolding_all refine' For_invVF lF' ?k1 ?k2 ?_; (case k1 => exact rfl); (case k2 => exact rfl); k_whole)))
section Group4
local macro_rules | `(tactic| walk_at "ite") => `(tactic| (k_here; k_openite; first
  | (refine ite_pos (by (simp only [Int.reduceMul, Int.reduceSub, Int.reduceToNat, Int.reducePow, decide_eq_true_eq]; omega)) ?_)
  | (refine ite_neg (by (simp only [Int.reduceMul, Int.reduceSub, Int.reduceToNat, Int.reducePow, decide_eq_true_eq]; omega)) ?_)))
section PartNV

theorem c_varint_size : ∀ {w : World} {mean : ExcName → Option Value} {mg mb : Str → Option Value} {n : Int} {tn : Tok} {news : List (Addr × Obj)}
    {cn : Str} {cs : Scope} {a : Addr} {ccd : Value} {cl : List (Str × Addr)} {outer : List Env} {A₀ : Around} {base h₀ : Heap} {L : Addr} {m : Str → Option Value} {s : Shared} {Q E : Value → Shared → Prop}
    (XB : (hd.heap_1 w.params).In base) (B : Below A₀ base outer h₀) (F : Fr h₀ L s.heap m) (X : (hd.heap_1 w.params).In h₀) (N : News h₀ L s.heap news) (T : Top hd.view_39 (looseW hd.view_39 [Str.ofString "BOUNDS"]) mean mg mb h₀) (hk : cs.kind = .function) (hn0 : 0 ≤ n) (hn1 : n < 64)
    (hret : ∀ (t : Tok) (h' : Heap) (tk' : Nat), Fr h₀ L h' m → News h₀ L h' news → Q (.int 1 t) { s with heap := h', toks := tk' }),
    wpAny (model PySem.Challenge.rw_pf0267_01.row.prog w) (ktrTop 305 16 (some []) cn cs L a ccd cl outer) (call (.ref 83) [.int n tn] []) Q E s := by
  k_fill
  intro w mean mg mb n tn news cn cs a ccd cl outer A₀ base h₀ L m s Q E XB B F X N T hk hn0 hn1 hret
  have t62 : IsTup base 62 #[.int 1 264, .int 2 265, .int 4 266, .int 8 267] := tupK (l := [.int 1 264, .int 2 265, .int 4 266, .int 8 267]) XB (by k_is)
  refine wpAny_call ?_
  k_dflt (refine' code_def ?k1 ?k2 ?k3 ?k4 ?k5 ?kA ?kF ?kK ?k6 ?k7 ?k8 ?k9 ?kB ?_ ?c2 ?c3 ?c4 ?c5; (case kA => exact rfl); (case kF => exact rfl); (case kK => assumption); (case k1 => k_asm); (case k2 => k_asm); (case k3 => k_asm); (case k4 => k_asm); (case k5 => k_asm); (case k6 => k_is); (case k7 => k_is); (case k8 => exact Nat.le_of_ble_eq_true rfl); (case k9 => exact BindsTo.of_eq rfl); (case c5 => decide); (case kB => exact locs rfl); (case c2 => exact rfl); (case c3 => exact rfl); (case c4 => exact rfl); k_whole; intro g' L' h' FG' F' N' B' X' T'; (try dsimp only); (try k_lift B'))
  (try k_fold)
  k_steps
  all_goals exact hret _ _ _ (by k_asm) (by first | k_asm | (refine' cb_drop ?cbN ?cbS; (case cbN => assumption); (case cbS => (intro p hp; simp only [List.mem_cons, List.mem_append]; first | exact .inr hp | exact .inr (.inr hp) | exact .inr (.inr (.inr hp)) | exact .inr (.inr (.inr (.inr hp)))))))
local macro_rules | `(tactic| walk_at "call ref") => `(tactic| (k_here; refine Stop.call (by decide) ?_))

theorem or_all : ∀ k : Nat, k < 64 → Builtin.bitOr (0 * 2 ^ (8 * 1 - 2 : Int).toNat) (k : Int) = k := by decide +kernel
theorem or_zero {n : Int} (h0 : 0 ≤ n) (h1 : n < 64) : Builtin.bitOr (0 * 2 ^ (8 * 1 - 2 : Int).toNat) n = n := by
  obtain ⟨k, rfl⟩ := Int.eq_ofNat_of_zero_le h0
  exact or_all k (by omega)

local macro_rules | `(tactic| walk_at "getMethod ref") => `(tactic| (k_here; (with_reducible show wpAny _ _ (getMethod (Value.ref 62) _ _) _ _ _); k_dflt (refine tup_methodK (K := hd.heap_1 _) (by k_in) (by k_is) ?_)))
local macro_rules | `(tactic| walk_at "call builtin:tuple.index") => `(tactic| (k_here; (with_reducible show wpAny _ _ (call (Value.builtin "tuple.index") _ _) _ _ _); k_dflt (refine tup_index (tupK (K := hd.heap_1 _) (l := [.int 1 264, .int 2 265, .int 4 266, .int 8 267]) (by k_in) (by k_is)) ?_)))
theorem c_put_varint : ∀ {w : World} {mean : ExcName → Option Value} {mg mb : Str → Option Value} {n : Int} {tn : Tok} {news : List (Addr × Obj)}
    {cn : Str} {cs : Scope} {a : Addr} {ccd : Value} {cl : List (Str × Addr)} {outer : List Env} {A₀ : Around} {base h₀ : Heap} {L : Addr} {m : Str → Option Value} {s : Shared} {Q E : Value → Shared → Prop}
    (XB : (hd.heap_1 w.params).In base) (B : Below A₀ base outer h₀) (F : Fr h₀ L s.heap m) (X : (hd.heap_1 w.params).In h₀) (N : News h₀ L s.heap news) (T : Top hd.view_39 (looseW hd.view_39 [Str.ofString "BOUNDS"]) mean mg mb h₀) (hk : cs.kind = .function) (hn0 : 0 ≤ n) (hn1 : n < 64)
    (hret : ∀ (t : Tok) (h' : Heap) (tk' : Nat), Fr h₀ L h' m → News h₀ L h' news → Q (.bytes #[n.toNat.toUInt8] t) { s with heap := h', toks := tk' }),
    wpN (model PySem.Challenge.rw_pf0267_01.row.prog w) (ktrTop 304 13 (some []) cn cs L a ccd cl outer) (call (.ref 90) [.int n tn, .none] []) Q E s := by
  k_fill
  intro w mean mg mb n tn news cn cs a ccd cl outer A₀ base h₀ L m s Q E XB B F X N T hk hn0 hn1 hret
  have t62 : IsTup base 62 #[.int 1 264, .int 2 265, .int 4 266, .int 8 267] := tupK (l := [.int 1 264, .int 2 265, .int 4 266, .int 8 267]) XB (by k_is)
  refine n_call ?_
  k_dflt (refine' code_defN ?k1 ?k2 ?k3 ?k4 ?k5 ?kA ?kF ?kK ?k6 ?k7 ?k8 ?k9 ?kB ?_ ?c2 ?c3 ?c4 ?c5; (case kA => exact rfl); (case kF => exact rfl); (case kK => assumption); (case k1 => k_asm); (case k2 => k_asm); (case k3 => k_asm); (case k4 => k_asm); (case k5 => k_asm); (case k6 => k_is); (case k7 => k_is); (case k8 => exact Nat.le_of_ble_eq_true rfl); (case k9 => exact BindsTo.of_eq rfl); (case c5 => decide); (case kB => exact locs rfl); (case c2 => exact rfl); (case c3 => exact rfl); (case c4 => exact rfl); k_whole; intro g' L' h' FG' F' N' B' X' T'; (try dsimp only); (try k_lift B'))
  refine n_noRaise ?_
  refine n_execs_any ?_
  (try k_fold)
  k_steps
  unfold Stop
  k_dflt (refine' c_varint_size ?XBa ?Ba ?Fa ?Xa ?Na ?Ta ?hka ?hn0a ?hn1a ?hreta)
  (case Ba => k_asm)
  (case XBa => k_asm)
  (case Fa => k_asm)
  (case Xa => k_asm)
  (case Na => k_asm)
  (case Ta => k_asm)
  (case hka => first | exact rfl | assumption)
  (case hn0a => first | assumption | omega)
  (case hn1a => first | assumption | omega)
  intro t9 h9 tk9 F9 N9; (try k_sweep); (try dsimp only);  (try k_fold)
  k_steps
  refine n_execs_any ?_
  (try k_fold)
  k_steps
  refine n_execs_any ?_
  (try k_fold)
  k_steps
  refine n_execs_cons (n_Return (n_Call ?_))
  (try k_fold)
  k_steps
  refine n_callWith_def (K := hd.heap_1 w.params) (by k_is) (by decide) (n_any ?_)
  (try k_fold)
  k_steps
  rw [or_zero hn0 hn1]
  refine' c_put_whole ?XB ?B ?F ?X ?N ?T ?hk ?h0 ?h1 ?hret
  (case B => k_asm)
  (case XB => k_asm)
  (case F => k_asm)
  (case X => k_asm)
  (case N => k_asm)
  (case T => k_asm)
  (case hk => first | exact rfl | assumption)
  (case h0 => exact hn0)
  (case h1 => omega)
  intro t9 h9 tk9 F9 N9
  (try k_fold)
  k_steps
  exact hret _ _ _ (by k_asm) (by first | k_asm | (refine' cb_drop ?cbN ?cbS; (case cbN => assumption); (case cbS => (intro p hp; simp only [List.mem_cons, List.mem_append]; first | exact .inr hp | exact .inr (.inr hp) | exact .inr (.inr (.inr hp)) | exact .inr (.inr (.inr (.inr hp)))))))

end PartNV

theorem flush17 {M : Model} {A : Around} {env : Env} {Q : Flow → Shared → Prop} {E : Value → Shared → Prop} {s : Shared} (h : wpAny M A (execs [] env) Q E s) : wpAny M A (execs [] env) Q E s := by
  w_top off
  first | (walk1; fail) | exact h

section Group5
local macro_rules | `(tactic| walk_at "pyIter bytes") => `(tactic| (k_here; (with_reducible show wpAny _ _ (pyIter (Value.bytes _ _)) _ _ _); ((with_reducible rename Fr _ _ _ _ => lF'); (with_reducible rename News _ _ _ _ => lN'); (with_unfolding_all refine iter_bytesUnr (by rfl) lF' lN' (by assumption) ?_); clear lF' lN'; intro i' l1; (try k_lt l1))))
local macro_rules | `(tactic| walk_at "subscriptTail") => `(tactic| (k_here; (with_reducible show wpAny _ _ (subscriptTail _ (Expr.Slice _ _ none _) (Value.bytes _ _) (Value.ref _)) _ _ _); (with_reducible rename Fr _ _ _ _ => F'); (with_reducible rename News _ _ _ _ => N'); (refine bsliceM_K (s := ⟨_, _, _, _, _⟩) F' N' (by assumption) ?_); intro _ _ _ _ _ kbcK; (try simp only [List.map_cons, List.map_nil] at kbcK); (try dsimp only)))
section PartNG

local macro_rules | `(tactic| walk_at "subscriptTail") => `(tactic| (k_here; (with_reducible show wpAny _ _ (subscriptTail _ _ (Value.bytes _ _) (Value.int _ _)) _ _ _); (refine bitemA_K (by assumption) ?_); intro _ _))
theorem c_get_whole1 : ∀ {w : World} {mean : ExcName → Option Value} {mg mb : Str → Option Value} {d : Array UInt8} {c : UInt8} {at_ : Int} {td ta t1 : Tok} {news : List (Addr × Obj)}
    {cn : Str} {cs : Scope} {a : Addr} {ccd : Value} {cl : List (Str × Addr)} {outer : List Env} {A₀ : Around} {base h₀ : Heap} {L : Addr} {m : Str → Option Value} {s : Shared} {Q E : Value → Shared → Prop}
    (XB : (hd.heap_1 w.params).In base) (B : Below A₀ base outer h₀) (F : Fr h₀ L s.heap m) (X : (hd.heap_1 w.params).In h₀) (N : News h₀ L s.heap news) (T : Top hd.view_39 (looseW hd.view_39 [Str.ofString "BOUNDS"]) mean mg mb h₀) (hk : cs.kind = .function) (hA : At d at_ c)
    (hret : ∀ (t : Tok) (h' : Heap) (tk' : Nat), Fr h₀ L h' m → News h₀ L h' news → Q (.int (0 * 256 + (c.toNat : Int)) t) { s with heap := h', toks := tk' }),
    wpAny (model PySem.Challenge.rw_pf0267_01.row.prog w) (ktrTop 307 22 (some []) cn cs L a ccd cl outer) (call (.ref 76) [.bytes d td, .int at_ ta, .int 1 t1] []) Q E s := by
  k_fill
  intro w mean mg mb d c at_ td ta t1 news cn cs a ccd cl outer A₀ base h₀ L m s Q E XB B F X N T hk hA hret
  have hlt := hA.lt
  have hz := hA.size
  have hM := hA.mid
  refine wpAny_call ?_
  k_dflt (refine' code_def ?k1 ?k2 ?k3 ?k4 ?k5 ?kA ?kF ?kK ?k6 ?k7 ?k8 ?k9 ?kB ?_ ?c2 ?c3 ?c4 ?c5; (case kA => exact rfl); (case kF => exact rfl); (case kK => assumption); (case k1 => k_asm); (case k2 => k_asm); (case k3 => k_asm); (case k4 => k_asm); (case k5 => k_asm); (case k6 => k_is); (case k7 => k_is); (case k8 => exact Nat.le_of_ble_eq_true rfl); (case k9 => exact BindsTo.of_eq rfl); (case c5 => decide); (case kB => exact locs rfl); (case c2 => exact rfl); (case c3 => exact rfl); (case c4 => exact rfl); k_whole; intro g' L' h' FG' F' N' B' X' T'; (try dsimp only); (try k_lift B'))
  refine wpAny_noRaise ?_
  (try k_fold)
  k_steps
  exact hret _ _ _ (by k_asm) (by first | k_asm | (refine' cb_drop ?cbN ?cbS; (case cbN => assumption); (case cbS => (intro p hp; simp only [List.mem_cons, List.mem_append]; first | exact .inr hp | exact .inr (.inr hp) | exact .inr (.inr (.inr hp)) | exact .inr (.inr (.inr (.inr hp)))))))
local macro_rules | `(tactic| walk_at "call ref") => `(tactic| (k_here; refine Stop.call (by decide) ?_))

theorem and_all : ∀ k : Nat, k < 64 → Builtin.bitAnd (0 * 256 + (k : Int)) (1 * 2 ^ (8 * 1 - 2 : Int).toNat - 1) = k := by decide +kernel
theorem and63 {c : UInt8} (h : c.toNat < 64) : Builtin.bitAnd (0 * 256 + (c.toNat : Int)) (1 * 2 ^ (8 * 1 - 2 : Int).toNat - 1) = c.toNat := and_all _ h
theorem sh6 {c : UInt8} (h : c.toNat < 64) : ((c.toNat : Int)).fdiv (2 ^ Int.toNat 6) = 0 := by
  rw [show ((2 : Int) ^ Int.toNat 6) = 64 by decide, Int.fdiv_eq_ediv_of_nonneg _ (by decide)]; omega
theorem c_get_varint : ∀ {w : World} {mean : ExcName → Option Value} {mg mb : Str → Option Value} {d : Array UInt8} {c : UInt8} {at_ : Int} {td ta : Tok} {news : List (Addr × Obj)}
    {cn : Str} {cs : Scope} {a : Addr} {ccd : Value} {cl : List (Str × Addr)} {outer : List Env} {A₀ : Around} {base h₀ : Heap} {L : Addr} {m : Str → Option Value} {s : Shared} {Q E : Value → Shared → Prop}
    (XB : (hd.heap_1 w.params).In base) (B : Below A₀ base outer h₀) (F : Fr h₀ L s.heap m) (X : (hd.heap_1 w.params).In h₀) (N : News h₀ L s.heap news) (T : Top hd.view_39 (looseW hd.view_39 [Str.ofString "BOUNDS"]) mean mg mb h₀) (hk : cs.kind = .function) (hA : At d at_ c) (hc : c.toNat < 64)
    (hret : ∀ (T : Addr) (t1 t2 : Tok) (h' : Heap) (tk' : Nat), Fr h₀ L h' m → News h₀ L h' ((T, { cls := .type "tuple", data := .seq #[.int (c.toNat : Int) t1, .int (at_ + 1) t2] }) :: news) → (∀ p ∈ news, p.1 < T) → Q (.ref T) { s with heap := h', toks := tk' }),
    wpAny (model PySem.Challenge.rw_pf0267_01.row.prog w) (ktrTop 306 19 (some []) cn cs L a ccd cl outer) (call (.ref 97) [.bytes d td, .int at_ ta] []) Q E s := by
  k_fill
  intro w mean mg mb d c at_ td ta news cn cs a ccd cl outer A₀ base h₀ L m s Q E XB B F X N T hk hA hc hret
  have t62 : IsTup base 62 #[.int 1 264, .int 2 265, .int 4 266, .int 8 267] := tupK (l := [.int 1 264, .int 2 265, .int 4 266, .int 8 267]) XB (by k_is)
  have hlt := hA.lt
  have hz := hA.size
  refine wpAny_call ?_
  k_dflt (refine' code_def ?k1 ?k2 ?k3 ?k4 ?k5 ?kA ?kF ?kK ?k6 ?k7 ?k8 ?k9 ?kB ?_ ?c2 ?c3 ?c4 ?c5; (case kA => exact rfl); (case kF => exact rfl); (case kK => assumption); (case k1 => k_asm); (case k2 => k_asm); (case k3 => k_asm); (case k4 => k_asm); (case k5 => k_asm); (case k6 => k_is); (case k7 => k_is); (case k8 => exact Nat.le_of_ble_eq_true rfl); (case k9 => exact BindsTo.of_eq rfl); (case c5 => decide); (case kB => exact locs rfl); (case c2 => exact rfl); (case c3 => exact rfl); (case c4 => exact rfl); k_whole; intro g' L' h' FG' F' N' B' X' T'; (try dsimp only); (try k_lift B'))
  refine wpAny_noRaise ?_
  (try k_fold)
  k_steps
  rw [sh6 hc]
  k_steps
  unfold Stop
  k_dflt (refine' c_get_whole1 ?XBa ?Ba ?Fa ?Xa ?Na ?Ta ?hka ?hAa ?hreta)
  (case Ba => k_asm)
  (case XBa => k_asm)
  (case Fa => k_asm)
  (case Xa => k_asm)
  (case Na => k_asm)
  (case Ta => k_asm)
  (case hka => first | exact rfl | assumption)
  (case hAa => assumption)
  intro t9 h9 tk9 F9 N9; (try k_sweep); (try dsimp only);  (try k_fold)
  k_steps
  refine' hret _ ?t1 ?t2 _ _ (by k_asm) ?N9 (by assumption)
  case N9 =>
    rw [← and63 hc]
    assumption

end PartNG

theorem flush18 {M : Model} {A : Around} {env : Env} {Q : Flow → Shared → Prop} {E : Value → Shared → Prop} {s : Shared} (h : wpAny M A (execs [] env) Q E s) : wpAny M A (execs [] env) Q E s := by
  w_top off
  first | (walk1; fail) | exact h

section PartNZ0

theorem c_get_whole2 : ∀ {w : World} {mean : ExcName → Option Value} {mg mb : Str → Option Value} {d : Array UInt8} {c c2 : UInt8} {at_ : Int} {td ta t1 : Tok} {news : List (Addr × Obj)}
    {cn : Str} {cs : Scope} {a : Addr} {ccd : Value} {cl : List (Str × Addr)} {outer : List Env} {A₀ : Around} {base h₀ : Heap} {L : Addr} {m : Str → Option Value} {s : Shared} {Q E : Value → Shared → Prop}
    (XB : (hd.heap_1 w.params).In base) (B : Below A₀ base outer h₀) (F : Fr h₀ L s.heap m) (X : (hd.heap_1 w.params).In h₀) (N : News h₀ L s.heap news) (T : Top hd.view_39 (looseW hd.view_39 [Str.ofString "BOUNDS"]) mean mg mb h₀) (hk : cs.kind = .function) (hM : Mid d at_ (at_ + 2) [c, c2]) (hlt : at_ + 2 ≤ (d.size : Int))
    (hret : ∀ (n : Int) (t : Tok) (h' : Heap) (tk' : Nat), Fr h₀ L h' m → News h₀ L h' news → Q (.int n t) { s with heap := h', toks := tk' }),
    wpAny (model PySem.Challenge.rw_pf0267_01.row.prog w) (ktrTop 307 22 (some []) cn cs L a ccd cl outer) (call (.ref 76) [.bytes d td, .int at_ ta, .int 2 t1] []) Q E s := by
  k_fill
  intro w mean mg mb d c c2 at_ td ta t1 news cn cs a ccd cl outer A₀ base h₀ L m s Q E XB B F X N T hk hM hlt hret
  have hz : d.size < 1000 := by obtain ⟨pre1, post1, q1, q2, q3, q4⟩ := hM; exact q4
  refine wpAny_call ?_
  k_dflt (refine' code_def ?k1 ?k2 ?k3 ?k4 ?k5 ?kA ?kF ?kK ?k6 ?k7 ?k8 ?k9 ?kB ?_ ?c2 ?c3 ?c4 ?c5; (case kA => exact rfl); (case kF => exact rfl); (case kK => first | assumption | exact rfl); (case k1 => k_asm); (case k2 => k_asm); (case k3 => k_asm); (case k4 => k_asm); (case k5 => k_asm); (case k6 => k_is); (case k7 => k_is); (case k8 => exact Nat.le_of_ble_eq_true rfl); (case k9 => exact BindsTo.of_eq rfl); (case c5 => decide); (case kB => exact locs rfl); (case c2 => exact rfl); (case c3 => exact rfl); (case c4 => exact rfl); k_whole; intro g' L' h' FG' F' N' B' X' T'; (try dsimp only); (try k_lift B'))
  refine wpAny_noRaise ?_
  (try k_fold)
  k_steps
  exact hret _ _ _ _ (by k_asm) (by first | k_asm | (refine' cb_drop ?cbN ?cbS; (case cbN => assumption); (case cbS => (intro p hp; simp only [List.mem_cons, List.mem_append]; first | exact .inr hp | exact .inr (.inr hp) | exact .inr (.inr (.inr hp)) | exact .inr (.inr (.inr (.inr hp)))))))

end PartNZ0

theorem flush19 {M : Model} {A : Around} {env : Env} {Q : Flow → Shared → Prop} {E : Value → Shared → Prop} {s : Shared} (h : wpAny M A (execs [] env) Q E s) : wpAny M A (execs [] env) Q E s := by
  w_top off
  first | (walk1; fail) | exact h

end Group5

theorem flush20 {M : Model} {A : Around} {env : Env} {Q : Flow → Shared → Prop} {E : Value → Shared → Prop} {s : Shared} (h : wpAny M A (execs [] env) Q E s) : wpAny M A (execs [] env) Q E s := by
  w_top off
  first | (walk1; fail) | exact h

end Group4

theorem flush21 {M : Model} {A : Around} {env : Env} {Q : Flow → Shared → Prop} {E : Value → Shared → Prop} {s : Shared} (h : wpAny M A (execs [] env) Q E s) : wpAny M A (execs [] env) Q E s := by
  w_top off
  first | (walk1; fail) | exact h

end Group3

theorem flush22 {M : Model} {A : Around} {env : Env} {Q : Flow → Shared → Prop} {E : Value → Shared → Prop} {s : Shared} (h : wpAny M A (execs [] env) Q E s) : wpAny M A (execs [] env) Q E s := by
  w_top off
  first | (walk1; fail) | exact h

section PartNRD

local macro_rules | `(tactic| walk_at "ite") => `(tactic| (k_here; k_openite; first
  | (refine ite_pos (by first | omega | (simp only [decide_eq_true_eq]; omega)) ?_)
  | (refine ite_neg (by first | omega | (simp only [decide_eq_true_eq]; omega)) ?_)))
local macro_rules | `(tactic| walk_at "subscriptTail") => `(tactic| (k_here; (with_reducible show wpAny _ _ (subscriptTail _ (Expr.Slice _ _ none _) (Value.bytes _ _) (Value.ref _)) _ _ _); (with_reducible rename Fr _ _ _ _ => F'); (with_reducible rename News _ _ _ _ => N'); (refine bsliceM_K (s := ⟨_, _, _, _, _⟩) F' N' (by assumption) ?_); intro _ _ _ _ _ kbcK; (try simp only [List.map_cons, List.map_nil] at kbcK); (try dsimp only)))
theorem c_take : ∀ {w : World} {mean : ExcName → Option Value} {mg mb : Str → Option Value} {d : Array UInt8} {at_ n : Int} {l : List UInt8} {td ta tn : Tok} {R D : Addr} {k1 k2 : Tok} {tail : List (Addr × Obj)}
    {cn : Str} {cs : Scope} {a : Addr} {ccd : Value} {cl : List (Str × Addr)} {outer : List Env} {A₀ : Around} {base h₀ : Heap} {L : Addr} {m : Str → Option Value} {s : Shared} {Q E : Value → Shared → Prop}
    (XB : (hd.heap_1 w.params).In base) (B : Below A₀ base outer h₀) (F : Fr h₀ L s.heap m) (X : (hd.heap_1 w.params).In h₀) (N : News h₀ L s.heap ((R, instObj 149 D) :: (D, dictOf [{ hash := PyData.keyHash w.params (Str.ofString "data"), key := .str (Str.ofString "data") k1, val := .bytes d td }, { hash := PyData.keyHash w.params (Str.ofString "at"), key := .str (Str.ofString "at") k2, val := .int at_ ta }] 2) :: tail)) (T : Top hd.view_39 (looseW hd.view_39 [Str.ofString "BOUNDS"]) mean mg mb h₀) (hk : cs.kind = .function) (hRD : @Ne Nat R D) (hR : ∀ p ∈ tail, p.1 ≠ R) (hD : ∀ p ∈ tail, p.1 ≠ D) (hM : Mid d (at_ + n - n) (at_ + n) l) (hn : n ≤ (d.size : Int) - at_) (hz : d.size < 1000)
    (hret : ∀ (t t' : Tok) (h' : Heap) (tk' : Nat), Fr h₀ L h' m → News h₀ L h' ((R, instObj 149 D) :: (D, dictOf [{ hash := PyData.keyHash w.params (Str.ofString "data"), key := .str (Str.ofString "data") k1, val := .bytes d td }, { hash := PyData.keyHash w.params (Str.ofString "at"), key := .str (Str.ofString "at") k2, val := .int (at_ + n) t }] 2) :: tail) → Q (.bytes l.toArray t') { s with heap := h', toks := tk' }),
    wpAny (model PySem.Challenge.rw_pf0267_01.row.prog w) (ktrTop 306 19 (some []) cn cs L a ccd cl outer) (call (.ref 125) [.ref R, .int n tn] []) Q E s := by
  k_fill
  intro w mean mg mb d at_ n l td ta tn R D k1 k2 tail cn cs a ccd cl outer A₀ base h₀ L m s Q E XB B F X N T hk hRD hR hD hM hn hz hret
  refine wpAny_call ?_
  k_dflt (refine' code_def ?k1 ?k2 ?k3 ?k4 ?k5 ?kA ?kF ?kK ?k6 ?k7 ?k8 ?k9 ?kB ?_ ?c2 ?c3 ?c4 ?c5; (case kA => exact rfl); (case kF => exact rfl); (case kK => first | assumption | exact rfl); (case k1 => k_asm); (case k2 => k_asm); (case k3 => k_asm); (case k4 => k_asm); (case k5 => k_asm); (case k6 => k_is); (case k7 => k_is); (case k8 => exact Nat.le_of_ble_eq_true rfl); (case k9 => exact BindsTo.of_eq rfl); (case c5 => decide); (case kB => exact locs rfl); (case c2 => exact rfl); (case c3 => exact rfl); (case c4 => exact rfl); k_whole; intro g' L' h' FG' F' N' B' X' T'; (try dsimp only); (try k_lift B'))
  refine wpAny_noRaise ?_
  (try k_fold)
  k_steps
  exact hret _ _ _ _ (by k_asm) (by first | k_asm | (refine' cb_drop ?cbN ?cbS; (case cbN => assumption); (case cbS => (intro p hp; simp only [List.mem_cons, List.mem_append]; first | exact .inr hp | exact .inr (.inr hp) | exact .inr (.inr (.inr hp)) | exact .inr (.inr (.inr (.inr hp)))))))
local macro_rules | `(tactic| walk_at "call ref") => `(tactic| (k_here; refine Stop.call (by decide) ?_))
theorem c_whole1 : ∀ {w : World} {mean : ExcName → Option Value} {mg mb : Str → Option Value} {d : Array UInt8} {at_ : Int} {c : UInt8} {td ta tn : Tok} {R D : Addr} {k1 k2 : Tok} {tail : List (Addr × Obj)}
    {cn : Str} {cs : Scope} {a : Addr} {ccd : Value} {cl : List (Str × Addr)} {outer : List Env} {A₀ : Around} {base h₀ : Heap} {L : Addr} {m : Str → Option Value} {s : Shared} {Q E : Value → Shared → Prop}
    (XB : (hd.heap_1 w.params).In base) (B : Below A₀ base outer h₀) (F : Fr h₀ L s.heap m) (X : (hd.heap_1 w.params).In h₀) (N : News h₀ L s.heap ((R, instObj 149 D) :: (D, dictOf [{ hash := PyData.keyHash w.params (Str.ofString "data"), key := .str (Str.ofString "data") k1, val := .bytes d td }, { hash := PyData.keyHash w.params (Str.ofString "at"), key := .str (Str.ofString "at") k2, val := .int at_ ta }] 2) :: tail)) (T : Top hd.view_39 (looseW hd.view_39 [Str.ofString "BOUNDS"]) mean mg mb h₀) (hk : cs.kind = .function) (hRD : @Ne Nat R D) (hR : ∀ p ∈ tail, p.1 ≠ R) (hD : ∀ p ∈ tail, p.1 ≠ D) (hA : At d at_ c)
    (hret : ∀ (t t' : Tok) (h' : Heap) (tk' : Nat), Fr h₀ L h' m → News h₀ L h' ((R, instObj 149 D) :: (D, dictOf [{ hash := PyData.keyHash w.params (Str.ofString "data"), key := .str (Str.ofString "data") k1, val := .bytes d td }, { hash := PyData.keyHash w.params (Str.ofString "at"), key := .str (Str.ofString "at") k2, val := .int (at_ + 1) t }] 2) :: tail) → Q (.int (0 * 256 + (c.toNat : Int)) t') { s with heap := h', toks := tk' }),
    wpAny (model PySem.Challenge.rw_pf0267_01.row.prog w) (ktrTop 306 19 (some []) cn cs L a ccd cl outer) (call (.ref 139) [.ref R, .int 1 tn] []) Q E s := by
  k_fill
  intro w mean mg mb d at_ c td ta tn R D k1 k2 tail cn cs a ccd cl outer A₀ base h₀ L m s Q E XB B F X N T hk hRD hR hD hA hret
  refine wpAny_call ?_
  k_dflt (refine' code_def ?k1 ?k2 ?k3 ?k4 ?k5 ?kA ?kF ?kK ?k6 ?k7 ?k8 ?k9 ?kB ?_ ?c2 ?c3 ?c4 ?c5; (case kA => exact rfl); (case kF => exact rfl); (case kK => first | assumption | exact rfl); (case k1 => k_asm); (case k2 => k_asm); (case k3 => k_asm); (case k4 => k_asm); (case k5 => k_asm); (case k6 => k_is); (case k7 => k_is); (case k8 => exact Nat.le_of_ble_eq_true rfl); (case k9 => exact BindsTo.of_eq rfl); (case c5 => decide); (case kB => exact locs rfl); (case c2 => exact rfl); (case c3 => exact rfl); (case c4 => exact rfl); k_whole; intro g' L' h' FG' F' N' B' X' T'; (try dsimp only); (try k_lift B'))
  refine wpAny_noRaise ?_
  (try k_fold)
  k_steps
  unfold Stop
  k_dflt (refine' c_get_whole1 ?XBa ?Ba ?Fa ?Xa ?Na ?Ta ?hka ?hAa ?hreta)
  (case Ba => k_asm)
  (case XBa => k_asm)
  (case Fa => k_asm)
  (case Xa => k_asm)
  (case Na => k_asm)
  (case Ta => k_asm)
  (case hka => first | exact rfl | assumption)
  (case hAa => assumption)
  intro t9 h9 tk9 F9 N9; (try k_sweep); (try dsimp only);  (try k_fold)
  k_steps
  exact hret _ _ _ _ (by k_asm) (by first | k_asm | (refine' cb_drop ?cbN ?cbS; (case cbN => assumption); (case cbS => (intro p hp; simp only [List.mem_cons, List.mem_append]; first | exact .inr hp | exact .inr (.inr hp) | exact .inr (.inr (.inr hp)) | exact .inr (.inr (.inr (.inr hp)))))))
theorem c_whole2 : ∀ {w : World} {mean : ExcName → Option Value} {mg mb : Str → Option Value} {d : Array UInt8} {at_ : Int} {c c2 : UInt8} {td ta tn : Tok} {R D : Addr} {k1 k2 : Tok} {tail : List (Addr × Obj)}
    {cn : Str} {cs : Scope} {a : Addr} {ccd : Value} {cl : List (Str × Addr)} {outer : List Env} {A₀ : Around} {base h₀ : Heap} {L : Addr} {m : Str → Option Value} {s : Shared} {Q E : Value → Shared → Prop}
    (XB : (hd.heap_1 w.params).In base) (B : Below A₀ base outer h₀) (F : Fr h₀ L s.heap m) (X : (hd.heap_1 w.params).In h₀) (N : News h₀ L s.heap ((R, instObj 149 D) :: (D, dictOf [{ hash := PyData.keyHash w.params (Str.ofString "data"), key := .str (Str.ofString "data") k1, val := .bytes d td }, { hash := PyData.keyHash w.params (Str.ofString "at"), key := .str (Str.ofString "at") k2, val := .int at_ ta }] 2) :: tail)) (T : Top hd.view_39 (looseW hd.view_39 [Str.ofString "BOUNDS"]) mean mg mb h₀) (hk : cs.kind = .function) (hRD : @Ne Nat R D) (hR : ∀ p ∈ tail, p.1 ≠ R) (hD : ∀ p ∈ tail, p.1 ≠ D) (hM : Mid d at_ (at_ + 2) [c, c2]) (hlt : at_ + 2 ≤ (d.size : Int))
    (hret : ∀ (x : Int) (t t' : Tok) (h' : Heap) (tk' : Nat), Fr h₀ L h' m → News h₀ L h' ((R, instObj 149 D) :: (D, dictOf [{ hash := PyData.keyHash w.params (Str.ofString "data"), key := .str (Str.ofString "data") k1, val := .bytes d td }, { hash := PyData.keyHash w.params (Str.ofString "at"), key := .str (Str.ofString "at") k2, val := .int (at_ + 2) t }] 2) :: tail) → Q (.int x t') { s with heap := h', toks := tk' }),
    wpAny (model PySem.Challenge.rw_pf0267_01.row.prog w) (ktrTop 306 19 (some []) cn cs L a ccd cl outer) (call (.ref 139) [.ref R, .int 2 tn] []) Q E s := by
  k_fill
  intro w mean mg mb d at_ c c2 td ta tn R D k1 k2 tail cn cs a ccd cl outer A₀ base h₀ L m s Q E XB B F X N T hk hRD hR hD hM hlt hret
  refine wpAny_call ?_
  k_dflt (refine' code_def ?k1 ?k2 ?k3 ?k4 ?k5 ?kA ?kF ?kK ?k6 ?k7 ?k8 ?k9 ?kB ?_ ?c2 ?c3 ?c4 ?c5; (case kA => exact rfl); (case kF => exact rfl); (case kK => first | assumption | exact rfl); (case k1 => k_asm); (case k2 => k_asm); (case k3 => k_asm); (case k4 => k_asm); (case k5 => k_asm); (case k6 => k_is); (case k7 => k_is); (case k8 => exact Nat.le_of_ble_eq_true rfl); (case k9 => exact BindsTo.of_eq rfl); (case c5 => decide); (case kB => exact locs rfl); (case c2 => exact rfl); (case c3 => exact rfl); (case c4 => exact rfl); k_whole; intro g' L' h' FG' F' N' B' X' T'; (try dsimp only); (try k_lift B'))
  refine wpAny_noRaise ?_
  (try k_fold)
  k_steps
  unfold Stop
  k_dflt (refine' c_get_whole2 ?XBa ?Ba ?Fa ?Xa ?Na ?Ta ?hka ?hMa ?hlta ?hreta)
  (case Ba => k_asm)
  (case XBa => k_asm)
  (case Fa => k_asm)
  (case Xa => k_asm)
  (case Na => k_asm)
  (case Ta => k_asm)
  (case hka => first | exact rfl | assumption)
  (case hMa => assumption)
  (case hlta => assumption)
  intro n9 t9 h9 tk9 F9 N9; (try k_sweep); (try dsimp only);  (try k_fold)
  k_steps
  exact hret _ _ _ _ _ (by k_asm) (by first | k_asm | (refine' cb_drop ?cbN ?cbS; (case cbN => assumption); (case cbS => (intro p hp; simp only [List.mem_cons, List.mem_append]; first | exact .inr hp | exact .inr (.inr hp) | exact .inr (.inr (.inr hp)) | exact .inr (.inr (.inr (.inr hp)))))))

end PartNRD

theorem flush23 {M : Model} {A : Around} {env : Env} {Q : Flow → Shared → Prop} {E : Value → Shared → Prop} {s : Shared} (h : wpAny M A (execs [] env) Q E s) : wpAny M A (execs [] env) Q E s := by
  w_top off
  first | (walk1; fail) | exact h

section PartNZ

local macro_rules | `(tactic| walk_at "call ref") => `(tactic| (k_here; refine Stop.call (by decide) ?_))
theorem n_drop {h₀ h : Heap} {L : Addr} {p : Addr × Obj} {l : List (Addr × Obj)} (N : News h₀ L h (p :: l)) : News h₀ L h l := fun q hq => N q (List.mem_cons_of_mem _ hq)
theorem c_read_address : ∀ {w : World} {mean : ExcName → Option Value} {mg mb : Str → Option Value} {td : Tok} {news : List (Addr × Obj)}
    {cn : Str} {cs : Scope} {a : Addr} {ccd : Value} {cl : List (Str × Addr)} {outer : List Env} {A₀ : Around} {base h₀ : Heap} {L : Addr} {m : Str → Option Value} {s : Shared} {Q E : Value → Shared → Prop}
    (XB : (hd.heap_1 w.params).In base) (B : Below A₀ base outer h₀) (F : Fr h₀ L s.heap m) (X : (hd.heap_1 w.params).In h₀) (N : News h₀ L s.heap news) (T : Top hd.view_39 (looseW hd.view_39 [Str.ofString "BOUNDS"]) mean mg mb h₀) (hk : cs.kind = .function) 
    (hret : ∀ (T : Addr) (o : Obj) (h' : Heap) (tk' : Nat), Fr h₀ L h' m → News h₀ L h' ((T, o) :: news) → (∀ p ∈ news, p.1 < T) → o.cls = .type "tuple" → Q (.ref T) { s with heap := h', toks := tk' }),
    wpAny (model PySem.Challenge.rw_pf0267_01.row.prog w) (ktrTop 305 16 (some []) cn cs L a ccd cl outer) (call (.ref 238) [.bytes #[102, 111, 117, 114, 1, 187, 115, 105, 120, 116, 101, 101, 110, 32, 111, 99, 116, 101, 116, 115, 46, 46, 1, 2, 2, 105, 100, 7, 7, 7, 7, 7, 7, 7, 7, 7, 7, 7, 7, 7, 7, 7, 7] td] []) Q E s := by
  k_fill
  intro w mean mg mb td news cn cs a ccd cl outer A₀ base h₀ L m s Q E XB B F X N T hk  hret
  refine wpAny_call ?_
  k_dflt (refine' code_def ?k1 ?k2 ?k3 ?k4 ?k5 ?kA ?kF ?kK ?k6 ?k7 ?k8 ?k9 ?kB ?_ ?c2 ?c3 ?c4 ?c5; (case kA => exact rfl); (case kF => exact rfl); (case kK => first | assumption | exact rfl); (case k1 => k_asm); (case k2 => k_asm); (case k3 => k_asm); (case k4 => k_asm); (case k5 => k_asm); (case k6 => k_is); (case k7 => k_is); (case k8 => exact Nat.le_of_ble_eq_true rfl); (case k9 => exact BindsTo.of_eq rfl); (case c5 => decide); (case kB => exact locs rfl); (case c2 => exact rfl); (case c3 => exact rfl); (case c4 => exact rfl); k_whole; intro g' L' h' FG' F' N' B' X' T'; (try dsimp only); (try k_lift B'))
  refine wpAny_noRaise ?_
  (try k_fold)
  k_steps
  have hRD := Nat.ne_of_gt ‹@LT.lt Nat _ _ _›
  have hD := fun p hp => Nat.ne_of_lt (‹∀ p ∈ news, p.1 < _› p hp)
  have hR := fun p hp => Nat.ne_of_lt (Nat.lt_trans (‹∀ p ∈ news, p.1 < _› p hp) ‹@LT.lt Nat _ _ _›)
  unfold Stop
  k_dflt (refine' c_take ?XBa ?Ba ?Fa ?Xa ?Na ?Ta ?hka ?hRDa ?hRa ?hDa ?hMa ?hna ?hza ?hreta)
  (case Ba => k_asm)
  (case XBa => k_asm)
  (case Fa => k_asm)
  (case Xa => k_asm)
  (case Na => first | k_asm | exact n_drop (by assumption) | exact n_drop (n_drop (by assumption)))
  (case Ta => k_asm)
  (case hka => first | exact rfl | assumption)
  (case hRDa => exact hRD)
  (case hRa => exact hR)
  (case hDa => exact hD)
  (case hMa => exact (⟨[], [1, 187, 115, 105, 120, 116, 101, 101, 110, 32, 111, 99, 116, 101, 116, 115, 46, 46, 1, 2, 2, 105, 100, 7, 7, 7, 7, 7, 7, 7, 7, 7, 7, 7, 7, 7, 7, 7, 7], rfl, rfl, rfl, by decide⟩ : Mid _ _ _ [102, 111, 117, 114]))
  (case hna => decide)
  (case hza => decide)
  intro t1 t2 h9 tk9 F9 N9; (try k_sweep); (try dsimp only);  (try k_fold)
  k_steps
  unfold Stop
  k_dflt (refine' c_whole2 ?XBb ?Bb ?Fb ?Xb ?Nb ?Tb ?hkb ?hRDb ?hRb ?hDb ?hMb ?hltb ?hretb)
  (case Bb => k_asm)
  (case XBb => k_asm)
  (case Fb => k_asm)
  (case Xb => k_asm)
  (case Nb => first | k_asm | exact n_drop (by assumption) | exact n_drop (n_drop (by assumption)))
  (case Tb => k_asm)
  (case hkb => first | exact rfl | assumption)
  (case hRDb => exact hRD)
  (case hRb => exact hR)
  (case hDb => exact hD)
  (case hMb => exact (⟨[102, 111, 117, 114], [115, 105, 120, 116, 101, 101, 110, 32, 111, 99, 116, 101, 116, 115, 46, 46, 1, 2, 2, 105, 100, 7, 7, 7, 7, 7, 7, 7, 7, 7, 7, 7, 7, 7, 7, 7, 7], rfl, rfl, rfl, by decide⟩ : Mid _ _ _ [1, 187]))
  (case hltb => decide)
  intro x9 t1 t2 h9 tk9 F9 N9; (try k_sweep); (try dsimp only);  (try k_fold)
  k_steps
  unfold Stop
  k_dflt (refine' c_take ?XBc ?Bc ?Fc ?Xc ?Nc ?Tc ?hkc ?hRDc ?hRc ?hDc ?hMc ?hnc ?hzc ?hretc)
  (case Bc => k_asm)
  (case XBc => k_asm)
  (case Fc => k_asm)
  (case Xc => k_asm)
  (case Nc => first | k_asm | exact n_drop (by assumption) | exact n_drop (n_drop (by assumption)))
  (case Tc => k_asm)
  (case hkc => first | exact rfl | assumption)
  (case hRDc => exact hRD)
  (case hRc => exact hR)
  (case hDc => exact hD)
  (case hMc => exact (⟨[102, 111, 117, 114, 1, 187], [1, 2, 2, 105, 100, 7, 7, 7, 7, 7, 7, 7, 7, 7, 7, 7, 7, 7, 7, 7, 7], rfl, rfl, rfl, by decide⟩ : Mid _ _ _ [115, 105, 120, 116, 101, 101, 110, 32, 111, 99, 116, 101, 116, 115, 46, 46]))
  (case hnc => decide)
  (case hzc => decide)
  intro t1 t2 h9 tk9 F9 N9; (try k_sweep); (try dsimp only);  (try k_fold)
  k_steps
  unfold Stop
  k_dflt (refine' c_whole2 ?XBd ?Bd ?Fd ?Xd ?Nd ?Td ?hkd ?hRDd ?hRd ?hDd ?hMd ?hltd ?hretd)
  (case Bd => k_asm)
  (case XBd => k_asm)
  (case Fd => k_asm)
  (case Xd => k_asm)
  (case Nd => first | k_asm | exact n_drop (by assumption) | exact n_drop (n_drop (by assumption)))
  (case Td => k_asm)
  (case hkd => first | exact rfl | assumption)
  (case hRDd => exact hRD)
  (case hRd => exact hR)
  (case hDd => exact hD)
  (case hMd => exact (⟨[102, 111, 117, 114, 1, 187, 115, 105, 120, 116, 101, 101, 110, 32, 111, 99, 116, 101, 116, 115, 46, 46], [2, 105, 100, 7, 7, 7, 7, 7, 7, 7, 7, 7, 7, 7, 7, 7, 7, 7, 7], rfl, rfl, rfl, by decide⟩ : Mid _ _ _ [1, 2]))
  (case hltd => decide)
  intro x9 t1 t2 h9 tk9 F9 N9; (try k_sweep); (try dsimp only);  (try k_fold)
  k_steps
  unfold Stop
  k_dflt (refine' c_whole1 ?XBe ?Be ?Fe ?Xe ?Ne ?Te ?hke ?hRDe ?hRe ?hDe ?hAe ?hrete)
  (case Be => k_asm)
  (case XBe => k_asm)
  (case Fe => k_asm)
  (case Xe => k_asm)
  (case Ne => first | k_asm | exact n_drop (by assumption) | exact n_drop (n_drop (by assumption)))
  (case Te => k_asm)
  (case hke => first | exact rfl | assumption)
  (case hRDe => exact hRD)
  (case hRe => exact hR)
  (case hDe => exact hD)
  (case hAe => exact (⟨[102, 111, 117, 114, 1, 187, 115, 105, 120, 116, 101, 101, 110, 32, 111, 99, 116, 101, 116, 115, 46, 46, 1, 2], [105, 100, 7, 7, 7, 7, 7, 7, 7, 7, 7, 7, 7, 7, 7, 7, 7, 7], rfl, rfl, by decide⟩ : At _ _ 2))
  intro t1 t2 h9 tk9 F9 N9; (try k_sweep); (try dsimp only);  (try k_fold)
  k_steps
  unfold Stop
  k_dflt (refine' c_take ?XBf ?Bf ?Ff ?Xf ?Nf ?Tf ?hkf ?hRDf ?hRf ?hDf ?hMf ?hnf ?hzf ?hretf)
  (case Bf => k_asm)
  (case XBf => k_asm)
  (case Ff => k_asm)
  (case Xf => k_asm)
  (case Nf => first | k_asm | exact n_drop (by assumption) | exact n_drop (n_drop (by assumption)))
  (case Tf => k_asm)
  (case hkf => first | exact rfl | assumption)
  (case hRDf => exact hRD)
  (case hRf => exact hR)
  (case hDf => exact hD)
  (case hMf => exact (⟨[102, 111, 117, 114, 1, 187, 115, 105, 120, 116, 101, 101, 110, 32, 111, 99, 116, 101, 116, 115, 46, 46, 1, 2, 2], [7, 7, 7, 7, 7, 7, 7, 7, 7, 7, 7, 7, 7, 7, 7, 7], rfl, rfl, rfl, by decide⟩ : Mid _ _ _ [105, 100]))
  (case hnf => decide)
  (case hzf => decide)
  intro t1 t2 h9 tk9 F9 N9; (try k_sweep); (try dsimp only);  (try k_fold)
  k_steps
  unfold Stop
  k_dflt (refine' c_take ?XBg ?Bg ?Fg ?Xg ?Ng ?Tg ?hkg ?hRDg ?hRg ?hDg ?hMg ?hng ?hzg ?hretg)
  (case Bg => k_asm)
  (case XBg => k_asm)
  (case Fg => k_asm)
  (case Xg => k_asm)
  (case Ng => first | k_asm | exact n_drop (by assumption) | exact n_drop (n_drop (by assumption)))
  (case Tg => k_asm)
  (case hkg => first | exact rfl | assumption)
  (case hRDg => exact hRD)
  (case hRg => exact hR)
  (case hDg => exact hD)
  (case hMg => exact (⟨[102, 111, 117, 114, 1, 187, 115, 105, 120, 116, 101, 101, 110, 32, 111, 99, 116, 101, 116, 115, 46, 46, 1, 2, 2, 105, 100], [], rfl, rfl, rfl, by decide⟩ : Mid _ _ _ [7, 7, 7, 7, 7, 7, 7, 7, 7, 7, 7, 7, 7, 7, 7, 7]))
  (case hng => decide)
  (case hzg => decide)
  intro t1 t2 h9 tk9 F9 N9; (try k_sweep); (try dsimp only);  (try k_fold)
  k_steps
  (with_reducible rename News _ _ _ _ => Nz)
  refine hret _ _ _ _ (by k_asm) (cb_drop Nz (fun p hp => (List.mem_cons.mp hp).elim (fun e => by rw [e]; exact List.mem_cons_self ..) (fun hp => ?_))) ?_ rfl
  · clear Nz
    (repeat (first | exact hp | apply List.mem_cons_of_mem))
  · first
      | assumption
      | exact ktn_ltOf (by first | assumption | exact And.right (by assumption) | exact And.right (And.right (by assumption)) | exact And.right (And.right (And.right (by assumption))) | exact And.right (And.right (And.right (And.right (by assumption)))))

end PartNZ

theorem flush24 {M : Model} {A : Around} {env : Env} {Q : Flow → Shared → Prop} {E : Value → Shared → Prop} {s : Shared} (h : wpAny M A (execs [] env) Q E s) : wpAny M A (execs [] env) Q E s := by
  w_top off
  first | (walk1; fail) | exact h

section PartNR

local macro_rules | `(tactic| walk_at "ite") => `(tactic| (k_here; k_openite; first
  | (refine ite_pos (by first | omega | (simp only [decide_eq_true_eq]; omega)) ?_)
  | (refine ite_neg (by first | omega | (simp only [decide_eq_true_eq]; omega)) ?_)))
local macro_rules | `(tactic| walk_at "subscriptTail") => `(tactic| (k_here; (with_reducible show wpAny _ _ (subscriptTail _ (Expr.Slice _ _ none _) (Value.bytes _ _) (Value.ref _)) _ _ _); (with_reducible rename Fr _ _ _ _ => F'); (with_reducible rename News _ _ _ _ => N'); (refine bsliceM_K (s := ⟨_, _, _, _, _⟩) F' N' (by assumption) ?_); intro _ _ _ _ _ kbcK; (try dsimp only)))

noncomputable def encs : List (UInt8 × List UInt8) → List UInt8
  | [] => []
  | p :: r => p.1 :: (p.2.length.toUInt8 :: (p.2 ++ encs r))
noncomputable def okPs (ps : List (UInt8 × List UInt8)) : Prop := ∀ p ∈ ps, p.1.toNat < 64 ∧ p.2.length < 64
noncomputable abbrev pairO (p : UInt8 × List UInt8) (t1 t2 : Tok) : Obj := { cls := .type "tuple", data := .seq #[.int (p.1.toNat : Int) t1, .bytes p.2.toArray t2] }
noncomputable def PairsIn (tups : List (Addr × Obj)) : List Value → List (UInt8 × List UInt8) → Prop
  | [], [] => True
  | v :: vs, p :: ps => (∃ T t1 t2, v = .ref T ∧ (T, pairO p t1 t2) ∈ tups) ∧ PairsIn tups vs ps
  | _, _ => False
theorem PairsIn.snoc {tups tups' : List (Addr × Obj)} (hs : ∀ q ∈ tups, q ∈ tups') {v : Value} {p : UInt8 × List UInt8} (hv : ∃ T t1 t2, v = .ref T ∧ (T, pairO p t1 t2) ∈ tups') :
    ∀ {vs : List Value} {ps : List (UInt8 × List UInt8)}, PairsIn tups vs ps → PairsIn tups' (vs ++ [v]) (ps ++ [p])
  | [], [], _ => ⟨hv, trivial⟩
  | _ :: _, _ :: _, ⟨⟨T, t1, t2, e, hm⟩, h⟩ => ⟨⟨T, t1, t2, e, hs _ hm⟩, snoc hs hv h⟩
  | [], _ :: _, h => h.elim
  | _ :: _, [], h => h.elim
theorem enc_facts {d : Array UInt8} {pre : List UInt8} {p : UInt8 × List UInt8} {rest : List (UInt8 × List UInt8)} {x : Int} (hd : d.toList = pre ++ encs (p :: rest)) (hx : x = pre.length) (hz : d.size < 1000) (hp : p.2.length < 64) :
    At d x p.1 ∧ At d (x + 1) p.2.length.toUInt8 ∧ Mid d (x + 1 + 1 + (p.2.length.toUInt8.toNat : Int) - (p.2.length.toUInt8.toNat : Int)) (x + 1 + 1 + (p.2.length.toUInt8.toNat : Int)) p.2 ∧ p.2.length.toUInt8.toNat < 64 ∧ (p.2.length.toUInt8.toNat : Int) ≤ d.size - (x + 1 + 1) ∧
    d.toList = (pre ++ p.1 :: p.2.length.toUInt8 :: p.2) ++ encs rest ∧ x + 1 + 1 + (p.2.length.toUInt8.toNat : Int) = ((pre ++ p.1 :: p.2.length.toUInt8 :: p.2).length : Int) ∧ x < d.size := by
  have hl : p.2.length.toUInt8.toNat = p.2.length := by
    show p.2.length % 256 = _
    exact Nat.mod_eq_of_lt (by omega)
  have hs : d.size = pre.length + (p.2.length + (encs rest).length + 1 + 1) := by rw [← Array.length_toList, hd]; simp [encs]
  refine ⟨⟨pre, _, hd, hx, hz⟩, ⟨pre ++ [p.1], p.2 ++ encs rest, by rw [hd]; simp [encs], by simp [hx], hz⟩, ⟨pre ++ [p.1, p.2.length.toUInt8], encs rest, by rw [hd]; simp [encs], by simp [hx]; omega, by simp [hx]; omega, hz⟩, by omega, by omega, by rw [hd]; simp [encs], by simp [hx]; omega, by omega⟩
noncomputable def RPJ (w : World) (d : Array UInt8) (td : Tok) (ps : List (UInt8 × List UInt8)) (news : List (Addr × Obj)) (FD R D : Addr) (k1 k2 : Tok) (cd : Nat) (m₀ : Str → Option Value) (n : Nat) (m₁ : Str → Option Value) (news₁ : List (Addr × Obj)) : Prop :=
  ∃ (numv : Option Value) (pre : List UInt8) (done rest : List (UInt8 × List UInt8)) (vs : List Value) (c : Nat) (tups tail : List (Addr × Obj)) (ta : Tok) (x : Int),
    n = rest.length ∧ ps = done ++ rest ∧ d.toList = pre ++ encs rest ∧ x = pre.length ∧ vs.length ≤ pre.length ∧ m₁ = (fun y => if y = Str.ofString "number" then numv else m₀ y) ∧
    news₁ = (FD, listOf vs.toArray c) :: (R, instObj 149 D) :: (D, dictOf [{ hash := PyData.keyHash w.params (Str.ofString "data"), key := .str (Str.ofString "data") k1, val := .bytes d td }, { hash := PyData.keyHash w.params (Str.ofString "at"), key := .str (Str.ofString "at") k2, val := .int x ta }] cd) :: tail ∧
    tail = tups ++ news ∧ PairsIn tups vs done ∧ (∀ p ∈ tail, p.1 ≠ FD) ∧ (∀ p ∈ tail, p.1 ≠ R) ∧ (∀ p ∈ tail, p.1 ≠ D)
theorem RPJ.start {w : World} {d : Array UInt8} {td : Tok} {ps : List (UInt8 × List UInt8)} {news : List (Addr × Obj)} {FD R D : Addr} {k1 k2 ta : Tok} {cd c : Nat} {m₀ : Str → Option Value} (hd : d.toList = encs ps) (hm : m₀ (Str.ofString "number") = none)
    (h1 : ∀ p ∈ news, p.1 ≠ FD) (h2 : ∀ p ∈ news, p.1 ≠ R) (h3 : ∀ p ∈ news, p.1 ≠ D) :
    RPJ w d td ps news FD R D k1 k2 cd m₀ ps.length m₀ ((FD, listOf #[] c) :: (R, instObj 149 D) :: (D, dictOf [{ hash := PyData.keyHash w.params (Str.ofString "data"), key := .str (Str.ofString "data") k1, val := .bytes d td }, { hash := PyData.keyHash w.params (Str.ofString "at"), key := .str (Str.ofString "at") k2, val := .int 0 ta }] cd) :: news) :=
  ⟨none, [], [], ps, [], c, [], news, ta, 0, rfl, rfl, hd, rfl, Nat.le_refl _, by
    funext y
    by_cases e : y = Str.ofString "number"
    · rw [if_pos e, e, hm]
    · rw [if_neg e], rfl, rfl, trivial, h1, h2, h3⟩
theorem RPJ.step {w : World} {d : Array UInt8} {td : Tok} {ps done rest : List (UInt8 × List UInt8)} {p : UInt8 × List UInt8} {news tups tail : List (Addr × Obj)} {FD R D DD T8 T9 : Addr} {o8 o9 : Obj} {k1 k2 ta t1 t2 : Tok} {cd c : Nat} {m₀ m' : Str → Option Value} {nv : Option Value}
    {g h' : Heap} {L : Addr} {s₁ : Shared} {tk : Nat} {x' : Int} {pre' : List UInt8} {vs : List Value} {k : Nat}
    (F : Fr g L h' m')
    (N : News g L h' ((DD, { cls := .type "tuple", data := .seq #[.int (p.1.toNat : Int) t1, .bytes p.2.toArray t2] }) :: (T8, o8) :: (T9, o9) :: (FD, listOf (vs.toArray.push (.ref DD)) c) :: (R, instObj 149 D) :: (D, dictOf [{ hash := PyData.keyHash w.params (Str.ofString "data"), key := .str (Str.ofString "data") k1, val := .bytes d td }, { hash := PyData.keyHash w.params (Str.ofString "at"), key := .str (Str.ofString "at") k2, val := .int x' ta }] cd) :: tail))
    (l : T8 < DD ∧ T9 < DD ∧ FD < DD ∧ R < DD ∧ D < DD ∧ AllLt DD tail)
    (hm : m' = fun y => if y = Str.ofString "number" then nv else m₀ y)
    (hps : ps = done ++ p :: rest) (hd : d.toList = pre' ++ encs rest) (hx : x' = pre'.length) (hv : vs.length + 1 ≤ pre'.length) (hk : rest.length < k)
    (ht : tail = tups ++ news) (hpi : PairsIn tups vs done) (h1 : ∀ p ∈ tail, p.1 ≠ FD) (h2 : ∀ p ∈ tail, p.1 ≠ R) (h3 : ∀ p ∈ tail, p.1 ≠ D) :
    WhileStep g L s₁ (RPJ w d td ps news FD R D k1 k2 cd m₀) k .next { s₁ with heap := h', toks := tk } := by
  subst hm
  refine WhileStep.intro (n' := rest.length) (news₂ := (FD, listOf (vs ++ [Value.ref DD]).toArray c) :: (R, instObj 149 D) :: (D, dictOf [{ hash := PyData.keyHash w.params (Str.ofString "data"), key := .str (Str.ofString "data") k1, val := .bytes d td }, { hash := PyData.keyHash w.params (Str.ofString "at"), key := .str (Str.ofString "at") k2, val := .int x' ta }] cd) :: (DD, pairO p t1 t2) :: tail) F (fun q hq => N q ?_) hk
    ⟨nv, pre', done ++ [p], rest, vs ++ [Value.ref DD], c, (DD, pairO p t1 t2) :: tups, (DD, pairO p t1 t2) :: tail, ta, x', rfl, by rw [hps]; simp, hd, hx, by simpa using hv, rfl, rfl, by rw [ht]; rfl, hpi.snoc (fun q hq => List.mem_cons_of_mem _ hq) ⟨DD, t1, t2, rfl, List.mem_cons_self ..⟩, ?_, ?_, ?_⟩
  · have e : (vs ++ [Value.ref DD]).toArray = vs.toArray.push (.ref DD) := by simp
    rw [e] at hq
    simp only [List.mem_cons] at hq ⊢
    rcases hq with h | h | h | h | h
    · exact .inr (.inr (.inr (.inl h)))
    · exact .inr (.inr (.inr (.inr (.inl h))))
    · exact .inr (.inr (.inr (.inr (.inr (.inl h)))))
    · exact .inl h
    · exact .inr (.inr (.inr (.inr (.inr (.inr h)))))
  · intro q hq
    rcases List.mem_cons.mp hq with rfl | hq
    · exact Nat.ne_of_gt l.2.2.1
    · exact h1 q hq
  · intro q hq
    rcases List.mem_cons.mp hq with rfl | hq
    · exact Nat.ne_of_gt l.2.2.2.1
    · exact h2 q hq
  · intro q hq
    rcases List.mem_cons.mp hq with rfl | hq
    · exact Nat.ne_of_gt l.2.2.2.2.1
    · exact h3 q hq
local macro_rules | `(tactic| walk_at "call ref") => `(tactic| (k_here; (with_reducible show wpAny _ _ (call (Value.ref 97) _ _) _ _ _); refine Stop.mk ?_))

local macro_rules | `(tactic| walk_at "exec While Compare cons nil") => `(tactic| (k_here; refine Stop.mk ?_))
theorem c_read_pairs : ∀ {w : World} {mean : ExcName → Option Value} {mg mb : Str → Option Value} {ps : List (UInt8 × List UInt8)} {d : Array UInt8} {td : Tok} {news : List (Addr × Obj)}
    {cn : Str} {cs : Scope} {a : Addr} {ccd : Value} {cl : List (Str × Addr)} {outer : List Env} {A₀ : Around} {base h₀ : Heap} {L : Addr} {m : Str → Option Value} {s : Shared} {Q E : Value → Shared → Prop}
    (XB : (hd.heap_1 w.params).In base) (B : Below A₀ base outer h₀) (F : Fr h₀ L s.heap m) (X : (hd.heap_1 w.params).In h₀) (N : News h₀ L s.heap news) (T : Top hd.view_39 (looseW hd.view_39 [Str.ofString "BOUNDS"]) mean mg mb h₀) (hk : cs.kind = .function) (hd : d.toList = encs ps) (hp : okPs ps) (hz : d.size < 1000)
    (hret : ∀ (FD : Addr) (vs : List Value) (c : Nat) (tups : List (Addr × Obj)) (h' : Heap) (tk' : Nat), Fr h₀ L h' m → News h₀ L h' ((FD, listOf vs.toArray c) :: (tups ++ news)) → PairsIn tups vs ps → (∀ p ∈ tups ++ news, p.1 ≠ FD) → Q (.ref FD) { s with heap := h', toks := tk' }),
    wpAny (model PySem.Challenge.rw_pf0267_01.row.prog w) (ktrTop 304 13 (some []) cn cs L a ccd cl outer) (call (.ref 252) [.bytes d td] []) Q E s := by
  k_fill
  intro w mean mg mb ps d td news cn cs a ccd cl outer A₀ base h₀ L m s Q E XB B F X N T hk hd hp hz hret
  refine wpAny_call ?_
  k_dflt (refine' code_def ?k1 ?k2 ?k3 ?k4 ?k5 ?kA ?kF ?kK ?k6 ?k7 ?k8 ?k9 ?kB ?_ ?c2 ?c3 ?c4 ?c5; (case kA => exact rfl); (case kF => exact rfl); (case kK => assumption); (case k1 => k_asm); (case k2 => k_asm); (case k3 => k_asm); (case k4 => k_asm); (case k5 => k_asm); (case k6 => k_is); (case k7 => k_is); (case k8 => exact Nat.le_of_ble_eq_true rfl); (case k9 => exact BindsTo.of_eq rfl); (case c5 => decide); (case kB => exact locs rfl); (case c2 => exact rfl); (case c3 => exact rfl); (case c4 => exact rfl); k_whole; intro g' L' h' FG' F' N' B' X' T'; (try dsimp only); (try k_lift B'))
  refine wpAny_noRaise ?_
  (try k_fold)
  k_steps
  unfold Stop
  (with_reducible rename Fr _ _ _ _ => F9); (with_reducible rename News _ _ _ _ => N9)
  have N8 := fun p hp => N9 p (List.mem_cons_of_mem _ hp)
  refine' While_inv (J := RPJ w d td ps news ?FD ?R ?D ?k1 ?k2 ?cd ?m0) F9 N8 (RPJ.start hd rfl ?a ?b ?c) ?turn ?hE
  case a => k_all
  case b => exact fun p hp => Nat.ne_of_lt (Nat.lt_trans (‹∀ p ∈ news, p.1 < _› p hp) ‹_ < _›)
  case c => exact fun p hp => Nat.ne_of_lt (‹∀ p ∈ news, p.1 < _› p hp)
  case hE => first | passes_own | with_unfolding_all passes_own
  clear N9 F9 N8
  rintro n m₁ news₁ h₁ tk₁ F₁ N₁ ⟨numv, pre, done, rest, vs, c, tups, tail, ta, x, rfl, hps, hd', hx, hvs, rfl, rfl, htail, hpi, hoF, hoR, hoD⟩
  cases rest with
  | nil =>
    have hsz : (d.size : Int) = x := by rw [hx, ← Array.length_toList, hd']; simp [encs]
    k_steps
    exact hret _ vs c tups _ _ (by k_asm) (fun p hp => (by assumption : News h₀ _ _ _) p (by subst htail; rcases List.mem_cons.mp hp with rfl | hp <;> simp_all)) (by rw [hps, List.append_nil]; exact hpi) (by rw [← htail]; exact hoF)
  | cons p rest =>
    obtain ⟨hA1, hA2, hM, hlen, hfit, hd2, hx2, hlt⟩ := enc_facts hd' hx hz (hp p (by rw [hps]; simp)).2
    have hp1 := (hp p (by rw [hps]; simp)).1
    k_steps
    unfold Stop
    k_dflt (refine' c_get_varint ?XBa ?Ba ?Fa ?Xa ?Na ?Ta ?hka ?hAa ?hca ?hreta)
    (case Ba => k_asm)
    (case XBa => k_asm)
    (case Fa => k_asm)
    (case Xa => k_asm)
    (case Na => k_asm)
    (case Ta => k_asm)
    (case hka => first | exact rfl | assumption)
    (case hAa => assumption)
    (case hca => first | assumption | omega)
    intro T9 t1 t2 h9 tk9 F9 N9 l9; (try k_sweep); (try dsimp only); (try k_lt l9); (try k_fold)

    k_steps
    unfold Stop
    k_dflt (refine' c_get_varint ?XBb ?Bb ?Fb ?Xb ?Nb ?Tb ?hkb ?hAb ?hcb ?hretb)
    (case Bb => k_asm)
    (case XBb => k_asm)
    (case Fb => k_asm)
    (case Xb => k_asm)
    (case Nb => k_asm)
    (case Tb => k_asm)
    (case hkb => first | exact rfl | assumption)
    (case hAb => assumption)
    (case hcb => first | assumption | omega)
    intro T8 t3 t4 h8 tk8 F8 N8 l8; (try k_sweep); (try dsimp only); (try k_lt l8); (try k_fold)

    k_steps
    have hv2 : vs.length + 1 ≤ (pre ++ p.1 :: p.2.length.toUInt8 :: p.2).length := by simp only [List.length_append, List.length_cons]; omega
    refine' RPJ.step (p := p) (nv := some (Value.int (p.1.toNat : Int) t1)) (done := done) (rest := rest) (pre' := pre ++ p.1 :: p.2.length.toUInt8 :: p.2) (vs := vs) (tups := tups) (tail := tail) ?Fz ?Nz ?lz ?hmz hps hd2 ?hxz hv2 (Nat.lt_succ_self _) htail hpi hoF hoR hoD
    case Fz => k_asm
    case Nz => (with_reducible rename News _ _ _ _ => Nz); exact Nz
    case lz => assumption
    case hxz => exact hx2
    case hmz =>
      funext y
      by_cases e : y = Str.ofString "number"
      · simp only [e, if_true]
      · simp only [e, if_false]

end PartNR

theorem flush25 {M : Model} {A : Around} {env : Env} {Q : Flow → Shared → Prop} {E : Value → Shared → Prop} {s : Shared} (h : wpAny M A (execs [] env) Q E s) : wpAny M A (execs [] env) Q E s := by
  w_top off
  first | (walk1; fail) | exact h

section PartNA

local macro_rules | `(tactic| walk_at "exec Assign cons ListComp") => `(tactic| (k_here; k_dflt (refine asg_comp_tup (by k_asm) (by rfl) (by with_unfolding_all rfl) (by rfl) (by decide) (by rfl) (by decide) (by rfl) (by rfl) (by rfl) (by intro _; rfl) (by rfl) ?_)))
local macro_rules | `(tactic| walk_at "CompEnd") => `(tactic| (refine LCg.CompEnd.intro (by assumption) (by assumption) _ (fun p hp => List.mem_cons_of_mem _ hp) (by first | lcg_off | assumption | (simp only [LCg.Off3, and_true]; assumption)) ⟨by k_mem, rfl, _, rfl⟩ ?_))

theorem mk_bytes {prog : Program} {w : World} {A : Around} {E : Value → Shared → Prop} {s : Shared} {h₀ : Heap} {L D : Addr} {m : Str → Option Value} {news : List (Addr × Obj)} {Q : Value → Shared → Prop} {vs : Array Value} {k : Nat} (ns : List Int)
    (F : Fr h₀ L s.heap m) (N : News h₀ L s.heap news) (hh : A.handled = none) (hm : (D, listOf vs k) ∈ news) (hi : IntsAre vs.toList ns) (hr : ∀ n ∈ ns, 0 ≤ n ∧ n < 256) (hn : ns.length ≤ 16777216)
    (h : ∀ h' t' k, Fr h₀ L h' m → News h₀ L h' news → Q (.bytes (byteArr ns) t') { s with heap := h', toks := k }) : wpAny (model prog w) A (call (.type "bytes") [.ref D]) Q E s :=
  KBa.make_K (vs := vs.toList) F N hh (by rw [Array.toArray_toList]; exact ⟨_, (N _ hm).1, rfl, k, rfl⟩) hi hr hn fun h' t' k' F' N' _ => h h' t' k' F' N'
theorem two_ints {a b a' b' : Int} {t u : Tok} (ha : a = a') (hb : b = b') : IntsAre [.int a t, .int b u] [a', b'] := by subst ha hb; exact .cons _ _ (.cons _ _ .nil)
theorem one_int {a a' : Int} {t : Tok} (ha : a = a') : IntsAre [.int a t] [a'] := by subst ha; exact .cons _ _ .nil
local macro_rules | `(tactic| walk_at "call type:bytes") => `(tactic| (k_here; (with_reducible show wpAny _ _ (call (Value.type "bytes") [Value.ref _]) _ _ _); k_dflt (first
  | refine mk_bytes [1, 187] (by k_asm) (by k_asm) (by rfl) (by k_mem) (two_ints (by decide) (by decide)) (by decide) (by decide) ?_
  | refine mk_bytes [1, 2] (by k_asm) (by k_asm) (by rfl) (by k_mem) (two_ints (by decide) (by decide)) (by decide) (by decide) ?_
  | refine mk_bytes [2] (by k_asm) (by k_asm) (by rfl) (by k_mem) (one_int (by rfl)) (by decide) (by decide) ?_); intro _ _ _ F' N'; (try k_sweep)))

noncomputable abbrev adrO (t1 t2 t3 t4 t5 t6 : Tok) : Obj := { cls := .type "tuple", data := .seq #[.bytes #[102, 111, 117, 114] t1, .int 443 t2, .bytes #[115, 105, 120, 116, 101, 101, 110, 32, 111, 99, 116, 101, 116, 115, 46, 46] t3, .int 258 t4, .bytes #[105, 100] t5, .bytes #[7, 7, 7, 7, 7, 7, 7, 7, 7, 7, 7, 7, 7, 7, 7, 7] t6] }
noncomputable def adr43 : Array UInt8 := #[102, 111, 117, 114, 1, 187, 115, 105, 120, 116, 101, 101, 110, 32, 111, 99, 116, 101, 116, 115, 46, 46, 1, 2, 2, 105, 100, 7, 7, 7, 7, 7, 7, 7, 7, 7, 7, 7, 7, 7, 7, 7, 7]
theorem c_put_address : ∀ {w : World} {mean : ExcName → Option Value} {mg mb : Str → Option Value} {ad : Addr} {t1 t2 t3 t4 t5 t6 : Tok} {news : List (Addr × Obj)}
    {cn : Str} {cs : Scope} {a : Addr} {ccd : Value} {cl : List (Str × Addr)} {outer : List Env} {A₀ : Around} {base h₀ : Heap} {L : Addr} {m : Str → Option Value} {s : Shared} {Q E : Value → Shared → Prop}
    (XB : (hd.heap_1 w.params).In base) (B : Below A₀ base outer h₀) (F : Fr h₀ L s.heap m) (X : (hd.heap_1 w.params).In h₀) (N : News h₀ L s.heap news) (T : Top hd.view_39 (looseW hd.view_39 [Str.ofString "BOUNDS"]) mean mg mb h₀) (hk : cs.kind = .function) (hm : (ad, adrO t1 t2 t3 t4 t5 t6) ∈ news)
    (hret : ∀ (t : Tok) (h' : Heap) (tk' : Nat), Fr h₀ L h' m → News h₀ L h' news → Q (.bytes adr43 t) { s with heap := h', toks := tk' }),
    wpAny (model PySem.Challenge.rw_pf0267_01.row.prog w) (ktrTop 305 16 (some []) cn cs L a ccd cl outer) (call (.ref 210) [.ref ad] []) Q E s := by
  k_fill
  intro w mean mg mb ad t1 t2 t3 t4 t5 t6 news cn cs a ccd cl outer A₀ base h₀ L m s Q E XB B F X N T hk hm hret
  have hT : IsTup s.heap ad #[.bytes #[102, 111, 117, 114] t1, .int 443 t2, .bytes #[115, 105, 120, 116, 101, 101, 110, 32, 111, 99, 116, 101, 116, 115, 46, 46] t3, .int 258 t4, .bytes #[105, 100] t5, .bytes #[7, 7, 7, 7, 7, 7, 7, 7, 7, 7, 7, 7, 7, 7, 7, 7] t6] := ⟨_, (N _ hm).1, rfl, _, rfl⟩
  refine wpAny_call ?_
  k_dflt (refine' code_def ?k1 ?k2 ?k3 ?k4 ?k5 ?kA ?kF ?kK ?k6 ?k7 ?k8 ?k9 ?kB ?_ ?c2 ?c3 ?c4 ?c5; (case kA => exact rfl); (case kF => exact rfl); (case kK => assumption); (case k1 => k_asm); (case k2 => k_asm); (case k3 => k_asm); (case k4 => k_asm); (case k5 => k_asm); (case k6 => k_is); (case k7 => k_is); (case k8 => exact Nat.le_of_ble_eq_true rfl); (case k9 => exact BindsTo.of_eq rfl); (case c5 => decide); (case kB => exact locs rfl); (case c2 => exact rfl); (case c3 => exact rfl); (case c4 => exact rfl); k_whole; intro g' L' h' FG' F' N' B' X' T'; (try dsimp only); (try k_lift B'))
  refine wpAny_noRaise ?_
  (try k_fold)
  k_steps
  refine' TupSrc.intro (by k_asm) ?N1 ?m1 ?z1 (fun g => ?_)
  case N1 => k_asm
  case m1 => k_mem
  case z1 => exact Nat.le_of_ble_eq_true rfl
  k_steps
  exact hret _ _ _ (by k_asm) (by first | k_asm | (refine' cb_drop ?cbN ?cbS; (case cbN => assumption); (case cbS => (intro p hp; simp only [List.mem_cons, List.mem_append]; first | exact .inr hp | exact .inr (.inr hp) | exact .inr (.inr (.inr hp)) | exact .inr (.inr (.inr (.inr hp)))))))

end PartNA

theorem flush26 {M : Model} {A : Around} {env : Env} {Q : Flow → Shared → Prop} {E : Value → Shared → Prop} {s : Shared} (h : wpAny M A (execs [] env) Q E s) : wpAny M A (execs [] env) Q E s := by
  w_top off
  first | (walk1; fail) | exact h

section Group6
local macro_rules | `(tactic| walk_at "compareOp In str ref") => `(tactic| (k_here; k_dflt (refine' kda_in (knd := PySem.strKind _ _) ?N ?hm ?ho ?lo (strKind_is _ _ _ _) _ ?hb ?_; (case hb => assumption); (case N => k_asm); (case hm => first | assumption | exact List.mem_cons_of_mem _ (by assumption)); (case ho => assumption); (case lo => assumption))))
local macro_rules | `(tactic| walk_at "getMethod ref") => `(tactic| (k_here; (with_reducible show wpAny _ _ (getMethod (Value.ref _) (PySem.Str.ofString "get") _) _ _ _); k_dflt (refine' kdg_method (knd := PySem.strKind _ _) ?N ?hm ?ho ?_; (case N => k_asm); (case hm => first | assumption | exact List.mem_cons_of_mem _ (by assumption)); (case ho => assumption))))
local macro_rules | `(tactic| walk_at "call builtin:dict.get") => `(tactic| (k_here; k_dflt (refine' kdg_get2 (knd := PySem.strKind _ _) ?N ?hm ?ho ?lo (strKind_is _ _ _ _) none ?hl ?_; (case N => k_asm); (case hm => first | assumption | exact List.mem_cons_of_mem _ (by assumption)); (case ho => assumption); (case lo => assumption); (case hl => assumption))))
local macro_rules | `(tactic| walk_at "binaryOp Add bytes bytes") => `(tactic| (k_here; refine KBy.add_bytes (by (simp only [Array.size_append, List.size_toArray, List.length_cons, List.length_nil]; first | omega | (rw [sizeLine_eq]; omega))) ?_; intro _ _))
local macro_rules | `(tactic| walk_at "subscriptTail") => `(tactic| (k_here; (with_reducible show wpAny _ _ (subscriptTail _ _ (Value.ref _) (Value.str _ _)) _ _ _); k_dflt (refine' kda_item (knd := PySem.strKind _ _) ?N ?hm ?ho (strKind_is _ _ _ _) ?hl ?_; (case N => k_asm); (case hm => first | assumption | exact List.mem_cons_of_mem _ (by assumption)); (case ho => assumption); (case hl => assumption))))
section PartNQ

structure RowD where
  a : Addr
  n : Nat
  name : Str
  kind : Str
  t : Tok
noncomputable def rowsD : List RowD := [⟨154, 0, Str.ofString "original_destination_connection_id", Str.ofString "id", 389⟩, ⟨155, 1, Str.ofString "max_idle_timeout", Str.ofString "number", 392⟩, ⟨156, 2, Str.ofString "stateless_reset_token", Str.ofString "token", 395⟩, ⟨157, 3, Str.ofString "max_udp_payload_size", Str.ofString "number", 398⟩, ⟨158, 4, Str.ofString "initial_max_data", Str.ofString "number", 401⟩, ⟨159, 5, Str.ofString "initial_max_stream_data_bidi_local", Str.ofString "number", 404⟩, ⟨160, 6, Str.ofString "initial_max_stream_data_bidi_remote", Str.ofString "number", 407⟩, ⟨161, 7, Str.ofString "initial_max_stream_data_uni", Str.ofString "number", 410⟩, ⟨162, 8, Str.ofString "initial_max_streams_bidi", Str.ofString "number", 413⟩, ⟨163, 9, Str.ofString "initial_max_streams_uni", Str.ofString "number", 416⟩, ⟨164, 10, Str.ofString "ack_delay_exponent", Str.ofString "number", 419⟩, ⟨165, 11, Str.ofString "max_ack_delay", Str.ofString "number", 422⟩, ⟨166, 12, Str.ofString "disable_active_migration", Str.ofString "flag", 425⟩, ⟨167, 13, Str.ofString "preferred_address", Str.ofString "address", 428⟩, ⟨168, 14, Str.ofString "active_connection_id_limit", Str.ofString "number", 431⟩, ⟨169, 15, Str.ofString "initial_source_connection_id", Str.ofString "id", 434⟩, ⟨170, 16, Str.ofString "retry_source_connection_id", Str.ofString "id", 437⟩]

/-- what the told dict holds for a row -/
noncomputable def RowOk (kvs : List (Str × Value)) (news : List (Addr × Obj)) (val : Str → Option (List UInt8)) (r : RowD) : Prop :=
  match val r.name with
  | none => valueAt kvs r.name = none
  | some v => v.length < 64 ∧ ((r.kind = Str.ofString "id" ∧ ∃ t, valueAt kvs r.name = some (.bytes v.toArray t)) ∨
      (r.kind = Str.ofString "address" ∧ v = adr43.toList ∧ ∃ ad t1 t2 t3 t4 t5 t6, valueAt kvs r.name = some (.ref ad) ∧ (ad, adrO t1 t2 t3 t4 t5 t6) ∈ news))
noncomputable def pairsD (val : Str → Option (List UInt8)) : List RowD → List (UInt8 × List UInt8)
  | [] => []
  | r :: rs => match val r.name with
    | none => pairsD val rs
    | some v => (r.n.toUInt8, v) :: pairsD val rs
noncomputable def PPJ (val : Str → Option (List UInt8)) (rows₀ : List RowD) (m₀ : Str → Option Value) (news₀ : List (Addr × Obj)) (rows : List RowD) (m : Str → Option Value) (news : List (Addr × Obj)) : Prop :=
  ∃ (acc : Array UInt8) (ta : Tok) (x1 x2 x3 x4 : Option Value), news = news₀ ∧ (∀ r ∈ rows, r ∈ rows₀) ∧ acc.toList ++ encs (pairsD val rows) = encs (pairsD val rows₀) ∧ acc.size + 66 * rows.length ≤ 66 * rows₀.length ∧
    m = fun y => if y = Str.ofString "number" then x1 else if y = Str.ofString "name" then x2 else if y = Str.ofString "kind" then x3 else if y = Str.ofString "value" then x4 else if y = Str.ofString "found" then some (.bytes acc ta) else m₀ y
theorem PPJ.start {val : Str → Option (List UInt8)} {rows : List RowD} {m : Str → Option Value} {news : List (Addr × Obj)} {ta : Tok} (hf : m (Str.ofString "found") = some (.bytes #[] ta)) : PPJ val rows m news rows m news :=
  ⟨#[], ta, m (Str.ofString "number"), m (Str.ofString "name"), m (Str.ofString "kind"), m (Str.ofString "value"), rfl, fun _ h => h, rfl, by simp, by
    funext y
    by_cases e1 : y = Str.ofString "number"
    · rw [if_pos e1, e1]
    rw [if_neg e1]
    by_cases e2 : y = Str.ofString "name"
    · rw [if_pos e2, e2]
    rw [if_neg e2]
    by_cases e3 : y = Str.ofString "kind"
    · rw [if_pos e3, e3]
    rw [if_neg e3]
    by_cases e4 : y = Str.ofString "value"
    · rw [if_pos e4, e4]
    rw [if_neg e4]
    by_cases e5 : y = Str.ofString "found"
    · rw [if_pos e5, e5, hf]
    rw [if_neg e5]⟩
local macro_rules | `(tactic| walk_at "call ref") => `(tactic| (k_here; refine Stop.call (by decide) ?_))

theorem c_put_params : ∀ {w : World} {mean : ExcName → Option Value} {mg mb : Str → Option Value} {dc : Addr} {o : Obj} {kvs : List (Str × Value)} {val : Str → Option (List UInt8)} {news : List (Addr × Obj)}
    {cn : Str} {cs : Scope} {a : Addr} {ccd : Value} {cl : List (Str × Addr)} {outer : List Env} {A₀ : Around} {base h₀ : Heap} {L : Addr} {m : Str → Option Value} {s : Shared} {Q E : Value → Shared → Prop}
    (XB : (hd.heap_1 w.params).In base) (B : Below A₀ base outer h₀) (F : Fr h₀ L s.heap m) (X : (hd.heap_1 w.params).In h₀) (N : News h₀ L s.heap news) (T : Top hd.view_39 (looseW hd.view_39 [Str.ofString "BOUNDS"]) mean mg mb h₀) (hk : cs.kind = .function) (hm : (dc, o) ∈ news) (ho : o.IsDictOf (strKind PySem.Challenge.rw_pf0267_01.row.prog w) kvs) (lo : (dc == sysModules) = false) (hr : ∀ r ∈ rowsD, RowOk kvs news val r) (hu : valueAt kvs (Str.ofString "unknown") = none)
    (hret : ∀ (d : Array UInt8) (t : Tok) (h' : Heap) (tk' : Nat), d.toList = encs (pairsD val rowsD) → Fr h₀ L h' m → News h₀ L h' news → Q (.bytes d t) { s with heap := h', toks := tk' }),
    wpN (model PySem.Challenge.rw_pf0267_01.row.prog w) (ktrTop 303 10 (some []) cn cs L a ccd cl outer) (call (.ref 224) [.ref dc] []) Q E s := by
  k_fill
  intro w mean mg mb dc o kvs val news cn cs a ccd cl outer A₀ base h₀ L m s Q E XB B F X N T hk hm ho lo hr hu hret
  refine n_call ?_
  k_dflt (refine' code_defN ?k1 ?k2 ?k3 ?k4 ?k5 ?kA ?kF ?kK ?k6 ?k7 ?k8 ?k9 ?kB ?_ ?c2 ?c3 ?c4 ?c5; (case kA => exact rfl); (case kF => exact rfl); (case kK => assumption); (case k1 => k_asm); (case k2 => k_asm); (case k3 => k_asm); (case k4 => k_asm); (case k5 => k_asm); (case k6 => k_is); (case k7 => k_is); (case k8 => exact Nat.le_of_ble_eq_true rfl); (case k9 => exact BindsTo.of_eq rfl); (case c5 => decide); (case kB => exact locs rfl); (case c2 => exact rfl); (case c3 => exact rfl); (case c4 => exact rfl); k_whole; intro g' L' h' FG' F' N' B' X' T'; (try dsimp only); (try k_lift B'))
  refine n_noRaise ?_
  refine n_execs_any ?_
  (try k_fold)
  k_steps
  have hrows : ∀ r ∈ rowsD, IsTup g' r.a #[.int (r.n : Int) r.t, .str r.name (r.t + 1), .str r.kind (r.t + 2)] := by
    intro r hr
    simp only [rowsD, List.mem_cons, List.not_mem_nil, or_false] at hr
    rcases hr with rfl | rfl | rfl | rfl | rfl | rfl | rfl | rfl | rfl | rfl | rfl | rfl | rfl | rfl | rfl | rfl | rfl <;> exact tupK (l := [.int _ _, .str _ _, .str _ _]) X' (by k_is)
  have h64 : ∀ r ∈ rowsD, r.n < 64 := by decide
  have h171 : IsTup g' 171 (rowsD.map (fun r => Value.ref r.a)).toArray := tupK (l := rowsD.map (fun r => Value.ref r.a)) X' (by k_is)
  refine n_execs_cons (n_For (n_any ?_))
  (try k_fold)
  k_steps
  (with_reducible rename Fr _ _ _ _ => F9); (with_reducible rename News _ _ _ _ => N9)
  refine n_tupL (items := (rowsD.map (fun r => Value.ref r.a)).toArray) rfl h171 F9 N9 (fun I lI => ?_)
  replace lI := allLt_of lI
  rw [List.toList_toArray]
  refine NRest_ind (fun r : RowD => Value.ref r.a) (PPJ val rowsD _ news) ?done ?turn rowsD _ _ (PPJ.start rfl)
  case turn =>
    clear N9 F9
    rintro r rs m₁ news₁ ⟨acc, ta, x1, x2, x3, x4, hn, hsub, henc, hsz, hm1⟩ it h tk hic F₁ N₁
    subst hn hm1
    have hrr := hsub r (List.mem_cons_self ..)
    have ht := hrows r hrr
    have hok := hr r hrr
    have hrn := h64 r hrr
    have hlen : rowsD.length = 17 := rfl
    simp only [List.length_cons] at hsz
    obtain ⟨ra, rn, rname, rkind, rt⟩ := r
    dsimp only at *
    unfold RowOk at hok
    cases hv : val rname with
    | none =>
      simp only [hv] at hok
      have hb : (valueAt kvs rname).isSome = false := by rw [hok]; rfl
      k_steps
      refine n_execs_cons (n_If (n_any ?_))
      (try k_fold)
      k_steps
      refine n_execs_nil (n_execs_nil ?_)
      (with_reducible rename Fr _ _ _ _ => F8); (with_reducible rename News _ _ _ _ => N8)
      refine UnrEnd.intro F8 N8 news₁ (fun p hp => hp) (allLt_ne lI) ⟨trivial, acc, ta, some (.int (rn : Int) rt), some (.str rname (rt + 1)), some (.str rkind (rt + 2)), x4, rfl, fun q hq => hsub q (List.mem_cons_of_mem _ hq), ?_, ?_, ?_⟩
      · rw [← henc]; simp only [pairsD, hv]
      · omega
      funext y
      by_cases e1 : y = Str.ofString "number"
      · rw [e1]; rfl
      by_cases e2 : y = Str.ofString "name"
      · rw [e2]; rfl
      by_cases e3 : y = Str.ofString "kind"
      · rw [e3]; rfl
      by_cases e4 : y = Str.ofString "value"
      · rw [e4]; rfl
      by_cases e5 : y = Str.ofString "found"
      · rw [e5]; rfl
      simp only [e1, e2, e3, e4, e5, if_false]
    | some v =>
      simp only [hv] at hok
      obtain ⟨hvl, hok⟩ := hok
      rcases hok with ⟨hkind, tv, hval⟩ | ⟨hkind, hv43, ad, t1, t2, t3, t4, t5, t6, hval, had⟩
      · subst hkind
        have hb : (valueAt kvs rname).isSome = true := by rw [hval]; rfl
        k_steps
        refine n_execs_cons (n_If (n_any ?_))
        (try k_fold)
        k_steps
        refine n_execs_any ?_
        (try k_fold)
        k_steps
        refine n_execs_cons (n_Assign_Name (n_BinOp (n_BinOp (n_BinOp (n_any ?_)))))
        (try k_fold)
        k_steps
        refine n_Call ?_
        (try k_fold)
        k_steps
        refine n_callWith_def (K := hd.heap_1 w.params) (by k_is) (by decide) (n_any ?_)
        (try k_fold)
        k_steps
        refine' c_put_varint ?XBa1 ?Ba1 ?Fa1 ?Xa1 ?Na1 ?Ta1 ?hka1 ?hn0a1 ?hn1a1 ?hreta1
        (case Ba1 => k_asm)
        (case XBa1 => k_asm)
        (case Fa1 => k_asm)
        (case Xa1 => k_asm)
        (case Na1 => k_asm)
        (case Ta1 => k_asm)
        (case hka1 => first | exact rfl | assumption)
        (case hn0a1 => omega)
        (case hn1a1 => first | omega | (simp only [List.size_toArray]; omega) | decide)
        intro t9a1 h9a1 tk9a1 F9a1 N9a1
        (try k_fold)
        k_steps
        refine n_Call ?_
        (try k_fold)
        k_steps
        refine n_callWith_def (K := hd.heap_1 w.params) (by k_is) (by decide) (n_any ?_)
        (try k_fold)
        k_steps
        refine' c_put_varint ?XBa2 ?Ba2 ?Fa2 ?Xa2 ?Na2 ?Ta2 ?hka2 ?hn0a2 ?hn1a2 ?hreta2
        (case Ba2 => k_asm)
        (case XBa2 => k_asm)
        (case Fa2 => k_asm)
        (case Xa2 => k_asm)
        (case Na2 => k_asm)
        (case Ta2 => k_asm)
        (case hka2 => first | exact rfl | assumption)
        (case hn0a2 => omega)
        (case hn1a2 => first | omega | (simp only [List.size_toArray]; omega) | decide)
        intro t9a2 h9a2 tk9a2 F9a2 N9a2
        (try k_fold)
        k_steps
        refine n_any ?_
        (try k_fold)
        k_steps
        refine n_any ?_
        (try k_fold)
        k_steps
        refine n_execs_nil (n_execs_nil ?_)
        (with_reducible rename Fr _ _ _ _ => F8); (with_reducible rename News _ _ _ _ => N8)
        refine' UnrEnd.intro F8 N8 news₁ (fun p hp => hp) (allLt_ne lI) ⟨trivial, (acc ++ #[(rn : Int).toNat.toUInt8] ++ #[(v.toArray.size : Int).toNat.toUInt8] ++ v.toArray), ?tt, some (.int (rn : Int) rt), some (.str rname (rt + 1)), some (.str (Str.ofString "id") (rt + 2)), some (.bytes v.toArray tv), rfl, fun q hq => hsub q (List.mem_cons_of_mem _ hq), ?ea, ?eb, ?ec⟩
        case ec =>
          funext y
          by_cases e1 : y = Str.ofString "number"
          · rw [e1]; rfl
          by_cases e2 : y = Str.ofString "name"
          · rw [e2]; rfl
          by_cases e3 : y = Str.ofString "kind"
          · rw [e3]; rfl
          by_cases e4 : y = Str.ofString "value"
          · rw [e4]; rfl
          by_cases e5 : y = Str.ofString "found"
          · rw [e5]; rfl
          simp only [e1, e2, e3, e4, e5, if_false]
        case ea => rw [← henc]; simp [pairsD, hv, encs]
        case eb => simp only [Array.size_append, List.size_toArray, List.length_cons, List.length_nil]; omega
      · subst hkind
        have h43 : adr43.size = 43 := by decide
        have hb : (valueAt kvs rname).isSome = true := by rw [hval]; rfl
        k_steps
        refine n_execs_cons (n_If (n_any ?_))
        (try k_fold)
        k_steps
        refine n_execs_any ?_
        (try k_fold)
        k_steps
        unfold Stop
        k_dflt (refine' c_put_address ?XBp ?Bp ?Fp ?Xp ?Np ?Tp ?hkp ?hmp ?hretp)
        (case Bp => k_asm)
        (case XBp => k_asm)
        (case Fp => k_asm)
        (case Xp => k_asm)
        (case Np => k_asm)
        (case Tp => k_asm)
        (case hkp => first | exact rfl | assumption)
        (case hmp => first | assumption | exact List.mem_cons_of_mem _ (by assumption))
        intro t9 h9 tk9 F9 N9; (try k_sweep); (try dsimp only);  (try k_fold)
        k_steps
        refine n_execs_cons (n_Assign_Name (n_BinOp (n_BinOp (n_BinOp (n_any ?_)))))
        (try k_fold)
        k_steps
        refine n_Call ?_
        (try k_fold)
        k_steps
        refine n_callWith_def (K := hd.heap_1 w.params) (by k_is) (by decide) (n_any ?_)
        (try k_fold)
        k_steps
        refine' c_put_varint ?XBb1 ?Bb1 ?Fb1 ?Xb1 ?Nb1 ?Tb1 ?hkb1 ?hn0b1 ?hn1b1 ?hretb1
        (case Bb1 => k_asm)
        (case XBb1 => k_asm)
        (case Fb1 => k_asm)
        (case Xb1 => k_asm)
        (case Nb1 => k_asm)
        (case Tb1 => k_asm)
        (case hkb1 => first | exact rfl | assumption)
        (case hn0b1 => omega)
        (case hn1b1 => first | omega | (simp only [List.size_toArray]; omega) | decide)
        intro t9b1 h9b1 tk9b1 F9b1 N9b1
        (try k_fold)
        k_steps
        refine n_Call ?_
        (try k_fold)
        k_steps
        refine n_callWith_def (K := hd.heap_1 w.params) (by k_is) (by decide) (n_any ?_)
        (try k_fold)
        k_steps
        refine' c_put_varint ?XBb2 ?Bb2 ?Fb2 ?Xb2 ?Nb2 ?Tb2 ?hkb2 ?hn0b2 ?hn1b2 ?hretb2
        (case Bb2 => k_asm)
        (case XBb2 => k_asm)
        (case Fb2 => k_asm)
        (case Xb2 => k_asm)
        (case Nb2 => k_asm)
        (case Tb2 => k_asm)
        (case hkb2 => first | exact rfl | assumption)
        (case hn0b2 => omega)
        (case hn1b2 => first | omega | (simp only [List.size_toArray]; omega) | decide)
        intro t9b2 h9b2 tk9b2 F9b2 N9b2
        (try k_fold)
        k_steps
        refine n_any ?_
        (try k_fold)
        k_steps
        refine n_any ?_
        (try k_fold)
        k_steps
        refine n_execs_nil (n_execs_nil ?_)
        (with_reducible rename Fr _ _ _ _ => F8); (with_reducible rename News _ _ _ _ => N8)
        refine' UnrEnd.intro F8 N8 news₁ (fun p hp => hp) (allLt_ne lI) ⟨trivial, (acc ++ #[(rn : Int).toNat.toUInt8] ++ #[(adr43.size : Int).toNat.toUInt8] ++ adr43), ?ttb, some (.int (rn : Int) rt), some (.str rname (rt + 1)), some (.str (Str.ofString "address") (rt + 2)), some (.bytes adr43 ?tvb), rfl, fun q hq => hsub q (List.mem_cons_of_mem _ hq), ?ea, ?eb, ?ec⟩
        case ec =>
          funext y
          by_cases e1 : y = Str.ofString "number"
          · rw [e1]; rfl
          by_cases e2 : y = Str.ofString "name"
          · rw [e2]; rfl
          by_cases e3 : y = Str.ofString "kind"
          · rw [e3]; rfl
          by_cases e4 : y = Str.ofString "value"
          · rw [e4]; rfl
          by_cases e5 : y = Str.ofString "found"
          · rw [e5]; rfl
          simp only [e1, e2, e3, e4, e5, if_false]
        case ea => rw [← henc]; simp [pairsD, hv, encs, hv43]
        case eb => simp only [Array.size_append, List.size_toArray, List.length_cons, List.length_nil]; omega
  case done =>
    clear N9 F9
    rintro m₁ news₁ ⟨acc, ta, x1, x2, x3, x4, hn, hsub, henc, hsz, hm1⟩ h tk F₁ N₁
    subst hn hm1
    refine n_execs_cons (n_For (n_any ?_))
    (try k_fold)
    k_steps
    (with_reducible rename Fr _ _ _ _ => F8); (with_reducible rename News _ _ _ _ => N8)
    refine n_listL rfl F8 N8 (List.mem_cons_self ..) rfl rfl (fun I lI => ?_)
    show NRest _ _ _ _ _ _ _ _ _ _ _ _ [] _ _
    unfold NRest
    intro h2 tk2 F2 N2
    dsimp only
    refine n_execs_cons (n_Return (n_any ?_))
    (try k_fold)
    k_steps
    exact hret acc _ _ _ (by simpa [pairsD, encs] using henc) (by k_asm) (by first | k_asm | (refine' cb_drop ?cbN ?cbS; (case cbN => assumption); (case cbS => (intro p hp; simp only [List.mem_cons, List.mem_append]; first | exact .inr hp | exact .inr (.inr hp) | exact .inr (.inr (.inr hp)) | exact .inr (.inr (.inr (.inr hp)))))))

end PartNQ

theorem flush27 {M : Model} {A : Around} {env : Env} {Q : Flow → Shared → Prop} {E : Value → Shared → Prop} {s : Shared} (h : wpAny M A (execs [] env) Q E s) : wpAny M A (execs [] env) Q E s := by
  w_top off
  first | (walk1; fail) | exact h

section Group7
local macro_rules | `(tactic| walk_at "ite") => `(tactic| (k_here; k_openite; first
  | (refine ite_pos (by first | omega | (simp only [decide_eq_true_eq]; omega)) ?_)
  | (refine ite_neg (by first | omega | (simp only [decide_eq_true_eq]; omega)) ?_)))
section PartNW

local macro_rules | `(tactic| walk_at "exec For Name Name cons nil") => `(tactic| (k_here; refine Stop.mk ?_))

theorem rows_one : ∀ r ∈ rowsD, ∀ r' ∈ rowsD, r.n = r'.n → r.a = r'.a := by decide
noncomputable def RBJ (r₀ : RowD) (m₀ : Str → Option Value) (news₀ : List (Addr × Obj)) (rows : List RowD) (m : Str → Option Value) (news : List (Addr × Obj)) : Prop :=
  ∃ x : Option Value, news = news₀ ∧ r₀ ∈ rows ∧ (∀ r ∈ rows, r ∈ rowsD) ∧ m = fun y => if y = Str.ofString "row" then x else m₀ y
theorem RBJ.start {r₀ : RowD} {m : Str → Option Value} {news : List (Addr × Obj)} (h : r₀ ∈ rowsD) : RBJ r₀ m news rowsD m news :=
  ⟨m (Str.ofString "row"), rfl, h, fun _ h => h, by
    funext y
    by_cases e : y = Str.ofString "row"
    · rw [if_pos e, e]
    · rw [if_neg e]⟩
theorem c_row_by_number : ∀ {w : World} {mean : ExcName → Option Value} {mg mb : Str → Option Value} {r₀ : RowD} {n : Int} {tn : Tok} {news : List (Addr × Obj)}
    {cn : Str} {cs : Scope} {a : Addr} {ccd : Value} {cl : List (Str × Addr)} {outer : List Env} {A₀ : Around} {base h₀ : Heap} {L : Addr} {m : Str → Option Value} {s : Shared} {Q E : Value → Shared → Prop}
    (XB : (hd.heap_1 w.params).In base) (B : Below A₀ base outer h₀) (F : Fr h₀ L s.heap m) (X : (hd.heap_1 w.params).In h₀) (N : News h₀ L s.heap news) (T : Top hd.view_39 (looseW hd.view_39 [Str.ofString "BOUNDS"]) mean mg mb h₀) (hk : cs.kind = .function) (hr₀ : r₀ ∈ rowsD) (hn : n = (r₀.n : Int))
    (hret : ∀ (h' : Heap) (tk' : Nat), Fr h₀ L h' m → News h₀ L h' news → Q (.ref r₀.a) { s with heap := h', toks := tk' }),
    wpAny (model PySem.Challenge.rw_pf0267_01.row.prog w) (ktrTop 304 13 (some []) cn cs L a ccd cl outer) (call (.ref 205) [.int n tn] []) Q E s := by
  k_fill
  intro w mean mg mb r₀ n tn news cn cs a ccd cl outer A₀ base h₀ L m s Q E XB B F X N T hk hr₀ hn hret
  refine wpAny_call ?_
  k_dflt (refine' code_def ?k1 ?k2 ?k3 ?k4 ?k5 ?kA ?kF ?kK ?k6 ?k7 ?k8 ?k9 ?kB ?_ ?c2 ?c3 ?c4 ?c5; (case kA => exact rfl); (case kF => exact rfl); (case kK => assumption); (case k1 => k_asm); (case k2 => k_asm); (case k3 => k_asm); (case k4 => k_asm); (case k5 => k_asm); (case k6 => k_is); (case k7 => k_is); (case k8 => exact Nat.le_of_ble_eq_true rfl); (case k9 => exact BindsTo.of_eq rfl); (case c5 => decide); (case kB => exact locs rfl); (case c2 => exact rfl); (case c3 => exact rfl); (case c4 => exact rfl); k_whole; intro g' L' h' FG' F' N' B' X' T'; (try dsimp only); (try k_lift B'))
  refine wpAny_noRaise ?_
  (try k_fold)
  k_steps
  have hrows : ∀ r ∈ rowsD, IsTup g' r.a #[.int (r.n : Int) r.t, .str r.name (r.t + 1), .str r.kind (r.t + 2)] := by
    intro r hr
    simp only [rowsD, List.mem_cons, List.not_mem_nil, or_false] at hr
    rcases hr with rfl | rfl | rfl | rfl | rfl | rfl | rfl | rfl | rfl | rfl | rfl | rfl | rfl | rfl | rfl | rfl | rfl <;> exact tupK (l := [.int _ _, .str _ _, .str _ _]) X' (by k_is)
  have h171 : IsTup g' 171 (rowsD.map (fun r => Value.ref r.a)).toArray := tupK (l := rowsD.map (fun r => Value.ref r.a)) X' (by k_is)
  unfold Stop
  refine a_For ?_
  (try k_fold)
  k_steps
  (with_reducible rename Fr _ _ _ _ => F9); (with_reducible rename News _ _ _ _ => N9)
  refine a_tupL (items := (rowsD.map (fun r => Value.ref r.a)).toArray) rfl h171 F9 N9 (fun I lI => ?_)
  replace lI := allLt_of lI
  rw [List.toList_toArray]
  refine ARest_ind (fun r : RowD => Value.ref r.a) (RBJ r₀ _ news) ?done ?turn rowsD _ _ (RBJ.start hr₀)
  case done =>
    rintro m₁ news₁ ⟨x, _, hm, _⟩
    cases hm
  case turn =>
    clear N9 F9
    rintro r rs m₁ news₁ ⟨x, hn1, hmem, hsub, hm1⟩ it h tk hic F₁ N₁
    subst hn1 hm1
    have hrr := hsub r (List.mem_cons_self ..)
    have ht := hrows r hrr
    by_cases e : r.n = r₀.n
    · have ea := rows_one r hrr r₀ hr₀ e
      obtain ⟨ra, rn, rname, rkind, rt⟩ := r
      dsimp only at *
      k_steps
      all_goals first | (exfalso; omega) | skip
      rw [ea]
      exact hret _ _ (by k_asm) (by first | k_asm | (refine' cb_drop ?cbN ?cbS; (case cbN => assumption); (case cbS => (intro p hp; simp only [List.mem_cons, List.mem_append]; first | exact .inr hp | exact .inr (.inr hp) | exact .inr (.inr (.inr hp)) | exact .inr (.inr (.inr (.inr hp)))))))
    · have hmem' : r₀ ∈ rs := by
        rcases List.mem_cons.mp hmem with h | h
        · exact absurd (by rw [h]) e
        · exact h
      obtain ⟨ra, rn, rname, rkind, rt⟩ := r
      dsimp only at *
      k_steps
      all_goals first | (exfalso; omega) | skip
      (with_reducible rename Fr _ _ _ _ => F8); (with_reducible rename News _ _ _ _ => N8)
      refine UnrEnd.intro F8 N8 news₁ (fun p hp => hp) (allLt_ne lI) ⟨trivial, some (.ref ra), rfl, hmem', fun q hq => hsub q (List.mem_cons_of_mem _ hq), ?_⟩
      funext y
      by_cases e1 : y = Str.ofString "row"
      · rw [e1]; rfl
      · simp only [e1, if_false]

end PartNW

theorem flush28 {M : Model} {A : Around} {env : Env} {Q : Flow → Shared → Prop} {E : Value → Shared → Prop} {s : Shared} (h : wpAny M A (execs [] env) Q E s) : wpAny M A (execs [] env) Q E s := by
  w_top off
  first | (walk1; fail) | exact h

section PartNY

theorem c_read_value_id : ∀ {w : World} {mean : ExcName → Option Value} {mg mb : Str → Option Value} {name : Str} {v : Array UInt8} {tn t1 t2 : Tok} {news : List (Addr × Obj)}
    {cn : Str} {cs : Scope} {a : Addr} {ccd : Value} {cl : List (Str × Addr)} {outer : List Env} {A₀ : Around} {base h₀ : Heap} {L : Addr} {m : Str → Option Value} {s : Shared} {Q E : Value → Shared → Prop}
    (XB : (hd.heap_1 w.params).In base) (B : Below A₀ base outer h₀) (F : Fr h₀ L s.heap m) (X : (hd.heap_1 w.params).In h₀) (N : News h₀ L s.heap news) (T : Top hd.view_39 (looseW hd.view_39 [Str.ofString "BOUNDS"]) mean mg mb h₀) (hk : cs.kind = .function) (hz : v.size ≤ 20)
    (hret : ∀ (h' : Heap) (tk' : Nat), Fr h₀ L h' m → News h₀ L h' news → Q (.bytes v t2) { s with heap := h', toks := tk' }),
    wpAny (model PySem.Challenge.rw_pf0267_01.row.prog w) (ktrTop 304 13 (some []) cn cs L a ccd cl outer) (call (.ref 245) [.str name tn, .str (Str.ofString "id") t1, .bytes v t2] []) Q E s := by
  k_fill
  intro w mean mg mb name v tn t1 t2 news cn cs a ccd cl outer A₀ base h₀ L m s Q E XB B F X N T hk hz hret
  have hz2 : v.size < 1000 := by omega
  refine wpAny_call ?_
  k_dflt (refine' code_def ?k1 ?k2 ?k3 ?k4 ?k5 ?kA ?kF ?kK ?k6 ?k7 ?k8 ?k9 ?kB ?_ ?c2 ?c3 ?c4 ?c5; (case kA => exact rfl); (case kF => exact rfl); (case kK => assumption); (case k1 => k_asm); (case k2 => k_asm); (case k3 => k_asm); (case k4 => k_asm); (case k5 => k_asm); (case k6 => k_is); (case k7 => k_is); (case k8 => exact Nat.le_of_ble_eq_true rfl); (case k9 => exact BindsTo.of_eq rfl); (case c5 => decide); (case kB => exact locs rfl); (case c2 => exact rfl); (case c3 => exact rfl); (case c4 => exact rfl); k_whole; intro g' L' h' FG' F' N' B' X' T'; (try dsimp only); (try k_lift B'))
  refine wpAny_noRaise ?_
  (try k_fold)
  k_steps
  all_goals first | (exfalso; omega) | exact hret _ _ (by k_asm) (by first | k_asm | (refine' cb_drop ?cbN ?cbS; (case cbN => assumption); (case cbS => (intro p hp; simp only [List.mem_cons, List.mem_append]; first | exact .inr hp | exact .inr (.inr hp) | exact .inr (.inr (.inr hp)) | exact .inr (.inr (.inr (.inr hp)))))))

end PartNY

theorem flush29 {M : Model} {A : Around} {env : Env} {Q : Flow → Shared → Prop} {E : Value → Shared → Prop} {s : Shared} (h : wpAny M A (execs [] env) Q E s) : wpAny M A (execs [] env) Q E s := by
  w_top off
  first | (walk1; fail) | exact h

end Group7

theorem flush30 {M : Model} {A : Around} {env : Env} {Q : Flow → Shared → Prop} {E : Value → Shared → Prop} {s : Shared} (h : wpAny M A (execs [] env) Q E s) : wpAny M A (execs [] env) Q E s := by
  w_top off
  first | (walk1; fail) | exact h

section PartNY2

local macro_rules | `(tactic| walk_at "call ref") => `(tactic| (k_here; refine Stop.call (by decide) ?_))
theorem c_read_value_addr : ∀ {w : World} {mean : ExcName → Option Value} {mg mb : Str → Option Value} {name : Str} {tn t1 t2 : Tok} {news : List (Addr × Obj)}
    {cn : Str} {cs : Scope} {a : Addr} {ccd : Value} {cl : List (Str × Addr)} {outer : List Env} {A₀ : Around} {base h₀ : Heap} {L : Addr} {m : Str → Option Value} {s : Shared} {Q E : Value → Shared → Prop}
    (XB : (hd.heap_1 w.params).In base) (B : Below A₀ base outer h₀) (F : Fr h₀ L s.heap m) (X : (hd.heap_1 w.params).In h₀) (N : News h₀ L s.heap news) (T : Top hd.view_39 (looseW hd.view_39 [Str.ofString "BOUNDS"]) mean mg mb h₀) (hk : cs.kind = .function) 
    (hret : ∀ (T : Addr) (o : Obj) (h' : Heap) (tk' : Nat), Fr h₀ L h' m → News h₀ L h' ((T, o) :: news) → (∀ p ∈ news, p.1 < T) → o.cls = .type "tuple" → Q (.ref T) { s with heap := h', toks := tk' }),
    wpAny (model PySem.Challenge.rw_pf0267_01.row.prog w) (ktrTop 304 13 (some []) cn cs L a ccd cl outer) (call (.ref 245) [.str name tn, .str (Str.ofString "address") t1, .bytes adr43 t2] []) Q E s := by
  k_fill
  intro w mean mg mb name tn t1 t2 news cn cs a ccd cl outer A₀ base h₀ L m s Q E XB B F X N T hk  hret
  refine wpAny_call ?_
  k_dflt (refine' code_def ?k1 ?k2 ?k3 ?k4 ?k5 ?kA ?kF ?kK ?k6 ?k7 ?k8 ?k9 ?kB ?_ ?c2 ?c3 ?c4 ?c5; (case kA => exact rfl); (case kF => exact rfl); (case kK => first | assumption | exact rfl); (case k1 => k_asm); (case k2 => k_asm); (case k3 => k_asm); (case k4 => k_asm); (case k5 => k_asm); (case k6 => k_is); (case k7 => k_is); (case k8 => exact Nat.le_of_ble_eq_true rfl); (case k9 => exact BindsTo.of_eq rfl); (case c5 => decide); (case kB => exact locs rfl); (case c2 => exact rfl); (case c3 => exact rfl); (case c4 => exact rfl); k_whole; intro g' L' h' FG' F' N' B' X' T'; (try dsimp only); (try k_lift B'))
  refine wpAny_noRaise ?_
  (try k_fold)
  k_steps
  unfold Stop
  k_dflt (refine' c_read_address ?XBa ?Ba ?Fa ?Xa ?Na ?Ta ?hka ?hreta)
  (case Ba => k_asm)
  (case XBa => k_asm)
  (case Fa => k_asm)
  (case Xa => k_asm)
  (case Na => k_asm)
  (case Ta => k_asm)
  (case hka => first | exact rfl | assumption)
  intro T9 o9 h9 tk9 F9 N9 l9 e9; (try k_sweep); (try dsimp only);  (try k_fold)
  k_steps
  exact hret _ _ _ _ (by k_asm) (by k_asm) (by first | assumption | k_all) (by assumption)

end PartNY2

theorem flush31 {M : Model} {A : Around} {env : Env} {Q : Flow → Shared → Prop} {E : Value → Shared → Prop} {s : Shared} (h : wpAny M A (execs [] env) Q E s) : wpAny M A (execs [] env) Q E s := by
  w_top off
  first | (walk1; fail) | exact h

section PartNX2
noncomputable def RaisedQ (base G : Heap) (l : List Env) (e : Addr) (news : List (Addr × Obj)) (h : Heap) : Prop :=
  ∃ B D mA t, base.StaysIn B ∧ (∀ b o, G.get? b = some o → b ∉ l.filterMap (·.frame) → B.get? b = some o) ∧ (∀ q ∈ news, B.get? q.1 = some q.2 ∧ G.get? q.1 = none ∧ base.get? q.1 = none) ∧
    OnE B l e D .none h ∧ Heap.Ns B D mA ∧ mA (Str.ofString "code") = some (.int 8 t)
section
variable {M : Model} {A : Around} {E : Value → Shared → Prop} {s' : Shared} {base g g₂ : Heap} {outer : List Env} {L a e D : Addr} {m : Str → Option Value} {name : Str} {scope : Scope} {cd : Value} {Q : Unit → Shared → Prop} {news : List (Addr × Obj)}
theorem leave_firstQ {oe : Obj} {vs : Array Value} {mA : Str → Option Value} {t : Tok} (K : Below A base outer g) (F : Fr g L s'.heap m) (N : News g L s'.heap news)
    (he : s'.heap.get? e = some oe) (hc : oe.cls = .ref 38) (hD : oe.dict = some D) (hd : oe.data = .fields vs) (h1 : vs[1]? = some .none) (heg : g.get? e = none)
    (hn : s'.heap.Ns D mA) (hDL : D ≠ L) (hDe : D ≠ e) (hDg : g.get? D = none) (hcode : mA (Str.ofString "code") = some (.int 8 t)) (hne : ∀ q ∈ news, q.1 ≠ e)
    (hQ : ∀ h', RaisedQ base g outer e news h' → g.UpToSlots h' → Q () { s' with heap := h' }) (hk : scope.kind = .function := by rfl) :
    wpAny M (A.deeper (envOf name scope L a cd)) (leaving (envOf name scope L a cd) (.ref e)) Q E s' := by
  have K' := K.push (name := name) (a := a) (cd := cd) F hk
  have hsub : ∀ b, b ∈ (envOf name scope L a cd :: outer).filterMap (·.frame) → b = L ∨ b ∈ outer.filterMap (·.frame) := fun b hb => kts_mem hb
  have hout : ∀ b, b ∈ outer.filterMap (·.frame) → g.get? b ≠ none := by
    intro b hb q
    obtain ⟨_, o, ho, _⟩ := K.frames.mem hb
    rw [q] at ho
    cases ho
  have hin : ∀ env ∈ (envOf name scope L a cd :: outer), ∀ b, env.frame = some b → b ∈ e :: (envOf name scope L a cd :: outer).filterMap (·.frame) :=
    fun env hv b hb => List.mem_cons_of_mem _ (List.mem_filterMap.mpr ⟨env, hv, hb⟩)
  have gB : ∀ b o, g.get? b = some o → b ∉ outer.filterMap (·.frame) → (hideAll s'.heap (e :: (envOf name scope L a cd :: outer).filterMap (·.frame))).get? b = some o := by
    intro b o q nm
    refine hideAll_get _ (F.keep b o q) fun hm => ?_
    rcases List.mem_cons.mp hm with rfl | hm
    · rw [heg] at q; cases q
    · rcases hsub b hm with rfl | hm
      · rw [kts_self F] at q; cases q
      · exact nm hm
  have st : base.StaysIn (hideAll s'.heap (e :: (envOf name scope L a cd :: outer).filterMap (·.frame))) := by
    intro b o q
    refine gB b o (K.stays b o q) fun hm => ?_
    rw [(K.frames.mem hm).1] at q
    cases q
  have hl : ∀ q ∈ news, (hideAll s'.heap (e :: (envOf name scope L a cd :: outer).filterMap (·.frame))).get? q.1 = some q.2 ∧ g.get? q.1 = none ∧ base.get? q.1 = none := by
    intro q hq
    refine ⟨hideAll_get _ (N q hq).1 fun hm => ?_, (N q hq).2.2, fresh_of_stays K.stays (N q hq).2.2⟩
    rcases List.mem_cons.mp hm with z | hm
    · exact hne q hq z
    · rcases hsub _ hm with z | hm
      · exact (N q hq).2.1 z
      · exact hout _ hm (N q hq).2.2
  have hDB : Heap.Ns (hideAll s'.heap (e :: (envOf name scope L a cd :: outer).filterMap (·.frame))) D mA := by
    obtain ⟨o, es, ep, ho, r⟩ := hn
    refine ⟨o, es, ep, hideAll_get _ ho fun hm => ?_, r⟩
    rcases List.mem_cons.mp hm with z | hm
    · exact hDe z
    · rcases hsub _ hm with z | hm
      · exact hDL z
      · exact hout _ hm hDg
  refine e_leaveFirst K'.stack (funFrames_hide K'.frames hin) rfl he hc hD (fun b o q => of_hideAll _ q) (hideAll_none _ (List.mem_cons_self ..)) hd h1 fun h' x u => ?_
  exact hQ h' ⟨_, D, mA, t, st, gB, hl, x, hDB, hcode⟩ ((Heap.UpToSlots.of_keeps F.keep).trans u)
theorem leave_onQ (K : Below A base outer g) (F : Fr g L g₂ m) (R : RaisedQ base g₂ (envOf name scope L a cd :: outer) e news s'.heap) (hsm : g₂.UpToSlots s'.heap)
    (hQ : ∀ h', RaisedQ base g outer e news h' → g.UpToSlots h' → Q () { s' with heap := h' }) :
    wpAny M (A.deeper (envOf name scope L a cd)) (leaving (envOf name scope L a cd) (.ref e)) Q E s' := by
  obtain ⟨B, D, mA, t, hB, hBG, hl, x, hDB, hcode⟩ := R
  refine e_leaveNext (Around.frames_deeper K.stack) rfl x fun h' x' u => ?_
  refine hQ h' ⟨B, D, mA, t, hB, fun b o q nm => hBG b o (F.keep b o q) fun hm => ?_, fun q hq => ⟨(hl q hq).1, kts_none F.keep (hl q hq).2.1, (hl q hq).2.2⟩, x', hDB, hcode⟩ ((Heap.UpToSlots.of_keeps F.keep).trans (hsm.trans u))
  rcases kts_mem hm with z | z
  · rw [z, kts_self F] at q; cases q
  · exact nm z
end
noncomputable def RaisableQ (E : Value → Shared → Prop) (v : Value) (s₁ : Shared) : Prop :=
  ∃ a ob vs, v = .ref a ∧ s₁.heap.get? 38 = some qErr ∧ s₁.heap.get? a = some ob ∧ ob.cls = .ref 38 ∧ ob.data = .fields vs ∧ vs[1]? = some .none ∧ E (.ref a) s₁
section
variable {M : Model} {A : Around} {E : Value → Shared → Prop} {s : Shared} {env : Env}
theorem Raise_newQ {e : Expr} {pos : Pos} {Q : Flow → Shared → Prop} (hh : A.handled = none)
    (h : wpAny M A (eval e env) (RaisableQ E) E s) : wpAny M A (exec (.Raise (some e) none pos) env) Q E s := by
  show wpAny M A (do standAt pos; raiseStmt env (some (do let v ← eval e env; standAt pos; pure v)) none) Q E s
  apply wpAny_bind
  apply wpAny_standAt
  unfold raiseStmt
  dsimp only
  apply wpAny_bind
  apply wpAny_bind
  refine wpAny_mono h (fun v s₁ h₁ => wpAny_bind (wpAny_standAt (wpAny_pure ?_))) fun _ _ x => x
  obtain ⟨a, ob, vs, rfl, hC, ha, hcls, hd, h1, hE⟩ := h₁
  obtain ⟨hp, g, d, tk, os⟩ := s₁
  have hT : Looks M hp (typeOf (.ref a)) (.ref 38) := (Looks.ld ha).andThen (by rw [hcls]; exact .now)
  have hnt : ∀ {Q' : Bool → Shared → Prop}, Q' false ⟨hp, g, d, tk, os⟩ → wpAny M A (isType (.ref a)) Q' E ⟨hp, g, d, tk, os⟩ := by
    intro Q' hq
    simp only [isType, loadHead]
    refine wpAny_bind (wpAny_loadPart ha ?_)
    rw [hd]
    exact wpAny_pure hq
  refine wpAny_bind (wpAny_pure ?_)
  dsimp only
  refine wpAny_bind (wpAny_holding ?_)
  unfold excFromValue isExcClass
  refine wpAny_bind (wpAny_bind (hnt ?_))
  simp only [Bool.false_eq_true, if_false]
  refine wpAny_pure ?_
  simp only [Bool.false_eq_true, if_false]
  unfold isInstance
  refine wpAny_bind (wpAny_bind (hT.here (wpAny_isSubtype_exc hC ?_)))
  rw [show (Value.ref 38 :: [Value.type "Exception", .type "BaseException", .type "object"]).contains (.type "BaseException") = true by decide]
  simp only [if_true]
  refine wpAny_pure ?_
  refine wpAny_bind (hnt ?_)
  simp only [Bool.false_eq_true, if_false]
  unfold raisedInstance
  have hT2 : Looks M hp (typeOf (.ref 38)) (.type "type") := (Looks.ld hC).andThen .now
  refine wpAny_bind (wpAny_bind (hT.here (wpAny_bind (hT2.here ?_))))
  rw [if_pos (by decide)]
  refine wpAny_pure ?_
  unfold setFlight raiseNew
  refine wpAny_bind (wpAny_bind (wpAny_field ha hd h1 ?_))
  rw [if_neg (by decide)]
  refine wpAny_pure (wpAny_bind (wpAny_handled ?_))
  rw [hh]
  first
    | exact wpAny_throw hE
    | exact wpAny_bind (wpAny_pure (wpAny_throw hE))
end
theorem fr_but {g h h' : Heap} {L e : Addr} {m : Str → Option Value} {oe oe' : Obj} {news : List (Addr × Obj)} (F : Fr g L h m) (N : News g L h ((e, oe) :: news)) (hne : ∀ p ∈ news, p.1 ≠ e)
    (hk : ∀ b o, b ≠ e → h.get? b = some o → (g.get? b ≠ none ∨ b = L ∨ ∃ o', (b, o') ∈ news) → h'.get? b = some o) (he : h'.get? e = some oe') : Fr g L h' m ∧ News g L h' ((e, oe') :: news) := by
  have De := N _ (List.mem_cons_self ..)
  obtain ⟨oL, es, ep, hL, r⟩ := F.ns
  refine ⟨⟨⟨oL, es, ep, hk _ _ (Ne.symm De.2.1) hL (.inr (.inl rfl)), r⟩, ?_, F.above⟩, ?_⟩
  · intro b o q
    refine hk b o ?_ (F.keep b o q) (.inl (by rw [q]; simp))
    rintro rfl
    rw [De.2.2] at q
    cases q
  · intro p hp
    rcases List.mem_cons.mp hp with rfl | hp
    · exact ⟨he, De.2⟩
    · have P := N p (List.mem_cons_of_mem _ hp)
      exact ⟨hk _ _ (hne p hp) P.1 (.inr (.inr ⟨p.2, hp⟩)), P.2⟩
section
open Builtin Builtin.ObjectAttr
variable {prog : Program} {w : World} {A : Around} {E : Value → Shared → Prop} {h : Heap} {g : Array GenState} {d : Drawn} {t : Nat} {os : OsState} {x : Addr} {name : Str} {v : Value}
/-- the first attribute of an own exception: its dict is made -/
theorem e_store0 {nm q : Str} {C Nn : Addr} {bs bm : List Value} {sn : List Str} {sub : List Value} {ab : Bool} {col : Option Bool} {dd : Option Addr} {k0 k1 k2 k3 k5 : Option Value} {B newId sa owner : String} {tk : Tok} {o : Obj} {mN : Str → Option Value} {Q : Fin → Shared → Prop} (SF : StoreFacts B bm sa owner) (hC : h.get? C = some (excClassObj nm q C Nn bs bm true sn sub ab col dd k0 k1 k2 k3 k5 newId)) (hn : h.Ns Nn mN) (hna : mN name = none) (hB : typeLookup (.type B) name = pure none)
    (hx : h.get? x = some o) (hc : o.cls = .ref C) (hnc : ∀ c, o.data ≠ .cls c) (hdn : o.dict = none)
    (hq : ∀ h' tk', h'.get? x = some { o with dict := some h.objs.size } → h'.Ns1 h.objs.size (fun y => if y = name then some v else none) → (∀ b ob, b ≠ x → h.get? b = some ob → h'.get? b = some ob) → Q (.done (.ret .none)) ⟨h', g, d, tk', os⟩) :
    wpAny (model prog w) A (Builtin.«object.__setattr__» ⟨[.ref x, .str name tk, v], []⟩) Q E ⟨h, g, d, t, os⟩ := by
  have hpass := SF.passes (.ref x)
  unfold Builtin.«object.__setattr__»
  repeat (first | rw [refuse_eq] | (rw [refuseLoop_ref, hpass]) | (with_reducible refine wpAny_loadPart_at hx ?_; rw [hc]) | with_reducible refine wpAny_mroOf_exc hC ?_ | (with_reducible refine wpAny_typeLookup_exc hC hn SF.mro hB ?_; rw [hna]) | wp_step)
  rw [hdn, if_neg (by simp [typeHasDict])]
  split
  · rename_i qq
    cases qq
  split
  · rename_i c qq
    exact absurd qq (hnc c)
  have hx₁ : (h.push { cls := .type "dict", data := .dict #[] }).get? x = some o := Heap.get?_push_of_some _ hx
  have hxs : x ≠ h.objs.size := Nat.ne_of_lt (Heap.lt_size hx)
  apply wpAny_bind
  apply wpAny_alloc'
  refine wpAny_bind (wpAny_update' hx₁ (wpAny_pure ?_))
  have hnd : ((h.push { cls := .type "dict", data := .dict #[] }).update x fun o => { cls := o.cls, dict := some h.objs.size, data := o.data, slots := o.slots }).Ns h.objs.size (fun _ => none) :=
    ⟨_, #[], _, (Heap.get?_update_ne _ _ _ _ hxs.symm).trans (Heap.get?_push_at rfl rfl), rfl, fun e he => absurd he (by simp), fun _ => rfl⟩
  show wpAny _ _ (storeInDict h.objs.size (.str name tk) name v) _ _ _
  unfold storeInDict newKeyGuard
  refine wpAny_bind (wpAny_pure (wpAny_bind (wpAny_nsSet1 (Heap.Ns1.of_empty hnd) fun h' hn' hs => ?_)))
  obtain ⟨oD, esD, epD, hoD, hdD, hcD⟩ := hn'.count (Within.cons name v Within.nil)
  refine wpAny_bind (wpAny_lookBehind hoD (by rw [hdD]; exact pastItsLine_dict (Nat.le_trans hcD (by rw [List.length_cons, List.length_nil, sizeLine_eq]; omega))) ?_)
  wp_walk
  refine hq h' _ ?_ hn' ?_
  · refine (hs.2 x hxs).trans (Heap.get?_update_self _ hx₁ ?_)
    have hfr := (Heap.get?_some_iff.mp hx).2
    obtain ⟨oc, od, odt, osl⟩ := o
    cases odt <;> first | rfl | exact hfr
  · intro b ob hb qq
    exact (hs.2 b (Nat.ne_of_lt (Heap.lt_size qq))).trans ((Heap.get?_update_ne _ _ _ _ hb).trans (Heap.get?_push_of_some _ qq))
theorem e_store1 {nm q : Str} {C Nn : Addr} {bs bm : List Value} {sn : List Str} {sub : List Value} {ab : Bool} {col : Option Bool} {dd : Option Addr} {k0 k1 k2 k3 k5 : Option Value} {B newId sa owner : String} {o : Obj} {mN : Str → Option Value} {Q : Unit → Shared → Prop} (SF : StoreFacts B bm sa owner) (hC : h.get? C = some (excClassObj nm q C Nn bs bm true sn sub ab col dd k0 k1 k2 k3 k5 newId)) (hn : h.Ns Nn mN) (hns : mN "__setattr__" = none) (hna : mN name = none) (hB : typeLookup (.type B) name = pure none)
    (hx : h.get? x = some o) (hc : o.cls = .ref C) (hnc : ∀ c, o.data ≠ .cls c) (hdn : o.dict = none)
    (hq : ∀ h' tk', h'.get? x = some { o with dict := some h.objs.size } → h'.Ns1 h.objs.size (fun y => if y = name then some v else none) → (∀ b ob, b ≠ x → h.get? b = some ob → h'.get? b = some ob) → Q () ⟨h', g, d, tk', os⟩) :
    wpAny (model prog w) A (setAttr (.ref x) name v) Q E ⟨h, g, d, t, os⟩ := by
  have f3 := SF.slot.bind (.ref x)
  unfold setAttr callSpecial? specialOf
  repeat (any_goals (first | assumption | (with_reducible refine wpAny_loadPart_at hx ?_; rw [hc]) | (with_reducible refine wpAny_typeLookup_exc hC hn SF.mro SF.slot.lookup ?_; rw [hns]) | wp_step))
  refine codeAny_call_builtin SF.slot.plain SF.entry (wpAny_check_sa SF hC hx hc (e_store0 SF hC hn hna hB hx hc hnc hdn fun h' tk' a b c => ?_))
  repeat (any_goals (first | assumption | wp_step))
  exact hq h' tk' a b c
end
theorem news_made {g h h2 : Heap} {L e : Addr} {m : Str → Option Value} {C : Value} {vs : List Value} {news : List (Addr × Obj)} (F : Fr g L h m) (N : News g L h news) (hm : Heap.MadeExcOf h h2 e C vs) :
    ∃ t0, Fr g L h2 m ∧ News g L h2 ((e, { cls := C, data := .fields #[.ref t0, .none, .none, .none, .bool false, .none] }) :: news) ∧ ∀ p ∈ news, p.1 ≠ e := by
  obtain ⟨t0, het, htn, ht0⟩ := hm.there
  refine ⟨t0, F.keeps hm.keeps, ?_, ?_⟩
  · intro q hq
    rcases List.mem_cons.mp hq with rfl | hq
    · refine ⟨het, ?_, kts_none F.keep hm.new⟩
      rintro rfl
      obtain ⟨_, _, _, ho, _⟩ := F.ns
      rw [hm.new] at ho
      cases ho
    · exact ⟨hm.keeps _ _ (N q hq).1, (N q hq).2⟩
  · rintro p hp rfl
    have := (N p hp).1
    rw [hm.new] at this
    cases this
theorem len8 : (Str.ofString (toString (8 : Int)) ++ Str.ofString ": ").length = 3 := by decide +kernel
theorem meta_Exc : typeOf (.type "Exception") = pure (.type "type") := by kernel_rfl
theorem lk_code : typeLookup (.type "Exception") (Str.ofString "code") = pure none := by rw [typeLookup_type, builtinLookup_eq_fast]; kernel_rfl
theorem lk_frame_type : typeLookup (.type "Exception") (Str.ofString "frame_type") = pure none := by rw [typeLookup_type, builtinLookup_eq_fast]; kernel_rfl
theorem lk_text : typeLookup (.type "Exception") (Str.ofString "text") = pure none := by rw [typeLookup_type, builtinLookup_eq_fast]; kernel_rfl
noncomputable abbrev excO (d : Option Addr) (t0 : Addr) : Obj := { cls := .ref 38, dict := d, data := .fields #[.ref t0, .none, .none, .none, .bool false, .none] }
structure DF (g h : Heap) (L e D : Addr) (news : List (Addr × Obj)) (mA : Str → Option Value) : Prop where
  ns : h.Ns1 D mA
  l : D ≠ L
  e : D ≠ e
  g : g.get? D = none
  n : ∀ p ∈ news, p.1 ≠ D
section
variable {prog : Program} {w : World} {A : Around} {E : Value → Shared → Prop} {s : Shared} {P : Params} {g : Heap} {L e t0 : Addr} {m : Str → Option Value} {news : List (Addr × Obj)} {v : Value} {name : Str}
theorem init_led {Q : Value → Shared → Prop} (F : Fr g L s.heap m) (N : News g L s.heap ((e, excO none t0) :: news)) (X : (hd.heap_1 P).In g) (hne : ∀ p ∈ news, p.1 ≠ e)
    (h : ∀ t1 h', Fr g L h' m → News g L h' ((e, excO none t1) :: news) → Q .none { s with heap := h' }) : wpAny (model prog w) A (call (.builtin "Exception.__init__") [.ref e, v]) Q E s := by
  refine init_sub (K := hd.heap_1 P) (X.keeps F.keep) (N _ (List.mem_cons_self ..)).1 rfl rfl rfl ?_
  have F1 := F.push { cls := .type "tuple", data := .seq #[v] }
  have N1 := N.push F { cls := .type "tuple", data := .seq #[v] }
  obtain ⟨F2, N2⟩ := news_upd (pre := []) (post := news) (d := e) (o := excO none t0) (o' := excO none s.heap.objs.size) (f := Obj.mapFields (·.setIfInBounds 0 (.ref s.heap.objs.size))) F1
    (fun p hp => N1 p (by simp only [List.nil_append] at hp ⊢; exact List.mem_cons_of_mem _ hp)) (fun _ h => nomatch h) hne rfl rfl
  exact h _ _ F2 N2
theorem store_led0 {Q : Unit → Shared → Prop} (F : Fr g L s.heap m) (N : News g L s.heap ((e, excO none t0) :: news)) (X : (hd.heap_1 P).In g) (hne : ∀ p ∈ news, p.1 ≠ e)
    (hna : nsIn (hd.heap_1 P) 37 name = some none) (hB : typeLookup (.type "Exception") name = pure none)
    (h : ∀ D h' tk', Fr g L h' m → News g L h' ((e, excO (some D) t0) :: news) → DF g h' L e D news (fun y => if y = name then some v else none) → Q () { s with heap := h', toks := tk' }) :
    wpAny (model prog w) A (setAttr (.ref e) name v) Q E s := by
  have X' := X.keeps F.keep
  have De := N _ (List.mem_cons_self ..)
  have F0 := F
  have N0 := N
  obtain ⟨hp, gg, d, t, os⟩ := s
  refine e_store1 PySem.F.store_Exception (qErr_at X') (qErr_ns X') (qErr_none X' (q_ns2 rfl)) (qErr_none X' hna) hB De.1 rfl (fun c hc => by cases hc) rfl fun h' tk' hx hn hk => ?_
  obtain ⟨F1, N1⟩ := fr_but (h' := h') F N hne (fun b o hb q _ => hk b o hb q) hx
  refine h hp.objs.size h' tk' F1 N1 ⟨hn, ?_, ?_, ?_, ?_⟩
  · exact Nat.ne_of_gt F0.ns.lt
  · exact Nat.ne_of_gt (Heap.lt_size De.1)
  · exact none_at_size F0
  · intro p hp'
    exact Nat.ne_of_lt (Heap.lt_size (N0 p (List.mem_cons_of_mem _ hp')).1)
theorem store_led1 {D : Addr} {mA : Str → Option Value} {ns : List Str} {Q : Unit → Shared → Prop} (F : Fr g L s.heap m) (N : News g L s.heap ((e, excO (some D) t0) :: news)) (d : DF g s.heap L e D news mA) (X : (hd.heap_1 P).In g) (hne : ∀ p ∈ news, p.1 ≠ e)
    (hna : nsIn (hd.heap_1 P) 37 name = some none) (hB : typeLookup (.type "Exception") name = pure none) (hw : Within mA ns) (hsz : ns.length ≤ sizeLine)
    (h : ∀ h' tk', Fr g L h' m → News g L h' ((e, excO (some D) t0) :: news) → DF g h' L e D news (fun y => if y = name then some v else mA y) → Q () { s with heap := h', toks := tk' }) :
    wpAny (model prog w) A (setAttr (.ref e) name v) Q E s := by
  have X' := X.keeps F.keep
  have De := N _ (List.mem_cons_self ..)
  have F0 := F
  have N0 := N
  obtain ⟨hp, gg, dd, t, os⟩ := s
  obtain ⟨dns, dl, de, dg, dn⟩ := d
  have hx38 : e ≠ 38 := by
    rintro rfl
    have := X 38 _ (q_lk rfl)
    rw [De.2.2] at this
    cases this
  refine store_attr PySem.F.store_Exception (qErr_at X') (qErr_ns X') (qErr_none X' (q_ns2 rfl)) (qErr_none X' hna) hB hx38 (mA := mA)
    ⟨_, De.1, rfl, (fun c hc => nomatch hc), .inr ⟨D, rfl, de, dns⟩⟩ (fun h' tk' hI hk hs => ?_) hw hsz
  obtain ⟨o₁, ho, c1, c2, c3, c4⟩ := hs _ De.1
  have e1 : o₁ = excO (some D) t0 := by
    obtain ⟨oc, od, oda, osl⟩ := o₁
    have := c4 D rfl
    dsimp only at c1 c2 c3 this
    subst c1 c2 c3 this
    rfl
  subst e1
  have hDk : ∀ b o, b ≠ e → hp.get? b = some o → (g.get? b ≠ none ∨ b = L ∨ ∃ o', (b, o') ∈ news) → h'.get? b = some o := by
    intro b o hb q z
    refine hk b o hb (fun o₀ dx h₀ hd => ?_) q
    obtain rfl := Option.some.inj (De.1.symm.trans h₀)
    obtain rfl := Option.some.inj hd
    rcases z with z | rfl | ⟨o', z⟩
    · rintro rfl; exact z dg
    · exact Ne.symm dl
    · exact dn _ z
  obtain ⟨F1, N1⟩ := fr_but F N hne hDk ho
  refine h h' tk' F1 N1 ⟨?_, dl, de, dg, dn⟩
  obtain ⟨o, q1, q2, q3, q4⟩ := hI
  obtain rfl := Option.some.inj (ho.symm.trans q1)
  rcases q4 with ⟨q, _⟩ | ⟨d', q, _, q5⟩
  · cases q
  · obtain rfl := Option.some.inj q
    exact q5
end
theorem fr_ne {h₀ g : Heap} {L D : Addr} {m : Str → Option Value} (F : Fr h₀ L g m) (z : g.get? D = none) : D ≠ L := by
  rintro rfl
  obtain ⟨_, _, _, ho, _⟩ := F.ns
  rw [z] at ho
  cases ho

local macro_rules | `(tactic| walk_at "binaryOp Add str str") => `(tactic| (k_here; (with_reducible show wpAny _ _ (binaryOp Operator.Add (Value.str _ _) (Value.str text _)) _ _ _); ((refine SBL.add (hsz := ?hsz) ?_); (case hsz => (rw [len8, sizeLine_eq]; omega)); intro _ _ _)))
local macro_rules | `(tactic| walk_at "getMethod type:Exception") => `(tactic| (k_here; refine' method_type ?F ?X ?m (by decide +kernel) ?e ?h ?_; (case F => k_asm); (case X => k_asm); (case m => exact meta_Exc); (case e => k_dflt k_is); (case h => k_handed)))
local macro_rules | `(tactic| walk_at "setAttr ref") => `(tactic| (k_here; refine Stop.mk ?_))
local macro_rules | `(tactic| walk_at "call builtin:Exception.__init__") => `(tactic| (k_here; refine Stop.mk ?_))
local macro_rules | `(tactic| walk_at "exec Raise some none") => `(tactic| refine Raise_newQ rfl ?_)
local macro_rules | `(tactic| walk_at "call ref") => `(tactic| (k_here; refine Stop.call (by decide) ?_))
theorem c_refuse : ∀ {w : World} {mean : ExcName → Option Value} {mg mb : Str → Option Value} {text : Str} {tt : Tok} {news : List (Addr × Obj)}
    {cn : Str} {cs : Scope} {a : Addr} {ccd : Value} {cl : List (Str × Addr)} {outer : List Env} {A₀ : Around} {base h₀ : Heap} {L : Addr} {m : Str → Option Value} {s : Shared} {Q E : Value → Shared → Prop}
    (XB : (hd.heap_1 w.params).In base) (B : Below A₀ base outer h₀) (F : Fr h₀ L s.heap m) (X : (hd.heap_1 w.params).In h₀) (N : News h₀ L s.heap news) (T : Top hd.view_39 (looseW hd.view_39 [Str.ofString "BOUNDS"]) mean mg mb h₀) (hk : cs.kind = .function) (hz : text.length < 200)
    (hret : ∀ (e : Addr) (G : Heap) (h' : Heap) (tk' : Nat), Fr h₀ L G m → G.UpToSlots h' → RaisedQ base G (envX cn cs L a ccd cl :: outer) e news h' → E (.ref e) { s with heap := h', toks := tk' }),
    wpAny (model PySem.Challenge.rw_pf0267_01.row.prog w) (ktrTop 304 13 (some []) cn cs L a ccd cl outer) (call (.ref 198) [.str text tt] []) Q E s := by
  k_fill
  intro w mean mg mb text tt news cn cs a ccd cl outer A₀ base h₀ L m s Q E XB B F X N T hk hz hret
  refine wpAny_call ?_
  k_dflt (refine' code_def ?k1 ?k2 ?k3 ?k4 ?k5 ?kA ?kF ?kK ?k6 ?k7 ?k8 ?k9 ?kB ?_ ?c2 ?c3 ?c4 ?c5; (case kA => exact rfl); (case kF => exact rfl); (case kK => first | assumption | exact rfl); (case k1 => k_asm); (case k2 => k_asm); (case k3 => k_asm); (case k4 => k_asm); (case k5 => k_asm); (case k6 => k_is); (case k7 => k_is); (case k8 => exact Nat.le_of_ble_eq_true rfl); (case k9 => exact BindsTo.of_eq rfl); (case c5 => decide); (case kB => exact locs rfl); (case c2 => exact rfl); (case c3 => exact rfl); (case c4 => exact rfl); k_whole; intro g' L' h' FG' F' N' B' X' T'; (try dsimp only); (try k_lift B'))
  (try k_fold)
  k_steps
  unfold Stop
  have X2 := X'.keeps F'.keep
  refine wpAny_call_exc_init PySem.F.excBase_Exception (qErr_at X2) (qErr_ns X2) (qErr_init X2) (X2 35 _ (by k_is)) rfl (fun h2 e hm => ?_) (by show 3 ≤ sizeLine; rw [sizeLine_eq]; decide)
  obtain ⟨t0, F2, N2, hne⟩ := news_made F' N' hm
  clear F' N'
  have FGo := FG'
  have Bo := B'
  refine wpAny_call ?_
  k_dflt (refine' code_def ?k1 ?k2 ?k3 ?k4 ?k5 ?kA ?kF ?kK ?k6 ?k7 ?k8 ?k9 ?kB ?_ ?c2 ?c3 ?c4 ?c5; (case kA => exact rfl); (case kF => exact rfl); (case kK => first | assumption | exact rfl); (case k1 => k_asm); (case k2 => k_asm); (case k3 => k_asm); (case k4 => k_asm); (case k5 => k_asm); (case k6 => k_is); (case k7 => k_is); (case k8 => exact Nat.le_of_ble_eq_true rfl); (case k9 => exact BindsTo.of_eq rfl); (case c5 => decide); (case kB => exact locs rfl); (case c2 => exact rfl); (case c3 => exact rfl); (case c4 => exact rfl); k_whole; intro g' L' h' FG' F' N' B' X' T'; (try dsimp only); (try k_lift B'))
  (try k_fold)
  k_steps
  unfold Stop
  refine init_led (P := w.params) (by k_asm) (by k_asm) (by k_asm) hne fun t1 h3 F3 N3 => ?_
  (try k_fold)
  k_steps
  unfold Stop
  refine store_led0 (P := w.params) (by k_asm) (by k_asm) (by k_asm) hne (q_ns3 rfl) lk_code fun D h4 tk4 F4 N4 d4 => ?_
  (try k_fold)
  k_steps
  unfold Stop
  refine store_led1 (P := w.params) (by k_asm) (by k_asm) d4 (by k_asm) hne (q_ns4 rfl) lk_frame_type (Within.cons _ _ Within.nil) (by rw [sizeLine_eq]; decide) fun h5 tk5 F5 N5 d5 => ?_
  (try k_fold)
  k_steps
  unfold Stop
  refine store_led1 (P := w.params) (by k_asm) (by k_asm) d5 (by k_asm) hne (q_ns5 rfl) lk_text (Within.cons _ _ (Within.cons _ _ Within.nil)) (by rw [sizeLine_eq]; decide) fun h6 tk6 F6 N6 d6 => ?_
  (try k_fold)
  k_steps
  (with_reducible rename Fr _ _ _ _ => F7); (with_reducible rename News _ _ _ _ => N7)
  have he7 := N7 _ (List.mem_cons_self ..)
  refine ⟨e, excO (some D) t1, _, rfl, qErr_at (X'.keeps F6.keep), he7.1, rfl, rfl, rfl, ?_⟩
  refine leave_firstQ Bo F7 (fun p hp => N7 p (List.mem_cons_of_mem _ hp)) he7.1 rfl rfl rfl rfl he7.2.2 d6.ns.ns (fr_ne FG' d6.g) d6.e (kts_none FG'.keep d6.g) rfl hne fun h' R U => ?_
  exact hret e _ h' tk6 FGo U R

end PartNX2

theorem flush32 {M : Model} {A : Around} {env : Env} {Q : Flow → Shared → Prop} {E : Value → Shared → Prop} {s : Shared} (h : wpAny M A (execs [] env) Q E s) : wpAny M A (execs [] env) Q E s := by
  w_top off
  first | (walk1; fail) | exact h

section PartNCH

theorem isnot_va {M : Model} {A : Around} {E : Value → Shared → Prop} {s : Shared} {Q : Value → Shared → Prop} {va : Option Addr} (h : Q (.bool va.isSome) s) : wpAny M A (compareOp .IsNot ((va.map Value.ref).getD .none) .none) Q E s := by
  cases va with
  | none => exact wpAny_isNot_self rfl h
  | some a => exact isnot_none_ne (by intro x; cases x) h
noncomputable abbrev sISC : Str := Str.ofString "initial_source_connection_id"
noncomputable abbrev sODC : Str := Str.ofString "original_destination_connection_id"
noncomputable abbrev sRSC : Str := Str.ofString "retry_source_connection_id"
noncomputable abbrev sADR : Str := Str.ofString "preferred_address"
noncomputable def okIds (srv : Bool) (vi vo vr : Option (List UInt8)) (orig src : List UInt8) (rs : Option (List UInt8)) (addr : Bool) : Bool :=
  vi == some src && (!srv || (vo == some orig && vr == rs && !(addr && src == [])))

local macro_rules | `(tactic| walk_at "compareOp IsNot") => `(tactic| (k_here; (refine isnot_va ?_)))
local macro_rules | `(tactic| walk_at "compareOp NotEq") => `(tactic| (k_here; (with_reducible show wpAny _ _ (compareOp CmpOp.NotEq (Option.getD (ov _ _) _) (Value.bytes _ _)) _ _ _); (refine ne_ov (y := some _) ?_)))
local macro_rules | `(tactic| walk_at "compareOp NotEq") => `(tactic| (k_here; (with_reducible show wpAny _ _ (compareOp CmpOp.NotEq (Option.getD (ov _ _) _) (Option.getD (ov _ _) _)) _ _ _); (refine ne_ov ?_)))
local macro_rules | `(tactic| walk_at "call builtin:dict.get") => `(tactic| (k_here; k_dflt (refine' kdg_get1 (knd := PySem.strKind _ _) ?N ?hm ?ho ?lo (strKind_is _ _ _ _) _ ?hl ?_; (case N => k_asm); (case hm => first | assumption | exact List.mem_cons_of_mem _ (by assumption)); (case ho => assumption); (case lo => assumption); (case hl => assumption))))
local macro_rules | `(tactic| walk_at "call ref") => `(tactic| (k_here; refine Stop.call (by decide) ?_))
theorem c_checked : ∀ {w : World} {mean : ExcName → Option Value} {mg mb : Str → Option Value} {dc : Addr} {o : Obj} {kvs : List (Str × Value)} {role : Str} {orig src : List UInt8} {rs vi vo vr : Option (List UInt8)} {va : Option Addr} {tr to ts trs ti t2 t3 : Tok} {news : List (Addr × Obj)}
    {cn : Str} {cs : Scope} {a : Addr} {ccd : Value} {cl : List (Str × Addr)} {outer : List Env} {A₀ : Around} {base h₀ : Heap} {L : Addr} {m : Str → Option Value} {s : Shared} {Q E : Value → Shared → Prop}
    (XB : (hd.heap_1 w.params).In base) (B : Below A₀ base outer h₀) (F : Fr h₀ L s.heap m) (X : (hd.heap_1 w.params).In h₀) (N : News h₀ L s.heap news) (T : Top hd.view_39 (looseW hd.view_39 [Str.ofString "BOUNDS"]) mean mg mb h₀) (hk : cs.kind = .function) (hm : (dc, o) ∈ news) (ho : o.IsDictOf (strKind PySem.Challenge.rw_pf0267_01.row.prog w) kvs) (lo : (dc == sysModules) = false) (hi : valueAt kvs sISC = ov vi ti) (hd : valueAt kvs sODC = ov vo t2) (hr : valueAt kvs sRSC = ov vr t3) (ha : valueAt kvs sADR = va.map .ref) (hz : src.length < 1000)
    (hret : okIds (role != Str.ofString "client") vi vo vr orig src rs va.isSome = true → ∀ (h' : Heap) (tk' : Nat), Fr h₀ L h' m → News h₀ L h' news → Q .none { s with heap := h', toks := tk' })
    (hexc : okIds (role != Str.ofString "client") vi vo vr orig src rs va.isSome = false → ∀ (e : Addr) (G : Heap) (h' : Heap) (tk' : Nat), Fr h₀ L G m → G.UpToSlots h' → RaisedQ base G (envX cn cs L a ccd cl :: outer) e news h' → E (.ref e) { s with heap := h', toks := tk' }),
    wpAny (model PySem.Challenge.rw_pf0267_01.row.prog w) (ktrTop 303 10 (some []) cn cs L a ccd cl outer) (call (.ref 273) [.ref dc, .str role tr, .bytes orig.toArray to, .bytes src.toArray ts, (ov rs trs).getD .none] []) Q E s := by
  k_fill
  intro w mean mg mb dc o kvs role orig src rs vi vo vr va tr to ts trs ti t2 t3 news cn cs a ccd cl outer A₀ base h₀ L m s Q E XB B F X N T hk hm ho lo hi hd hr ha hz hret hexc
  refine wpAny_call ?_
  k_dflt (refine' code_def ?k1 ?k2 ?k3 ?k4 ?k5 ?kA ?kF ?kK ?k6 ?k7 ?k8 ?k9 ?kB ?_ ?c2 ?c3 ?c4 ?c5; (case kA => exact rfl); (case kF => exact rfl); (case kK => first | assumption | exact rfl); (case k1 => k_asm); (case k2 => k_asm); (case k3 => k_asm); (case k4 => k_asm); (case k5 => k_asm); (case k6 => k_is); (case k7 => k_is); (case k8 => exact Nat.le_of_ble_eq_true rfl); (case k9 => exact BindsTo.of_eq rfl); (case c5 => decide); (case kB => exact locs rfl); (case c2 => exact rfl); (case c3 => exact rfl); (case c4 => exact rfl); k_whole; intro g' L' h' FG' F' N' B' X' T'; (try dsimp only); (try k_lift B'))
  (try k_fold)
  k_steps
  all_goals try (
    refine hret ?_ _ _ (by k_asm) (by first | k_asm | (refine' cb_drop ?cbN ?cbS; (case cbN => assumption); (case cbS => (intro p hp; simp only [List.mem_cons, List.mem_append]; first | exact .inr hp | exact .inr (.inr hp) | exact .inr (.inr (.inr hp)) | exact .inr (.inr (.inr (.inr hp)))))))
    clear hret hexc
    simp_all [okIds])
  · unfold Stop
    k_dflt (refine' c_refuse ?XBR1 ?BR1 ?FR1 ?XR1 ?NR1 ?TR1 ?hkR1 ?hzR1 ?hexcR1)
    (case BR1 => k_asm)
    (case XBR1 => k_asm)
    (case FR1 => k_asm)
    (case XR1 => k_asm)
    (case NR1 => k_asm)
    (case TR1 => k_asm)
    (case hkR1 => first | exact rfl | assumption)
    (case hzR1 => decide +kernel)
    intro e9 G9 h9 tk9 FG9 U9 R9
    refine leave_onQ B' FG9 R9 U9 fun h8 R8 U8 => ?_
    refine hexc ?_ e9 g' h8 tk9 FG' U8 R8
    clear hret hexc
    simp_all [okIds]
  · unfold Stop
    k_dflt (refine' c_refuse ?XBR2 ?BR2 ?FR2 ?XR2 ?NR2 ?TR2 ?hkR2 ?hzR2 ?hexcR2)
    (case BR2 => k_asm)
    (case XBR2 => k_asm)
    (case FR2 => k_asm)
    (case XR2 => k_asm)
    (case NR2 => k_asm)
    (case TR2 => k_asm)
    (case hkR2 => first | exact rfl | assumption)
    (case hzR2 => decide +kernel)
    intro e9 G9 h9 tk9 FG9 U9 R9
    refine leave_onQ B' FG9 R9 U9 fun h8 R8 U8 => ?_
    refine hexc ?_ e9 g' h8 tk9 FG' U8 R8
    clear hret hexc
    simp_all [okIds]
  · unfold Stop
    k_dflt (refine' c_refuse ?XBR3 ?BR3 ?FR3 ?XR3 ?NR3 ?TR3 ?hkR3 ?hzR3 ?hexcR3)
    (case BR3 => k_asm)
    (case XBR3 => k_asm)
    (case FR3 => k_asm)
    (case XR3 => k_asm)
    (case NR3 => k_asm)
    (case TR3 => k_asm)
    (case hkR3 => first | exact rfl | assumption)
    (case hzR3 => decide +kernel)
    intro e9 G9 h9 tk9 FG9 U9 R9
    refine leave_onQ B' FG9 R9 U9 fun h8 R8 U8 => ?_
    refine hexc ?_ e9 g' h8 tk9 FG' U8 R8
    clear hret hexc
    simp_all [okIds]
  · unfold Stop
    k_dflt (refine' c_refuse ?XBR4 ?BR4 ?FR4 ?XR4 ?NR4 ?TR4 ?hkR4 ?hzR4 ?hexcR4)
    (case BR4 => k_asm)
    (case XBR4 => k_asm)
    (case FR4 => k_asm)
    (case XR4 => k_asm)
    (case NR4 => k_asm)
    (case TR4 => k_asm)
    (case hkR4 => first | exact rfl | assumption)
    (case hzR4 => decide +kernel)
    intro e9 G9 h9 tk9 FG9 U9 R9
    refine leave_onQ B' FG9 R9 U9 fun h8 R8 U8 => ?_
    refine hexc ?_ e9 g' h8 tk9 FG' U8 R8
    clear hret hexc
    simp_all [okIds]

end PartNCH

theorem flush33 {M : Model} {A : Around} {env : Env} {Q : Flow → Shared → Prop} {E : Value → Shared → Prop} {s : Shared} (h : wpAny M A (execs [] env) Q E s) : wpAny M A (execs [] env) Q E s := by
  w_top off
  first | (walk1; fail) | exact h

section PartNDF

section
variable {K : Type} [DecidableEq K]
theorem vA_stored {kvs : List (K × Value)} {k k' : K} {v : Value} : valueAt (stored kvs k v) k' = if k' = k then some v else valueAt kvs k' := by
  unfold stored valueAt
  by_cases hany : kvs.any (fun kv => kv.1 = k) = true
  · rw [if_pos hany]
    by_cases e : k' = k
    · subst e
      rw [if_pos rfl]
      induction kvs with
      | nil => simp at hany
      | cons p ps ih =>
        by_cases hp : p.1 = k'
        · simp [hp]
        · have : ps.any (fun kv => kv.1 = k') = true := by simpa [hp] using hany
          simp only [List.map_cons, if_neg hp, List.find?_cons, decide_eq_false hp]
          exact ih this
    · rw [if_neg e]
      clear hany
      induction kvs with
      | nil => rfl
      | cons p ps ih =>
        simp only [List.map_cons, List.find?_cons]
        by_cases hp : p.1 = k
        · have h2 : ¬ (k = k') := fun z => e z.symm
          have h3 : ¬ (p.1 = k') := fun z => h2 (hp ▸ z)
          simp only [if_pos hp, decide_eq_false h2, decide_eq_false h3]
          simpa [decide_eq_false h3, hp, decide_eq_false h2] using ih
        · simp only [if_neg hp]
          by_cases h3 : p.1 = k'
          · simp [h3]
          · simp only [decide_eq_false h3]
            exact ih
  · rw [if_neg hany]
    by_cases e : k' = k
    · subst e
      rw [if_pos rfl]
      have : kvs.find? (fun kv => decide (kv.1 = k')) = none := by
        rw [List.find?_eq_none]
        intro x hx
        simp only [List.any_eq_true, not_exists, not_and] at hany
        exact hany x hx
      simp [List.find?_append, this]
    · rw [if_neg e, List.find?_append]
      have : ¬ (k = k') := fun z => e z.symm
      simp [decide_eq_false this]
theorem vA_cons {p : K × Value} {b : List (K × Value)} {k : K} : valueAt (p :: b) k = if p.1 = k then some p.2 else valueAt b k := by
  unfold valueAt
  by_cases e : p.1 = k <;> simp [e]
theorem vA_merged {b : List (K × Value)} : ∀ {a : List (K × Value)}, (b.map (·.1)).Nodup → ∀ k, valueAt (merged a b) k = (valueAt b k).or (valueAt a k) := by
  induction b with
  | nil => intro a _ k; rfl
  | cons p ps ih =>
    intro a hn k
    rw [List.map_cons, List.nodup_cons] at hn
    show valueAt (merged (stored a p.1 p.2) ps) k = _
    rw [ih hn.2 k, vA_stored, vA_cons]
    by_cases e : k = p.1
    · have h1 : valueAt ps k = none := valueAt_none_of_not_mem (by rw [e]; exact hn.1)
      rw [h1, if_pos e, if_pos e.symm]
      rfl
    · rw [if_neg e, if_neg (fun z => e z.symm)]
theorem stored_length_le (kvs : List (K × Value)) (k : K) (v : Value) : (stored kvs k v).length ≤ kvs.length + 1 := by
  unfold stored
  split <;> simp
end
section
variable {prog : Program} {w : World} {K : Type} [DecidableEq K] {knd : KeyKind prog w K} {A : Around} {E : Value → Shared → Prop} {s : Shared} {h₀ : Heap} {L d e : Addr} {m : Str → Option Value} {news : List (Addr × Obj)} {o oe : Obj} {kvs more : List (K × Value)} {g : Obj → List (Addr × Obj)}
theorem kda_update {Q : Value → Shared → Prop} (F : Fr h₀ L s.heap m) (N : News h₀ L s.heap news) (U : UpdF d o news g) (hd : o.IsDictOf knd kvs) (hm : (e, oe) ∈ news) (he : oe.IsDictOf knd more) (lo : (e == sysModules) = false) (hde : d ≠ e)
    (hsz : kvs.length + more.length ≤ sizeLine) (h : ∀ h' o', Fr h₀ L h' m → News h₀ L h' (g o') → o'.IsDictOf knd (merged kvs more) → Q .none { s with heap := h' }) :
    wpAny (model prog w) A (call (.builtin "dict.update") [.ref d, .ref e]) Q E s := by
  have hE := kda_dict N hm he
  obtain ⟨pre, post, rfl, hg, a, b⟩ := U.split
  have hm' := N (d, o) (List.mem_append_right _ (.head _))
  have hD : s.heap.DictOf knd d kvs := Heap.dictOf_iff.mpr ⟨o, hm'.1, hd⟩
  refine call_meetsIn PySem.F.slot_dict_update hD.typeIs PySem.F.entry_dict_update (PySem.F.args_dict_update_2 _ _) (meets_dict_update knd d e hde lo) ⟨kvs, more, hD, hE, hsz, fun h' hd' _ hs => ?_⟩
  obtain ⟨o', ho', hd''⟩ := Heap.dictOf_iff.mp hd'
  exact h h' o' (F.change hs hm'.2.1 hm'.2.2) (hg o' ▸ N.setIn a b hs ho') hd''
theorem kdu_method {pl : Sem Bool} {Q : Value × List Value → Shared → Prop} (N : News h₀ L s.heap news) (hp : (d, o) ∈ news) (hd : o.IsDictOf knd kvs) (h : Q (.builtin "dict.update", [.ref d]) s) : wpAny (model prog w) A (getMethod (.ref d) "update" pl) Q E s :=
  have hD := kda_dict N hp hd
  getMethod_builtin hD.typeIs PySem.F.plainAttrs_dict PySem.F.slot_dict_update PySem.F.type_dict_update hD.mapOf.noDict h
theorem IsDictOf_nodup (h : o.IsDictOf knd kvs) : (kvs.map (·.1)).Nodup := by
  obtain ⟨_, _, _, _, _, _, hn⟩ := h
  exact hn
end
noncomputable def defs : List (Str × Value) := [(Str.ofString "max_idle_timeout", .int 0 447), (Str.ofString "max_udp_payload_size", .int 65527 449), (Str.ofString "initial_max_data", .int 0 451), (Str.ofString "initial_max_stream_data_bidi_local", .int 0 453), (Str.ofString "initial_max_stream_data_bidi_remote", .int 0 455), (Str.ofString "initial_max_stream_data_uni", .int 0 457), (Str.ofString "initial_max_streams_bidi", .int 0 459), (Str.ofString "initial_max_streams_uni", .int 0 461), (Str.ofString "ack_delay_exponent", .int 3 463), (Str.ofString "max_ack_delay", .int 25 465), (Str.ofString "active_connection_id_limit", .int 2 467)]

noncomputable def dNames : List Str := Str.ofString "disable_active_migration" :: defs.map (·.1)
theorem defs_len : (merged [] defs).length ≤ 11 := merged_length_le [] defs
theorem defs_nodup : (defs.map (·.1)).Nodup := by decide +kernel
theorem vA_defs {kvs : List (Str × Value)} (hn : (kvs.map (·.1)).Nodup) {k : Str} (hk : k ∉ dNames) : valueAt (merged (stored (merged [] defs) (Str.ofString "disable_active_migration") (.bool false)) kvs) k = valueAt kvs k := by
  rw [vA_merged hn, vA_stored, vA_merged defs_nodup]
  have h1 : k ≠ Str.ofString "disable_active_migration" := fun e => hk (by rw [e]; exact List.mem_cons_self ..)
  have h2 : valueAt defs k = none := valueAt_none_of_not_mem fun h => hk (List.mem_cons_of_mem _ h)
  rw [if_neg h1, h2]
  cases valueAt kvs k <;> rfl
noncomputable def Stop3 (P : Prop) : Prop := P
theorem Stop3.mk {P : Prop} (h : Stop3 P) : P := h

local macro_rules | `(tactic| walk_at "call type:dict") => `(tactic| (k_here; refine Stop3.mk ?_))
local macro_rules | `(tactic| walk_at "setItem ref str") => `(tactic| (k_here; k_dflt (refine' kda_set (knd := PySem.strKind _ _) ?F ?N ?U ?ho (strKind_is _ _ _ _) ?hsz ?_; (case F => k_asm); (case N => k_asm); (case U => k_updF); (case ho => assumption); (case hsz => (first | assumption | (have := defs_len; rw [sizeLine_eq]; omega)))); intro _ _ _ _ _; (try dsimp only)))
local macro_rules | `(tactic| walk_at "getMethod ref") => `(tactic| (k_here; (with_reducible show wpAny _ _ (getMethod (Value.ref _) (PySem.Str.ofString "update") _) _ _ _); k_dflt (refine' kdu_method (knd := PySem.strKind _ _) ?N ?hm ?ho ?_; (case N => k_asm); (case hm => first | assumption | exact List.mem_cons_self .. | exact List.mem_cons_of_mem _ (by assumption)); (case ho => assumption))))
local macro_rules | `(tactic| walk_at "call builtin:dict.update") => `(tactic| (k_here; refine Stop3.mk ?_))
theorem c_defaults : ∀ {w : World} {mean : ExcName → Option Value} {mg mb : Str → Option Value} {td : Addr} {o : Obj} {kvs : List (Str × Value)} {news : List (Addr × Obj)}
    {cn : Str} {cs : Scope} {a : Addr} {ccd : Value} {cl : List (Str × Addr)} {outer : List Env} {A₀ : Around} {base h₀ : Heap} {L : Addr} {m : Str → Option Value} {s : Shared} {Q E : Value → Shared → Prop}
    (XB : (hd.heap_1 w.params).In base) (B : Below A₀ base outer h₀) (F : Fr h₀ L s.heap m) (X : (hd.heap_1 w.params).In h₀) (N : News h₀ L s.heap news) (T : Top hd.view_39 (looseW hd.view_39 [Str.ofString "BOUNDS"]) mean mg mb h₀) (hk : cs.kind = .function) (hm : (td, o) ∈ news) (ho : o.IsDictOf (strKind PySem.Challenge.rw_pf0267_01.row.prog w) kvs) (lo : (td == sysModules) = false) (hz : kvs.length ≤ 1000)
    (hret : ∀ (d : Addr) (o' : Obj) (kv' : List (Str × Value)) (h' : Heap) (tk' : Nat), Fr h₀ L h' m → News h₀ L h' ((d, o') :: news) → (∀ p ∈ news, p.1 < d) → (d == sysModules) = false → o'.IsDictOf (strKind PySem.Challenge.rw_pf0267_01.row.prog w) kv' → (∀ k, k ∉ dNames → valueAt kv' k = valueAt kvs k) → Q (.ref d) { s with heap := h', toks := tk' }),
    wpAny (model PySem.Challenge.rw_pf0267_01.row.prog w) (ktrTop 304 13 (some []) cn cs L a ccd cl outer) (call (.ref 266) [.ref td] []) Q E s := by
  k_fill
  intro w mean mg mb td o kvs news cn cs a ccd cl outer A₀ base h₀ L m s Q E XB B F X N T hk hm ho lo hz hret
  refine wpAny_call ?_
  k_dflt (refine' code_def ?k1 ?k2 ?k3 ?k4 ?k5 ?kA ?kF ?kK ?k6 ?k7 ?k8 ?k9 ?kB ?_ ?c2 ?c3 ?c4 ?c5; (case kA => exact rfl); (case kF => exact rfl); (case kK => first | assumption | exact rfl); (case k1 => k_asm); (case k2 => k_asm); (case k3 => k_asm); (case k4 => k_asm); (case k5 => k_asm); (case k6 => k_is); (case k7 => k_is); (case k8 => exact Nat.le_of_ble_eq_true rfl); (case k9 => exact BindsTo.of_eq rfl); (case c5 => decide); (case kB => exact locs rfl); (case c2 => exact rfl); (case c3 => exact rfl); (case c4 => exact rfl); k_whole; intro g' L' h' FG' F' N' B' X' T'; (try dsimp only); (try k_lift B'))
  refine wpAny_noRaise ?_
  (try k_fold)
  k_steps
  unfold Stop3
  (with_reducible rename Fr _ _ _ _ => F9); (with_reducible rename News _ _ _ _ => N9)
  refine dict_pairs_tuple (kvs := defs) F9 N9 (modules_low (Top.nolimit (by k_asm))) rfl (F9.keep _ _ (X' 184 _ (by k_is))) rfl rfl rfl rfl (by decide) (fun i kv hkv => ?_) fun d1 h1 tk1 o1 F1 N1 l1 lo1 ho1 => ?_
  · match i, hkv with
    | 0, hkv => obtain rfl := Option.some.inj hkv; exact ⟨173, _, 446, _, rfl, F9.keep _ _ (X' 173 _ (by k_is)), rfl, rfl⟩
    | 1, hkv => obtain rfl := Option.some.inj hkv; exact ⟨174, _, 448, _, rfl, F9.keep _ _ (X' 174 _ (by k_is)), rfl, rfl⟩
    | 2, hkv => obtain rfl := Option.some.inj hkv; exact ⟨175, _, 450, _, rfl, F9.keep _ _ (X' 175 _ (by k_is)), rfl, rfl⟩
    | 3, hkv => obtain rfl := Option.some.inj hkv; exact ⟨176, _, 452, _, rfl, F9.keep _ _ (X' 176 _ (by k_is)), rfl, rfl⟩
    | 4, hkv => obtain rfl := Option.some.inj hkv; exact ⟨177, _, 454, _, rfl, F9.keep _ _ (X' 177 _ (by k_is)), rfl, rfl⟩
    | 5, hkv => obtain rfl := Option.some.inj hkv; exact ⟨178, _, 456, _, rfl, F9.keep _ _ (X' 178 _ (by k_is)), rfl, rfl⟩
    | 6, hkv => obtain rfl := Option.some.inj hkv; exact ⟨179, _, 458, _, rfl, F9.keep _ _ (X' 179 _ (by k_is)), rfl, rfl⟩
    | 7, hkv => obtain rfl := Option.some.inj hkv; exact ⟨180, _, 460, _, rfl, F9.keep _ _ (X' 180 _ (by k_is)), rfl, rfl⟩
    | 8, hkv => obtain rfl := Option.some.inj hkv; exact ⟨181, _, 462, _, rfl, F9.keep _ _ (X' 181 _ (by k_is)), rfl, rfl⟩
    | 9, hkv => obtain rfl := Option.some.inj hkv; exact ⟨182, _, 464, _, rfl, F9.keep _ _ (X' 182 _ (by k_is)), rfl, rfl⟩
    | 10, hkv => obtain rfl := Option.some.inj hkv; exact ⟨183, _, 466, _, rfl, F9.keep _ _ (X' 183 _ (by k_is)), rfl, rfl⟩
    | (n + 11), hkv => cases hkv
  clear F9 N9
  k_steps
  unfold Stop3
  (with_reducible rename Fr _ _ _ _ => F8); (with_reducible rename News _ _ _ _ => N8)
  have l2 := l1
  k_dflt (refine' kda_update (knd := PySem.strKind _ _) F8 N8 ?U ?hoo (List.mem_cons_of_mem _ hm) ho lo ?ne ?hsz ?kk)
  (case U => k_updF)
  (case hoo => assumption)
  (case ne => exact Nat.ne_of_gt (l2 _ hm))
  (case hsz => (have := defs_len; have := stored_length_le (merged [] defs) (Str.ofString "disable_active_migration") (.bool false); rw [sizeLine_eq]; omega))
  clear F8 N8
  intro h5 o5 F5 N5 ho5
  (try dsimp only at N5)
  k_steps
  exact hret _ _ _ _ _ (by k_asm) (by k_asm) l2 lo1 ho5 (fun k hk => vA_defs (IsDictOf_nodup ho) hk)

end PartNDF

theorem flush34 {M : Model} {A : Around} {env : Env} {Q : Flow → Shared → Prop} {E : Value → Shared → Prop} {s : Shared} (h : wpAny M A (execs [] env) Q E s) : wpAny M A (execs [] env) Q E s := by
  w_top off
  first | (walk1; fail) | exact h

section PartNRP

structure PZ where
  T : Addr
  t1 : Tok
  t2 : Tok
  r : RowD
  v : List UInt8
theorem pz_of {tups : List (Addr × Obj)} {val : Str → Option (List UInt8)} : ∀ (rs : List RowD) (vs : List Value), PairsIn tups vs (pairsD val rs) →
    ∃ zs : List PZ, vs = zs.map (fun z => Value.ref z.T) ∧ (∀ z ∈ zs, (z.T, pairO (z.r.n.toUInt8, z.v) z.t1 z.t2) ∈ tups ∧ z.r ∈ rs ∧ val z.r.name = some z.v) ∧ zs.map (·.r) = rs.filter (fun r => (val r.name).isSome)
  | [], [], _ => ⟨[], rfl, (fun _ h => nomatch h), rfl⟩
  | [], _ :: _, h => h.elim
  | r :: rs, vs, h => by
    unfold pairsD at h
    cases hv : val r.name with
    | none =>
      rw [hv] at h
      obtain ⟨zs, h1, h2, h3⟩ := pz_of rs vs h
      exact ⟨zs, h1, fun z hz => ⟨(h2 z hz).1, List.mem_cons_of_mem _ (h2 z hz).2.1, (h2 z hz).2.2⟩, by rw [List.filter_cons]; simp only [hv, Option.isSome_none]; exact h3⟩
    | some v =>
      rw [hv] at h
      cases vs with
      | nil => exact h.elim
      | cons x vs =>
        obtain ⟨⟨T, t1, t2, e, hm⟩, hr⟩ := h
        obtain ⟨zs, h1, h2, h3⟩ := pz_of rs vs hr
        refine ⟨⟨T, t1, t2, r, v⟩ :: zs, by rw [e, h1]; rfl, fun z hz => ?_, by rw [List.filter_cons]; simp only [hv, Option.isSome_some, if_true, List.map_cons, h3]⟩
        rcases List.mem_cons.mp hz with rfl | hz
        · exact ⟨hm, List.mem_cons_self .., hv⟩
        · exact ⟨(h2 z hz).1, List.mem_cons_of_mem _ (h2 z hz).2.1, (h2 z hz).2.2⟩
/-- what the found dict holds for a row that was told -/
noncomputable def FoundOk (kvs : List (Str × Value)) (r : RowD) (v : List UInt8) : Prop :=
  (r.kind = Str.ofString "id" ∧ ∃ t, valueAt kvs r.name = some (.bytes v.toArray t)) ∨ (r.kind = Str.ofString "address" ∧ ∃ a, valueAt kvs r.name = some (.ref a))
/-- what a told value is like -/
noncomputable def ToldOk (r : RowD) (v : List UInt8) : Prop := v.length < 64 ∧ ((r.kind = Str.ofString "id" ∧ v.length ≤ 20) ∨ (r.kind = Str.ofString "address" ∧ v = adr43.toList))

noncomputable abbrev pzO (z : PZ) : Addr × Obj := (z.T, pairO (z.r.n.toUInt8, z.v) z.t1 z.t2)
noncomputable def RPI (prog : Program) (w : World) (R0 : List RowD) (z0 : List PZ) (kv₀ : List (Str × Value)) (m₀ : Str → Option Value) (fd md : Addr) (tail : List (Addr × Obj)) (zs : List PZ) (m : Str → Option Value) (news : List (Addr × Obj)) : Prop :=
  ∃ (mo fo : Obj) (mk : List (Int × Value)) (kvs : List (Str × Value)) (dn : List PZ) (x1 x2 x3 : Option Value),
    news = (md, mo) :: (fd, fo) :: tail ∧ mo.IsDictOf (intKind prog w) mk ∧ fo.IsDictOf (strKind prog w) kvs ∧ mk.length ≤ dn.length ∧ kvs.length ≤ kv₀.length + dn.length ∧ (dn ++ zs).map (·.r) = R0 ∧ (∀ y ∈ dn ++ zs, y ∈ z0) ∧
    (∀ z ∈ dn, FoundOk kvs z.r z.v) ∧ (∀ k, (∀ z ∈ dn, z.r.name ≠ k) → valueAt kvs k = valueAt kv₀ k) ∧ (∀ n, valueAt mk n ≠ none → ∃ z ∈ dn, n = (z.r.n : Int)) ∧
    m = fun y => if y = Str.ofString "number" then x1 else if y = Str.ofString "value" then x2 else if y = Str.ofString "row" then x3 else m₀ y
theorem RPI.start {prog : Program} {w : World} {R0 : List RowD} {kv₀ : List (Str × Value)} {m : Str → Option Value} {fd md : Addr} {tail : List (Addr × Obj)} {zs : List PZ} {mo fo : Obj}
    (hm : mo.IsDictOf (intKind prog w) []) (hf : fo.IsDictOf (strKind prog w) kv₀) (hz : zs.map (·.r) = R0) : RPI prog w R0 zs kv₀ m fd md tail zs m ((md, mo) :: (fd, fo) :: tail) :=
  ⟨mo, fo, [], kv₀, [], m (Str.ofString "number"), m (Str.ofString "value"), m (Str.ofString "row"), rfl, hm, hf, Nat.le_refl _, Nat.le_refl _, hz, (fun _ h => h), (fun _ h => nomatch h), fun _ _ => rfl, (fun n h => absurd rfl h), by
    funext y
    by_cases e1 : y = Str.ofString "number"
    · rw [if_pos e1, e1]
    rw [if_neg e1]
    by_cases e2 : y = Str.ofString "value"
    · rw [if_pos e2, e2]
    rw [if_neg e2]
    by_cases e3 : y = Str.ofString "row"
    · rw [if_pos e3, e3]
    rw [if_neg e3]⟩
theorem cls_of_dict {K : Type} [DecidableEq K] {prog : Program} {w : World} {knd : KeyKind prog w K} {o : Obj} {kvs : List (K × Value)} (h : o.IsDictOf knd kvs) : o.cls = .type "dict" := by
  obtain ⟨_, _, hc, _⟩ := h
  exact hc.1
theorem rows_n64 : ∀ r ∈ rowsD, r.n.toUInt8.toNat = r.n := by decide
theorem rows_n64' : ∀ r ∈ rowsD, r.n.toUInt8.toNat < 64 := by decide
theorem rows_names : (rowsD.map (·.name)).Nodup := by decide +kernel
theorem rows_ns : (rowsD.map (·.n)).Nodup := by decide +kernel
theorem nodup_filter {β : Type} [DecidableEq β] (f : RowD → β) (p : RowD → Bool) (h : (rowsD.map f).Nodup) : ((rowsD.filter p).map f).Nodup := (List.filter_sublist.map f).nodup h
theorem rp_news {h₀ h : Heap} {L FD TT md ul fd : Addr} {fobj to mo uo fo : Obj} {tups news : List (Addr × Obj)} {zs : List PZ} {val : Str → Option (List UInt8)}
    (N : News h₀ L h ((FD, fobj) :: (tups ++ (TT, to) :: (md, mo) :: (ul, uo) :: (fd, fo) :: news))) (hz : ∀ z ∈ zs, (z.T, pairO (z.r.n.toUInt8, z.v) z.t1 z.t2) ∈ tups ∧ z.r ∈ rowsD ∧ val z.r.name = some z.v) :
    News h₀ L h ((md, mo) :: (fd, fo) :: (FD, fobj) :: (zs.map pzO ++ news)) := by
  intro p hp
  refine N p ?_
  simp only [List.mem_cons, List.mem_append, List.mem_map] at hp ⊢
  rcases hp with h | h | h | ⟨z, hz', rfl⟩ | h
  · exact .inr (.inr (.inr (.inl h)))
  · exact .inr (.inr (.inr (.inr (.inr (.inl h)))))
  · exact .inl h
  · exact .inr (.inl (hz z hz').1)
  · exact .inr (.inr (.inr (.inr (.inr (.inr h)))))
theorem rp_ne {h₀ h : Heap} {L FD TT md ul fd : Addr} {fobj to mo uo fo : Obj} {tups news : List (Addr × Obj)} {zs : List PZ} {val : Str → Option (List UInt8)}
    (N : News h₀ L h ((FD, fobj) :: (tups ++ (TT, to) :: (md, mo) :: (ul, uo) :: (fd, fo) :: news))) (hz : ∀ z ∈ zs, (z.T, pairO (z.r.n.toUInt8, z.v) z.t1 z.t2) ∈ tups ∧ z.r ∈ rowsD ∧ val z.r.name = some z.v)
    (l9 : ∀ p ∈ tups ++ (TT, to) :: (md, mo) :: (ul, uo) :: (fd, fo) :: news, p.1 ≠ FD) (hm : mo.cls = .type "dict") (hf : fo.cls = .type "dict") (h1 : ∀ p ∈ news, p.1 < md) (h2 : ∀ p ∈ news, p.1 < fd) :
    ∀ p ∈ (FD, fobj) :: (zs.map pzO ++ news), p.1 ≠ md ∧ p.1 ≠ fd := by
  have tm : ∀ q, q ∈ (md, mo) :: (ul, uo) :: (fd, fo) :: news → q ∈ tups ++ (TT, to) :: (md, mo) :: (ul, uo) :: (fd, fo) :: news := fun q hq => List.mem_append_right _ (List.mem_cons_of_mem _ hq)
  have mm : (md, mo) ∈ tups ++ (TT, to) :: (md, mo) :: (ul, uo) :: (fd, fo) :: news := tm _ (List.mem_cons_self ..)
  have mf : (fd, fo) ∈ tups ++ (TT, to) :: (md, mo) :: (ul, uo) :: (fd, fo) :: news := tm _ (List.mem_cons_of_mem _ (List.mem_cons_of_mem _ (List.mem_cons_self ..)))
  intro p hp
  rcases List.mem_cons.mp hp with rfl | hp
  · exact ⟨fun e => l9 _ mm e.symm, fun e => l9 _ mf e.symm⟩
  · rcases List.mem_append.mp hp with hp | hp
    · obtain ⟨z, hz', rfl⟩ := List.mem_map.mp hp
      have ht := (N _ (List.mem_cons_of_mem _ (List.mem_append_left _ (hz z hz').1))).1
      constructor
      · intro e
        have h3 := (N _ (List.mem_cons_of_mem _ mm)).1
        dsimp only at e ht h3
        rw [e, h3] at ht
        obtain rfl := Option.some.inj ht
        exact absurd (Value.type.inj hm) (by decide)
      · intro e
        have h3 := (N _ (List.mem_cons_of_mem _ mf)).1
        dsimp only at e ht h3
        rw [e, h3] at ht
        obtain rfl := Option.some.inj ht
        exact absurd (Value.type.inj hf) (by decide)
    · exact ⟨Nat.ne_of_lt (h1 p hp), Nat.ne_of_lt (h2 p hp)⟩
theorem rp_fresh {β : Type} {f : RowD → β} {dn rs : List PZ} {z : PZ} {R0 : List RowD} (hR : (dn ++ z :: rs).map (·.r) = R0) (hn : (R0.map f).Nodup) : ∀ y ∈ dn, f y.r ≠ f z.r := by
  subst hR
  rw [List.map_map, List.map_append, List.nodup_append] at hn
  intro y hy
  exact hn.2.2 _ (List.mem_map.mpr ⟨y, hy, rfl⟩) _ (List.mem_map.mpr ⟨z, List.mem_cons_self .., rfl⟩)
theorem rp_all {md fd l : Addr} {tail news : List (Addr × Obj)} (hne : ∀ p ∈ tail, p.1 ≠ md ∧ p.1 ≠ fd) (l7 : l < md ∧ fd < md ∧ AllLt md news) : (∀ o : Obj, ∀ p ∈ (fd, o) :: tail, p.1 ≠ md) ∧ (∀ p ∈ tail, p.1 ≠ fd) ∧ md ≠ fd ∧ fd ≠ md := by
  refine ⟨fun o p hp => ?_, fun p hp => (hne p hp).2, Nat.ne_of_gt l7.2.1, Nat.ne_of_lt l7.2.1⟩
  rcases List.mem_cons.mp hp with rfl | hp
  · exact Nat.ne_of_lt l7.2.1
  · exact (hne p hp).1
theorem RPI.step {prog : Program} {w : World} {R0 : List RowD} {z0 : List PZ} {kv₀ kvs : List (Str × Value)} {mk : List (Int × Value)} {m₀ m' : Str → Option Value} {fd md : Addr} {tail : List (Addr × Obj)} {dn rs : List PZ} {z : PZ} {mo fo : Obj} {v : Value} {x1 x2 x3 : Option Value}
    (hmo : mo.IsDictOf (intKind prog w) (stored mk (z.r.n : Int) (.bool true))) (hfo : fo.IsDictOf (strKind prog w) (stored kvs z.r.name v)) (hml : mk.length ≤ dn.length) (hkl : kvs.length ≤ kv₀.length + dn.length) (hR : (dn ++ z :: rs).map (·.r) = R0) (hsub : ∀ y ∈ dn ++ z :: rs, y ∈ z0)
    (hF : ∀ z ∈ dn, FoundOk kvs z.r z.v) (hV : ∀ k, (∀ z ∈ dn, z.r.name ≠ k) → valueAt kvs k = valueAt kv₀ k) (hM : ∀ n, valueAt mk n ≠ none → ∃ z ∈ dn, n = (z.r.n : Int)) (hfm : ∀ y ∈ dn, y.r.name ≠ z.r.name)
    (hv : (z.r.kind = Str.ofString "id" ∧ ∃ t, v = .bytes z.v.toArray t) ∨ (z.r.kind = Str.ofString "address" ∧ ∃ a, v = .ref a))
    (hm : m' = fun y => if y = Str.ofString "number" then x1 else if y = Str.ofString "value" then x2 else if y = Str.ofString "row" then x3 else m₀ y) :
    RPI prog w R0 z0 kv₀ m₀ fd md tail rs m' ((md, mo) :: (fd, fo) :: tail) := by
  refine ⟨mo, fo, _, _, dn ++ [z], x1, x2, x3, rfl, hmo, hfo, ?_, ?_, by simpa using hR, by simpa using hsub, ?_, ?_, ?_, hm⟩
  · have := stored_length_le mk (z.r.n : Int) (.bool true)
    simp only [List.length_append, List.length_cons, List.length_nil]
    omega
  · have := stored_length_le kvs z.r.name v
    simp only [List.length_append, List.length_cons, List.length_nil]
    omega
  · intro y hy
    rcases List.mem_append.mp hy with hy | hy
    · have := hF y hy
      unfold FoundOk at this ⊢
      rw [vA_stored, if_neg (hfm y hy)]
      exact this
    · obtain rfl := List.mem_singleton.mp hy
      unfold FoundOk
      rw [vA_stored, if_pos rfl]
      rcases hv with ⟨h1, t, h2⟩ | ⟨h1, a, h2⟩
      · exact .inl ⟨h1, t, by rw [h2]⟩
      · exact .inr ⟨h1, a, by rw [h2]⟩
  · intro k hk
    rw [vA_stored, if_neg (fun e => hk z (by simp) e.symm)]
    exact hV k fun y hy => hk y (List.mem_append_left _ hy)
  · intro n hn
    rw [vA_stored] at hn
    by_cases e : n = (z.r.n : Int)
    · exact ⟨z, by simp, e⟩
    · rw [if_neg e] at hn
      obtain ⟨y, hy, e'⟩ := hM n hn
      exact ⟨y, List.mem_append_left _ hy, e'⟩
theorem rows_unk : ∀ r ∈ rowsD, r.name ≠ Str.ofString "unknown" := by decide +kernel
theorem rp_done {val : Str → Option (List UInt8)} {kvs kv' : List (Str × Value)} {dn z0 : List PZ} {tups : List (Addr × Obj)} {tk : Tok} {u : Value} (hzm : ∀ z ∈ z0, (z.T, pairO (z.r.n.toUInt8, z.v) z.t1 z.t2) ∈ tups ∧ z.r ∈ rowsD ∧ val z.r.name = some z.v)
    (hR : (dn ++ []).map (fun z : PZ => z.r) = rowsD.filter (fun r => (val r.name).isSome)) (hsub : ∀ y ∈ dn ++ [], y ∈ z0) (hF : ∀ z ∈ dn, FoundOk kvs z.r z.v) (hV : ∀ k, (∀ z ∈ dn, z.r.name ≠ k) → valueAt kvs k = valueAt (strPairs [(Value.str (Str.ofString "unknown") tk, u)]) k)
    (hk : ∀ k, k ∉ dNames → valueAt kv' k = valueAt kvs k) : ∀ r ∈ rowsD, r.name ∉ dNames → match val r.name with | none => valueAt kv' r.name = none | some v => FoundOk kv' r v := by
  intro r hr hd
  have e := hk r.name hd
  rw [List.append_nil] at hR hsub
  cases hv : val r.name with
  | none =>
    dsimp only
    rw [e, hV r.name fun z hz q => ?_]
    · exact valueAt_none_of_not_mem fun hm => rows_unk r hr (by simpa [strPairs] using hm)
    · have := (hzm z (hsub z hz)).2.2
      rw [q, hv] at this
      cases this
  | some v =>
    dsimp only
    have hm : r ∈ dn.map (fun z : PZ => z.r) := by rw [hR]; exact List.mem_filter.mpr ⟨hr, by rw [hv]; rfl⟩
    obtain ⟨z, hz, rfl⟩ := List.mem_map.mp hm
    have h1 := hF z hz
    have h2 := (hzm z (hsub z hz)).2.2
    rw [hv] at h2
    obtain rfl := Option.some.inj h2
    unfold FoundOk at h1 ⊢
    rw [e]
    exact h1
theorem okPs_of {val : Str → Option (List UInt8)} : ∀ {rs : List RowD}, (∀ r ∈ rs, r ∈ rowsD) → (∀ r ∈ rs, ∀ v, val r.name = some v → ToldOk r v) → okPs (pairsD val rs)
  | [], _, _ => fun _ h => nomatch h
  | r :: rs, h1, h2 => by
    have ih := okPs_of (val := val) (rs := rs) (fun r hr => h1 r (List.mem_cons_of_mem _ hr)) (fun r hr => h2 r (List.mem_cons_of_mem _ hr))
    unfold pairsD
    cases hv : val r.name with
    | none => exact ih
    | some v =>
      intro p hp
      rcases List.mem_cons.mp hp with rfl | hp
      · exact ⟨rows_n64' r (h1 r (List.mem_cons_self ..)), (h2 r (List.mem_cons_self ..) v hv).1⟩
      · exact ih p hp

local macro_rules | `(tactic| walk_at "compareOp In int ref") => `(tactic| (k_here; k_dflt (refine' kda_in (knd := intKind _ _) ?N ?hm ?ho ?lo (intKind_is _ _ _ _) _ ?hb ?_; (case hb => assumption); (case N => k_asm); (case hm => first | assumption | exact List.mem_cons_self .. | exact List.mem_cons_of_mem _ (by first | assumption | exact List.mem_cons_self ..)); (case ho => assumption); (case lo => assumption))))
local macro_rules | `(tactic| walk_at "setItem ref int") => `(tactic| (k_here; k_dflt (refine' kda_set (knd := intKind _ _) ?F ?N ?U ?ho (intKind_is _ _ _ _) ?hsz ?_; (case F => k_asm); (case N => k_asm); (case U => k_updF); (case ho => assumption); (case hsz => (rw [sizeLine_eq]; omega))); intro _ _ _ _ _; (try dsimp only)))
local macro_rules | `(tactic| walk_at "setItem ref str") => `(tactic| (k_here; k_dflt (refine' kda_set (knd := PySem.strKind _ _) ?F ?N ?U ?ho (strKind_is _ _ _ _) ?hsz ?_; (case F => k_asm); (case N => k_asm); (case U => k_updF); (case ho => assumption); (case hsz => (rw [sizeLine_eq]; omega))); intro _ _ _ _ _; (try dsimp only)))
local macro_rules | `(tactic| walk_at "exec For Tuple Call cons nil") => `(tactic| (k_here; refine Stop.mk ?_))
local macro_rules | `(tactic| walk_at "call ref") => `(tactic| (k_here; refine Stop.call (by decide) ?_))
theorem c_read_params : ∀ {w : World} {mean : ExcName → Option Value} {mg mb : Str → Option Value} {d : Array UInt8} {val : Str → Option (List UInt8)} {td tr : Tok} {role : Str} {news : List (Addr × Obj)}
    {cn : Str} {cs : Scope} {a : Addr} {ccd : Value} {cl : List (Str × Addr)} {outer : List Env} {A₀ : Around} {base h₀ : Heap} {L : Addr} {m : Str → Option Value} {s : Shared} {Q E : Value → Shared → Prop}
    (XB : (hd.heap_1 w.params).In base) (B : Below A₀ base outer h₀) (F : Fr h₀ L s.heap m) (X : (hd.heap_1 w.params).In h₀) (N : News h₀ L s.heap news) (T : Top hd.view_39 (looseW hd.view_39 [Str.ofString "BOUNDS"]) mean mg mb h₀) (hk : cs.kind = .function) (hd : d.toList = encs (pairsD val rowsD)) (hz : d.size < 1000) (hv : ∀ r ∈ rowsD, ∀ v, val r.name = some v → ToldOk r v) (hc : role = Str.ofString "client" → ∀ r ∈ rowsD, (val r.name).isSome = true → r.name = Str.ofString "initial_source_connection_id")
    (hret : ∀ (d : Addr) (o' : Obj) (kv' : List (Str × Value)) (h' : Heap) (tk' : Nat), Fr h₀ L h' m → News h₀ L h' ((d, o') :: news) → (∀ p ∈ news, p.1 < d) → (d == sysModules) = false → o'.IsDictOf (strKind PySem.Challenge.rw_pf0267_01.row.prog w) kv' → (∀ r ∈ rowsD, r.name ∉ dNames → match val r.name with | none => valueAt kv' r.name = none | some v => FoundOk kv' r v) → Q (.ref d) { s with heap := h', toks := tk' }),
    wpAny (model PySem.Challenge.rw_pf0267_01.row.prog w) (ktrTop 303 10 (some []) cn cs L a ccd cl outer) (call (.ref 259) [.bytes d td, .str role tr] []) Q E s := by
  k_fill
  intro w mean mg mb d val td tr role news cn cs a ccd cl outer A₀ base h₀ L m s Q E XB B F X N T hk hd hz hv hc hret
  refine wpAny_call ?_
  k_dflt (refine' code_def ?k1 ?k2 ?k3 ?k4 ?k5 ?kA ?kF ?kK ?k6 ?k7 ?k8 ?k9 ?kB ?_ ?c2 ?c3 ?c4 ?c5; (case kA => exact rfl); (case kF => exact rfl); (case kK => first | assumption | exact rfl); (case k1 => k_asm); (case k2 => k_asm); (case k3 => k_asm); (case k4 => k_asm); (case k5 => k_asm); (case k6 => k_is); (case k7 => k_is); (case k8 => exact Nat.le_of_ble_eq_true rfl); (case k9 => exact BindsTo.of_eq rfl); (case c5 => decide); (case kB => exact locs rfl); (case c2 => exact rfl); (case c3 => exact rfl); (case c4 => exact rfl); k_whole; intro g' L' h' FG' F' N' B' X' T'; (try dsimp only); (try k_lift B'))
  refine wpAny_noRaise ?_
  (try k_fold)
  k_steps
  unfold Stop
  refine a_For ?_
  (try k_fold)
  k_steps
  unfold Stop
  k_dflt (refine' c_read_pairs ?XBp ?Bp ?Fp ?Xp ?Np ?Tp ?hkp ?hdp ?hpp ?hzp ?hretp)
  (case Bp => k_asm)
  (case XBp => k_asm)
  (case Fp => k_asm)
  (case Xp => k_asm)
  (case Np => k_asm)
  (case Tp => k_asm)
  (case hkp => first | exact rfl | assumption)
  (case hdp => exact hd)
  (case hpp => exact okPs_of (fun _ h => h) hv)
  (case hzp => exact hz)
  intro FD vs c tups h9 tk9 F9 N9 hpi l9; (try k_sweep); (try dsimp only);  (try k_fold)

  obtain ⟨zs, hzv, hzm, hzr⟩ := pz_of rowsD vs hpi
  subst hzv
  (rename (Obj.IsDictOf (intKind _ _) _ _) => hi0); (rename (Obj.IsDictOf (PySem.strKind _ _) _ (strPairs _)) => hf0)
  (rename (_ < _ ∧ _ < _ ∧ AllLt _ news) => l7); (rename (∀ p ∈ news, p.1 < _) => l3)
  have hne := rp_ne N9 hzm l9 (cls_of_dict hi0) (cls_of_dict hf0) (ktn_ltOf l7.2.2) l3
  have N8 := rp_news N9 hzm
  have hA := rp_all hne l7
  have h172 : IsTup g' 172 #[.str (Str.ofString "original_destination_connection_id") 441, .str (Str.ofString "stateless_reset_token") 442, .str (Str.ofString "preferred_address") 443, .str (Str.ofString "retry_source_connection_id") 444] := tupK (l := [.str _ _, .str _ _, .str _ _, .str _ _]) X' (by k_is)
  have hrows : ∀ r ∈ rowsD, IsTup g' r.a #[.int (r.n : Int) r.t, .str r.name (r.t + 1), .str r.kind (r.t + 2)] := by
    intro r hr
    simp only [rowsD, List.mem_cons, List.not_mem_nil, or_false] at hr
    rcases hr with rfl | rfl | rfl | rfl | rfl | rfl | rfl | rfl | rfl | rfl | rfl | rfl | rfl | rfl | rfl | rfl | rfl <;> exact tupK (l := [.int _ _, .str _ _, .str _ _]) X' (by k_is)
  refine a_listL rfl F9 N8 (List.mem_cons_of_mem _ (List.mem_cons_of_mem _ (List.mem_cons_self ..))) rfl rfl (fun I lI => ?_)
  replace lI := allLt_of lI
  rw [List.toList_toArray]
  refine ARest_ind (fun z : PZ => Value.ref z.T) (RPI _ w _ zs _ _ _ _ _) ?done ?turn zs _ _ (RPI.start hi0 hf0 hzr)
  case done =>
    clear N9 F9 N8
    rintro m₁ news₁ ⟨mo, fo, mk, kvs, dn, x1, x2, x3, hn, hmo, hfo, hml, hkl, hR, hsub, hF, hV, hM, hm1⟩ h tk F₁ N₁
    subst hn hm1
    have hlo : (_ == sysModules) = false := ‹(_ == sysModules) = false›
    dsimp only
    have hkl2 : kvs.length ≤ 1 + dn.length := hkl
    have hlen : dn.length ≤ 17 := by
      have h1 : ((dn ++ []).map (fun z : PZ => z.r)).length ≤ 17 := by rw [hR]; exact Nat.le_trans (List.length_filter_le _ _) (Nat.le_of_eq rfl)
      simpa using h1
    k_steps
    unfold Stop
    k_dflt (refine' c_defaults ?XBd ?Bd ?Fd ?Xd ?Nd ?Td ?hkd ?hmd ?hod ?lod ?hzd ?hretd)
    (case Bd => k_asm)
    (case XBd => k_asm)
    (case Fd => k_asm)
    (case Xd => k_asm)
    (case Nd => k_asm)
    (case Td => k_asm)
    (case hkd => first | exact rfl | assumption)
    (case hmd => exact List.mem_cons_of_mem _ (List.mem_cons_self ..))
    (case hod => exact hfo)
    (case lod => assumption)
    (case hzd => omega)
    intro D9 o9 kv9 h9d tk9d F9d N9d l9d lo9 ho9 hk9; (try k_sweep); (try dsimp only);  (try k_fold)

    k_steps
    exact hret _ _ _ _ _ (by k_asm) (cb_drop (by k_asm) (fun p hp => (List.mem_cons.mp hp).elim (fun e => by rw [e]; exact List.mem_cons_self ..) (fun hp => List.mem_cons_of_mem _ (List.mem_cons_of_mem _ (List.mem_cons_of_mem _ (List.mem_cons_of_mem _ (List.mem_append_right _ hp))))))) (fun p hp => l9d p (List.mem_cons_of_mem _ (List.mem_cons_of_mem _ (List.mem_cons_of_mem _ (List.mem_append_right _ hp))))) lo9 ho9 (rp_done hzm hR hsub hF hV hk9)
  case turn =>
    clear N9 F9 N8
    rintro z rs m₁ news₁ ⟨mo, fo, mk, kvs, dn, x1, x2, x3, hn, hmo, hfo, hml, hkl, hR, hsub, hF, hV, hM, hm1⟩ it h tk hic F₁ N₁
    subst hn hm1
    obtain ⟨hzt, hrr, hzval⟩ := hzm z (hsub z (by simp))
    have hmemT : (z.T, pairO (z.r.n.toUInt8, z.v) z.t1 z.t2) ∈ zs.map pzO := List.mem_map.mpr ⟨z, hsub z (by simp), rfl⟩
    have hT : IsTup h z.T #[.int (z.r.n : Int) z.t1, .bytes z.v.toArray z.t2] := by
      have h1 : IsTup h z.T #[.int ((z.r.n.toUInt8).toNat : Int) z.t1, .bytes z.v.toArray z.t2] := ⟨_, (N₁ (z.T, pairO (z.r.n.toUInt8, z.v) z.t1 z.t2) (by simp only [List.mem_cons, List.mem_append]; exact .inr (.inr (.inr (.inr (.inl hmemT)))))).1, rfl, _, rfl⟩
      rw [rows_n64 z.r hrr] at h1
      exact h1
    have hfn := rp_fresh (f := fun r : RowD => r.n) hR (nodup_filter _ _ rows_ns)
    have hfm := rp_fresh (f := fun r : RowD => r.name) hR (nodup_filter _ _ rows_names)
    have hb : (valueAt mk (z.r.n : Int)).isSome = false := by
      cases hx : valueAt mk (z.r.n : Int) with
      | none => rfl
      | some x =>
        obtain ⟨y, hy, e⟩ := hM (z.r.n : Int) (by rw [hx]; simp)
        exact absurd (by omega) (hfn y hy)
    have ht := hrows z.r hrr
    have hTO := hv z.r hrr z.v hzval
    have hA1 := hA.1 fo
    have hA2 := hA.2.1
    have hA3 := hA.2.2.1
    have hA4 := hA.2.2.2
    have lI1 := lI.1
    have lI2 := lI.2.1
    have lI3 := Nat.ne_of_gt lI.1
    have lI4 := Nat.ne_of_gt lI.2.1
    have hlen : dn.length + (z :: rs).length ≤ 17 := by
      have h1 : ((dn ++ z :: rs).map (·.r)).length ≤ 17 := by rw [hR]; exact Nat.le_trans (List.length_filter_le _ _) (Nat.le_of_eq rfl)
      simpa using h1
    obtain ⟨zT, zt1, zt2, ⟨ra, rn, rname, rkind, rt⟩, zv⟩ := z
    dsimp only at hrr hzval hT hfn hfm hb ht hTO hR hsub hmemT ⊢
    have hkl2 : kvs.length ≤ 1 + dn.length := hkl
    k_steps
    unfold Stop
    k_dflt (refine' c_row_by_number ?XBw ?Bw ?Fw ?Xw ?Nw ?Tw ?hkw ?hr₀w ?hnw ?hretw)
    (case Bw => k_asm)
    (case XBw => k_asm)
    (case Fw => k_asm)
    (case Xw => k_asm)
    (case Nw => k_asm)
    (case Tw => k_asm)
    (case hkw => first | exact rfl | assumption)
    (case hr₀w => exact hrr)
    (case hnw => rfl)
    intro h8 tk8 F8 N8; (try k_sweep); (try dsimp only);  (try k_fold)

    k_steps
    · exfalso
      have hcl : role = Str.ofString "client" := by simpa using ‹(role == Str.ofString "client") = true›
      have hnm := hc hcl _ hrr (by rw [hzval]; rfl)
      dsimp only at hnm
      (rename (List.any _ _ = true) => hany)
      rw [hnm] at hany
      exact absurd hany (by decide +kernel)
    · skip
      obtain ⟨hl64, ⟨hkd, hl20⟩ | ⟨hkd, h43⟩⟩ := hTO
      · subst hkd
        unfold Stop
        k_dflt (refine' c_read_value_id ?XBic ?Bic ?Fic ?Xic ?Nic ?Tic ?hkic ?hzic ?hretic)
        (case Bic => k_asm)
        (case XBic => k_asm)
        (case Fic => k_asm)
        (case Xic => k_asm)
        (case Nic => k_asm)
        (case Tic => k_asm)
        (case hkic => first | exact rfl | assumption)
        (case hzic => simpa using hl20)
        intro h6 tk6 F6 N6; (try k_sweep); (try dsimp only);  (try k_fold)
        k_steps
        (with_reducible rename Fr _ _ _ _ => F7); (with_reducible rename News _ _ _ _ => N7)
        refine' UnrEnd.intro F7 N7 _ ?subic ?offic ?PQic
        case PQic =>
          refine' And.intro ?ppic (RPI.step (z := ⟨zT, zt1, zt2, ⟨ra, rn, _, _, rt⟩, zv⟩) (x1 := some (.int (rn : Int) zt1)) (x2 := some (.bytes zv.toArray zt2)) (x3 := some (.ref ra)) ?moic ?foic hml hkl hR hsub hF hV hM hfm (.inl ⟨rfl, _, rfl⟩) ?mmic)
          (case ppic => exact List.mem_cons_of_mem _ (List.mem_cons_of_mem _ (List.mem_cons_self ..)))
          (case moic => assumption)
          (case foic => assumption)
          case mmic =>
            funext y
            by_cases e1 : y = Str.ofString "number"
            · rw [e1]; rfl
            by_cases e2 : y = Str.ofString "value"
            · rw [e2]; rfl
            by_cases e3 : y = Str.ofString "row"
            · rw [e3]; rfl
            simp only [e1, e2, e3, if_false]
        (case subic => exact (fun p hp => hp))
        (case offic => exact allLt_ne lI)
      · subst hkd
        obtain rfl : zv = adr43.toList := h43
        unfold Stop
        k_dflt (refine' c_read_value_addr ?XBac ?Bac ?Fac ?Xac ?Nac ?Tac ?hkac ?hretac)
        (case Bac => k_asm)
        (case XBac => k_asm)
        (case Fac => k_asm)
        (case Xac => k_asm)
        (case Nac => k_asm)
        (case Tac => k_asm)
        (case hkac => first | exact rfl | assumption)
        intro T6 o6 h6 tk6 F6 N6 l6 e6; (try k_sweep); (try dsimp only); (try k_lt l6); (try k_fold)
        k_steps
        (with_reducible rename Fr _ _ _ _ => F7); (with_reducible rename News _ _ _ _ => N7)
        refine' UnrEnd.intro F7 N7 _ ?subac ?offac ?PQac
        case PQac =>
          refine' And.intro ?ppac (RPI.step (z := ⟨zT, zt1, zt2, ⟨ra, rn, _, _, rt⟩, adr43.toList⟩) (x1 := some (.int (rn : Int) zt1)) (x2 := some (.bytes adr43.toList.toArray zt2)) (x3 := some (.ref ra)) ?moac ?foac hml hkl hR hsub hF hV hM hfm (.inr ⟨rfl, _, rfl⟩) ?mmac)
          (case ppac => exact List.mem_cons_of_mem _ (List.mem_cons_of_mem _ (List.mem_cons_self ..)))
          (case moac => assumption)
          (case foac => assumption)
          case mmac =>
            funext y
            by_cases e1 : y = Str.ofString "number"
            · rw [e1]; rfl
            by_cases e2 : y = Str.ofString "value"
            · rw [e2]; rfl
            by_cases e3 : y = Str.ofString "row"
            · rw [e3]; rfl
            simp only [e1, e2, e3, if_false]
        (case subac => exact (fun p hp => List.mem_cons_of_mem _ hp))
        (case offac => exact allLt_ne lI)

    · skip
      obtain ⟨hl64, ⟨hkd, hl20⟩ | ⟨hkd, h43⟩⟩ := hTO
      · subst hkd
        unfold Stop
        k_dflt (refine' c_read_value_id ?XBis ?Bis ?Fis ?Xis ?Nis ?Tis ?hkis ?hzis ?hretis)
        (case Bis => k_asm)
        (case XBis => k_asm)
        (case Fis => k_asm)
        (case Xis => k_asm)
        (case Nis => k_asm)
        (case Tis => k_asm)
        (case hkis => first | exact rfl | assumption)
        (case hzis => simpa using hl20)
        intro h6 tk6 F6 N6; (try k_sweep); (try dsimp only);  (try k_fold)
        k_steps
        (with_reducible rename Fr _ _ _ _ => F7); (with_reducible rename News _ _ _ _ => N7)
        refine' UnrEnd.intro F7 N7 _ ?subis ?offis ?PQis
        case PQis =>
          refine' And.intro ?ppis (RPI.step (z := ⟨zT, zt1, zt2, ⟨ra, rn, _, _, rt⟩, zv⟩) (x1 := some (.int (rn : Int) zt1)) (x2 := some (.bytes zv.toArray zt2)) (x3 := some (.ref ra)) ?mois ?fois hml hkl hR hsub hF hV hM hfm (.inl ⟨rfl, _, rfl⟩) ?mmis)
          (case ppis => exact List.mem_cons_of_mem _ (List.mem_cons_of_mem _ (List.mem_cons_self ..)))
          (case mois => assumption)
          (case fois => assumption)
          case mmis =>
            funext y
            by_cases e1 : y = Str.ofString "number"
            · rw [e1]; rfl
            by_cases e2 : y = Str.ofString "value"
            · rw [e2]; rfl
            by_cases e3 : y = Str.ofString "row"
            · rw [e3]; rfl
            simp only [e1, e2, e3, if_false]
        (case subis => exact (fun p hp => hp))
        (case offis => exact allLt_ne lI)
      · subst hkd
        obtain rfl : zv = adr43.toList := h43
        unfold Stop
        k_dflt (refine' c_read_value_addr ?XBas ?Bas ?Fas ?Xas ?Nas ?Tas ?hkas ?hretas)
        (case Bas => k_asm)
        (case XBas => k_asm)
        (case Fas => k_asm)
        (case Xas => k_asm)
        (case Nas => k_asm)
        (case Tas => k_asm)
        (case hkas => first | exact rfl | assumption)
        intro T6 o6 h6 tk6 F6 N6 l6 e6; (try k_sweep); (try dsimp only); (try k_lt l6); (try k_fold)
        k_steps
        (with_reducible rename Fr _ _ _ _ => F7); (with_reducible rename News _ _ _ _ => N7)
        refine' UnrEnd.intro F7 N7 _ ?subas ?offas ?PQas
        case PQas =>
          refine' And.intro ?ppas (RPI.step (z := ⟨zT, zt1, zt2, ⟨ra, rn, _, _, rt⟩, adr43.toList⟩) (x1 := some (.int (rn : Int) zt1)) (x2 := some (.bytes adr43.toList.toArray zt2)) (x3 := some (.ref ra)) ?moas ?foas hml hkl hR hsub hF hV hM hfm (.inr ⟨rfl, _, rfl⟩) ?mmas)
          (case ppas => exact List.mem_cons_of_mem _ (List.mem_cons_of_mem _ (List.mem_cons_self ..)))
          (case moas => assumption)
          (case foas => assumption)
          case mmas =>
            funext y
            by_cases e1 : y = Str.ofString "number"
            · rw [e1]; rfl
            by_cases e2 : y = Str.ofString "value"
            · rw [e2]; rfl
            by_cases e3 : y = Str.ofString "row"
            · rw [e3]; rfl
            simp only [e1, e2, e3, if_false]
        (case subas => exact (fun p hp => List.mem_cons_of_mem _ hp))
        (case offas => exact allLt_ne lI)

end PartNRP

theorem flush35 {M : Model} {A : Around} {env : Env} {Q : Flow → Shared → Prop} {E : Value → Shared → Prop} {s : Shared} (h : wpAny M A (execs [] env) Q E s) : wpAny M A (execs [] env) Q E s := by
  w_top off
  first | (walk1; fail) | exact h

section PartNLO

noncomputable def LotMark : Prop := True
noncomputable def Stop4 (P : Prop) : Prop := P
theorem Stop4.mk {P : Prop} (h : Stop4 P) : P := h
noncomputable abbrev sSRV : Str := Str.ofString "server"
noncomputable abbrev sCLI : Str := Str.ofString "client"
noncomputable def firstB : List UInt8 := [116, 111, 32, 116, 104, 101, 32, 102, 105, 114, 115, 116]
section
variable {prog : Program} {w : World} {A : Around} {E : Value → Shared → Prop} {s : Shared} {h₀ : Heap} {L : Addr} {news : List (Addr × Obj)}
theorem pick_any {value slice : PySem.Expr} {l : Addr} {items : Array Value} {c : Nat} {k : Int} {u : Tok} {Q : Value → Shared → Prop} (N : News h₀ L s.heap news) (hm : (l, listOf items c) ∈ news) (h0 : 0 ≤ k) (h1 : k < items.size) (hz : items.size ≤ 1000)
    (h : ∀ v ∈ items.toList, Q v s) (hs : subscripted slice false (.ref l) (.int k u) = operate [.ref l, .int k u] (getItem (.ref l) (.int k u)) := by with_unfolding_all rfl) :
    wpAny (model prog w) A (subscriptTail value slice (.ref l) (.int k u)) Q E s := by
  have hl : s.heap.IsList l items := ⟨_, (N _ hm).1, rfl, _, rfl⟩
  have hk : k.toNat < items.size := by omega
  exact PyProof.Rows.tail_any hl.typeIs slot_list_getitem.lookup (wpAny_getItem_list hl h0 (by omega) (x := items[k.toNat]) (by simp [hk]) (h _ (by simp))) hs
end
theorem role_of {v : Value} {t1 t2 t3 : Tok} (hv : v ∈ (#[Value.str sSRV t1, .str sSRV t2, .str sCLI t3] : Array Value).toList) : ∃ r t, (r = sSRV ∨ r = sCLI) ∧ v = .str r t := by
  simp only [List.mem_cons, List.not_mem_nil, or_false] at hv
  rcases hv with rfl | rfl | rfl
  · exact ⟨_, _, .inl rfl, rfl⟩
  · exact ⟨_, _, .inl rfl, rfl⟩
  · exact ⟨_, _, .inr rfl, rfl⟩
theorem src_of {v : Value} {t1 t2 : Tok} (hv : v ∈ (#[Value.bytes #[] t1, .bytes #[97, 98, 99] t2] : Array Value).toList) : ∃ (r : List UInt8) (t : Tok), r.length ≤ 20 ∧ v = .bytes r.toArray t := by
  simp only [List.mem_cons, List.not_mem_nil, or_false] at hv
  rcases hv with rfl | rfl
  · exact ⟨[], _, by decide, rfl⟩
  · exact ⟨[97, 98, 99], _, by decide, rfl⟩
theorem gen_bool {M : Model} {A : Around} {E : Value → Shared → Prop} {s : Shared} {g : Heap} {L : Addr} {m : Str → Option Value} {news : List (Addr × Obj)} {t : Sem Value} {Q : Value → Shared → Prop} (P : Bool → Prop) (F : Fr g L s.heap m) (N : News g L s.heap news)
    (h1 : ∀ Q' : Value → Shared → Prop, (∀ b hh tt, P b → Fr g L hh m → News g L hh news → Q' (.bool b) { s with heap := hh, toks := tt }) → wpAny M A t Q' E s)
    (h2 : ∀ b hh tt, P b → Fr g L hh m → News g L hh news → Q (.bool b) { s with heap := hh, toks := tt }) : wpAny M A t Q E s := h1 Q h2
noncomputable def OvOk (x : Option (List UInt8)) : Prop := ∀ v, x = some v → v.length ≤ 20
theorem OvOk.some {v : List UInt8} (h : v.length ≤ 20) : OvOk (some v) := fun _ e => by cases e; exact h
theorem OvOk.none : OvOk none := fun _ e => nomatch e
theorem retry_of {v : Value} {t : Tok} (hv : v ∈ (#[Value.none, .none, .bytes #[114] t] : Array Value).toList) : ∃ (x : Option (List UInt8)) (t : Tok), OvOk x ∧ v = (ov x t).getD .none := by
  simp only [List.mem_cons, List.not_mem_nil, or_false] at hv
  rcases hv with rfl | rfl | rfl
  · exact ⟨none, 0, .none, rfl⟩
  · exact ⟨none, 0, .none, rfl⟩
  · exact ⟨some [114], _, .some (by decide), rfl⟩
theorem odc_of {v : Value} {t1 t2 : Tok} (hv : v ∈ (#[Value.bytes #[116, 111, 32, 116, 104, 101, 32, 102, 105, 114, 115, 116] t1, .bytes #[116, 111, 32, 116, 104, 101, 32, 102, 105, 114, 115, 116] t1, .bytes #[116, 111, 32, 116, 104, 101, 32, 102, 105, 114, 115, 116] t1, .bytes #[] t2, .none] : Array Value).toList) : ∃ (x : Option (List UInt8)) (t : Tok), OvOk x ∧ v = (ov x t).getD .none := by
  simp only [List.mem_cons, List.not_mem_nil, or_false] at hv
  rcases hv with rfl | rfl | rfl | rfl | rfl
  · exact ⟨some firstB, _, .some (by decide), rfl⟩
  · exact ⟨some firstB, _, .some (by decide), rfl⟩
  · exact ⟨some firstB, _, .some (by decide), rfl⟩
  · exact ⟨some [], _, .some (by decide), rfl⟩
  · exact ⟨none, 0, .none, rfl⟩
theorem rsc_of {v : Value} {rs : Option (List UInt8)} {t1 t2 : Tok} (hrs : OvOk rs) (hv : v ∈ (#[(ov rs t1).getD .none, (ov rs t1).getD .none, .bytes #[114, 114] t2, .none] : Array Value).toList) : ∃ (x : Option (List UInt8)) (t : Tok), OvOk x ∧ v = (ov x t).getD .none := by
  simp only [List.mem_cons, List.not_mem_nil, or_false] at hv
  rcases hv with rfl | rfl | rfl | rfl
  · exact ⟨rs, _, hrs, rfl⟩
  · exact ⟨rs, _, hrs, rfl⟩
  · exact ⟨some [114, 114], _, .some (by decide), rfl⟩
  · exact ⟨none, 0, .none, rfl⟩
theorem ne_io : ¬ (sISC = sODC) := by decide +kernel
theorem ne_ir : ¬ (sISC = sRSC) := by decide +kernel
theorem ne_or : ¬ (sODC = sRSC) := by decide +kernel
theorem st3 (a b c : Value) (tk : Tok) : stored (stored (strPairs [(.str sISC tk, a)]) sODC b) sRSC c = [(sISC, a), (sODC, b), (sRSC, c)] := by
  have h1 := ne_io
  have h2 := ne_ir
  have h3 := ne_or
  simp [stored, strPairs, h1, h2, h3]
theorem v3_2 (a b c : Value) : valueAt [(sISC, a), (sODC, b), (sRSC, c)] sODC = some b := by rw [vA_cons, if_neg ne_io, vA_cons, if_pos rfl]
theorem v3_3 (a b c : Value) : valueAt [(sISC, a), (sODC, b), (sRSC, c)] sRSC = some c := by rw [vA_cons, if_neg ne_ir, vA_cons, if_neg ne_or, vA_cons, if_pos rfl]
noncomputable abbrev KS := PySem.Str × Option (List UInt8) × Tok
noncomputable def ksf (ks : List KS) : List (PySem.Str × Value) := ks.map fun q => (q.1, (ov q.2.1 q.2.2).getD .none)
noncomputable def psOf (ks : List KS) : List (PySem.Str × Value) := ks.filterMap fun q => (ov q.2.1 q.2.2).map fun v => (q.1, v)
noncomputable def PIn (tups : List (Addr × Obj)) : List Value → List (PySem.Str × Value) → Prop
  | [], [] => True
  | v :: vs, p :: ps => (∃ T t, v = .ref T ∧ (T, ({ cls := .type "tuple", data := .seq #[.str p.1 t, p.2] } : Obj)) ∈ tups) ∧ PIn tups vs ps
  | _, _ => False
theorem PIn.snoc {tups tups' : List (Addr × Obj)} (hs : ∀ q ∈ tups, q ∈ tups') {v : Value} {p : PySem.Str × Value} (hv : ∃ T t, v = .ref T ∧ (T, ({ cls := .type "tuple", data := .seq #[.str p.1 t, p.2] } : Obj)) ∈ tups') :
    ∀ {vs : List Value} {ps : List (PySem.Str × Value)}, PIn tups vs ps → PIn tups' (vs ++ [v]) (ps ++ [p])
  | [], [], _ => ⟨hv, trivial⟩
  | _ :: _, _ :: _, ⟨⟨T, t, e, hm⟩, h⟩ => ⟨⟨T, t, e, hs _ hm⟩, snoc hs hv h⟩
  | [], _ :: _, h => h.elim
  | _ :: _, [], h => h.elim
noncomputable def CInv (ks : List KS) (news₀ : List (Addr × Obj)) (i : Nat) (ys : List Value) (news : List (Addr × Obj)) : Prop := ∃ tups, news = tups ++ news₀ ∧ PIn tups ys (psOf (ks.take i))
theorem psOf_succ {ks : List KS} {i : Nat} {q : KS} (h : ks[i]? = some q) : psOf (ks.take (i + 1)) = psOf (ks.take i) ++ psOf [q] := by
  unfold psOf
  rw [List.take_add_one, h, List.filterMap_append]
  rfl
theorem CInv.no {ks : List KS} {news₀ news : List (Addr × Obj)} {i : Nat} {ys : List Value} {k : PySem.Str} {x : Option (List UInt8)} {t : Tok} (h : CInv ks news₀ i ys news) (hk : ks[i]? = some (k, x, t)) (hx : x.isSome = false) : CInv ks news₀ (i + 1) ys news := by
  obtain ⟨tups, e, hp⟩ := h
  refine ⟨tups, e, ?_⟩
  rw [psOf_succ hk]
  cases x with
  | none => simpa [psOf, ov] using hp
  | some _ => cases hx
theorem CInv.yes {ks : List KS} {news₀ news : List (Addr × Obj)} {i : Nat} {ys : List Value} {k : PySem.Str} {x : Option (List UInt8)} {t tk : Tok} {T : Addr} (h : CInv ks news₀ i ys news) (hk : ks[i]? = some (k, x, t)) (hx : x.isSome = true) :
    CInv ks news₀ (i + 1) (ys ++ [.ref T]) ((T, { cls := .type "tuple", data := .seq #[.str k tk, (ov x t).getD .none] }) :: news) := by
  obtain ⟨tups, rfl, hp⟩ := h
  refine ⟨_ :: tups, rfl, ?_⟩
  rw [psOf_succ hk]
  cases x with
  | none => cases hx
  | some v =>
    show PIn _ _ (psOf (ks.take i) ++ [(k, .bytes v.toArray t)])
    exact hp.snoc (p := (k, .bytes v.toArray t)) (fun q hq => List.mem_cons_of_mem _ hq) ⟨T, tk, rfl, List.mem_cons_self ..⟩
theorem key_inv {prog : Program} {w : World} {k : PySem.Str} {v : Value} (h : (PySem.strKind prog w).is k v = true) : ∃ t, v = .str k t := by
  cases v <;> simp [PySem.strKind, Value.isStrOf] at h
  exact ⟨_, by rw [h]⟩
theorem ks_inv {ks : List KS} {i : Nat} {k : PySem.Str} {y : Value} (h : (ksf ks)[i]? = some (k, y)) : ∃ x t, ks[i]? = some (k, x, t) ∧ y = (ov x t).getD .none := by
  unfold ksf at h
  rw [List.getElem?_map] at h
  cases hq : ks[i]? with
  | none => rw [hq] at h; cases h
  | some q =>
    rw [hq] at h
    obtain ⟨a, b, c⟩ := q
    cases h
    exact ⟨b, c, rfl, rfl⟩
theorem in3 {p a b c : Addr × Obj} {news : List (Addr × Obj)} (h : p ∈ news) : p ∈ a :: b :: c :: news := List.mem_cons_of_mem _ (List.mem_cons_of_mem _ (List.mem_cons_of_mem _ h))
theorem CInv.mem {ks : List KS} {news₀ news : List (Addr × Obj)} {i : Nat} {ys : List Value} {p : Addr × Obj} (h : CInv ks news₀ i ys news) (hm : p ∈ news₀) : p ∈ news := by
  obtain ⟨tups, rfl, _⟩ := h
  exact List.mem_append_right _ hm
theorem dict_mem {h₀ h : Heap} {L : Addr} {l : List (Addr × Obj)} {d : Addr} {o : Obj} {K : Type} [DecidableEq K] {prog : Program} {w : World} {knd : KeyKind prog w K} {kvs : List (K × Value)} (_N : News h₀ L h l) (_z : o.IsDictOf knd kvs) (hm : (d, o) ∈ l) : (d, o) ∈ l := hm
theorem cell_mem {h₀ h : Heap} {L : Addr} {l : List (Addr × Obj)} {d : Addr} {o : Obj} {v : Value} (_N : News h₀ L h l) (_z : o.data = .cell (some v)) (hm : (d, o) ∈ l) : (d, o) ∈ l := hm
theorem isnot_ov {M : Model} {A : Around} {E : Value → Shared → Prop} {s : Shared} {Q : Value → Shared → Prop} {x : Option (List UInt8)} {t : Tok} (h : Q (.bool x.isSome) s) : wpAny M A (compareOp .IsNot ((ov x t).getD .none) .none) Q E s := by
  cases x with
  | none => exact wpAny_isNot_self rfl h
  | some a => exact isnot_none_ne (by intro x; cases x) h
theorem PIn.length {tups : List (Addr × Obj)} : ∀ {vs : List Value} {ps : List (PySem.Str × Value)}, PIn tups vs ps → ps.length = vs.length
  | [], [], _ => rfl
  | _ :: _, _ :: _, ⟨_, h⟩ => by simp only [List.length_cons, PIn.length h]
  | [], _ :: _, h => h.elim
  | _ :: _, [], h => h.elim
theorem PIn.get {tups : List (Addr × Obj)} : ∀ {vs : List Value} {ps : List (PySem.Str × Value)}, PIn tups vs ps → ∀ (i : Nat) kv, ps[i]? = some kv → ∃ T t, vs.toArray[i]? = some (.ref T) ∧ (T, ({ cls := .type "tuple", data := .seq #[.str kv.1 t, kv.2] } : Obj)) ∈ tups
  | [], [], _, i, kv, h => by simp at h
  | v :: vs, p :: ps, ⟨⟨T, t, e, hm⟩, h⟩, i, kv, hk => by
    cases i with
    | zero =>
      obtain rfl := Option.some.inj hk
      exact ⟨T, t, by simp [e], hm⟩
    | succ i =>
      obtain ⟨T', t', e', hm'⟩ := PIn.get h i kv (by simpa using hk)
      exact ⟨T', t', by simpa using e', hm'⟩
  | [], _ :: _, h, _, _, _ => h.elim
  | _ :: _, [], h, _, _, _ => h.elim
theorem drop_mid {h₀ h : Heap} {L : Addr} {a b : Addr × Obj} {tups news₀ : List (Addr × Obj)} (N : News h₀ L h (a :: b :: (tups ++ news₀))) : News h₀ L h (a :: news₀) := fun p hp => N p (by
  rcases List.mem_cons.mp hp with rfl | hp
  · exact List.mem_cons_self ..
  · exact List.mem_cons_of_mem _ (List.mem_cons_of_mem _ (List.mem_append_right _ hp)))
theorem psOf_keys (ks : List KS) : ((psOf ks).map (·.1)).Sublist (ks.map (·.1)) := by
  induction ks with
  | nil => exact List.Sublist.slnil
  | cons q ks ih =>
    obtain ⟨k, x, t⟩ := q
    cases x with
    | none => exact List.Sublist.cons _ ih
    | some v => exact List.Sublist.cons₂ _ ih
theorem psOf_len (ks : List KS) : (psOf ks).length ≤ ks.length := List.length_filterMap_le ..
theorem ps1 (vi : Option (List UInt8)) (ti : Tok) : valueAt (psOf [(sISC, vi, ti)]) sISC = ov vi ti ∧ ∀ k, k ≠ sISC → valueAt (psOf [(sISC, vi, ti)]) k = none := by
  cases vi with
  | none => exact ⟨rfl, fun _ _ => rfl⟩
  | some v =>
    refine ⟨?_, fun k h => ?_⟩
    · show valueAt [(sISC, .bytes v.toArray ti)] sISC = _
      rw [vA_cons, if_pos rfl]; rfl
    · show valueAt [(sISC, .bytes v.toArray ti)] k = _
      rw [vA_cons, if_neg (fun e => h e.symm)]; rfl
theorem psOf_cons (k : PySem.Str) (x : Option (List UInt8)) (t : Tok) (ks : List KS) (k' : PySem.Str) (hn : (k :: ks.map (·.1)).Nodup) : valueAt (psOf ((k, x, t) :: ks)) k' = if k = k' then ov x t else valueAt (psOf ks) k' := by
  rw [List.nodup_cons] at hn
  cases x with
  | none =>
    show valueAt (psOf ks) k' = _
    by_cases e : k = k'
    · rw [if_pos e]
      exact valueAt_none_of_not_mem fun h => hn.1 (e ▸ (psOf_keys ks).mem h)
    · rw [if_neg e]
  | some v =>
    show valueAt ((k, .bytes v.toArray t) :: psOf ks) k' = _
    rw [vA_cons]
    rfl
theorem nodup3 : ([sISC, sODC, sRSC] : List PySem.Str).Nodup := by decide +kernel
theorem ps3 (vi vo vr : Option (List UInt8)) (ti t2 t3 : Tok) : valueAt (psOf [(sISC, vi, ti), (sODC, vo, t2), (sRSC, vr, t3)]) sISC = ov vi ti ∧ valueAt (psOf [(sISC, vi, ti), (sODC, vo, t2), (sRSC, vr, t3)]) sODC = ov vo t2 ∧ valueAt (psOf [(sISC, vi, ti), (sODC, vo, t2), (sRSC, vr, t3)]) sRSC = ov vr t3 ∧
    ∀ k, k ≠ sISC → k ≠ sODC → k ≠ sRSC → valueAt (psOf [(sISC, vi, ti), (sODC, vo, t2), (sRSC, vr, t3)]) k = none := by
  have n1 : (sISC :: [((sODC, vo, t2) : KS), (sRSC, vr, t3)].map (·.1)).Nodup := nodup3
  have n2 : (sODC :: [((sRSC, vr, t3) : KS)].map (·.1)).Nodup := (List.nodup_cons.mp nodup3).2
  have n3 : (sRSC :: ([] : List KS).map (·.1)).Nodup := (List.nodup_cons.mp n2).2
  refine ⟨?_, ?_, ?_, fun k h1 h2 h3 => ?_⟩
  · rw [psOf_cons _ _ _ _ _ n1, if_pos rfl]
  · rw [psOf_cons _ _ _ _ _ n1, if_neg ne_io, psOf_cons _ _ _ _ _ n2, if_pos rfl]
  · rw [psOf_cons _ _ _ _ _ n1, if_neg ne_ir, psOf_cons _ _ _ _ _ n2, if_neg ne_or, psOf_cons _ _ _ _ _ n3, if_pos rfl]
  · rw [psOf_cons _ _ _ _ _ n1, if_neg (fun e => h1 e.symm), psOf_cons _ _ _ _ _ n2, if_neg (fun e => h2 e.symm), psOf_cons _ _ _ _ _ n3, if_neg (fun e => h3 e.symm)]
    rfl
theorem sevens (t : Tok) : IntsAre (List.replicate (Int.toNat 16) [Value.int 7 t]).flatten.toArray.toList (List.replicate 16 7) := by
  show IntsAre [Value.int 7 t, Value.int 7 t, Value.int 7 t, Value.int 7 t, Value.int 7 t, Value.int 7 t, Value.int 7 t, Value.int 7 t, Value.int 7 t, Value.int 7 t, Value.int 7 t, Value.int 7 t, Value.int 7 t, Value.int 7 t, Value.int 7 t, Value.int 7 t] [7, 7, 7, 7, 7, 7, 7, 7, 7, 7, 7, 7, 7, 7, 7, 7]
  repeat constructor
theorem mk7 {prog : Program} {w : World} {A : Around} {E : Value → Shared → Prop} {s : Shared} {h₀ : Heap} {L D : Addr} {m : PySem.Str → Option Value} {news : List (Addr × Obj)} {Q : Value → Shared → Prop} {t : Tok}
    (F : Fr h₀ L s.heap m) (N : News h₀ L s.heap news) (hh : A.handled = none) (hm : (D, listOf (List.replicate (Int.toNat 16) [Value.int 7 t]).flatten.toArray 0) ∈ news)
    (h : ∀ h' t' k, Fr h₀ L h' m → News h₀ L h' news → Q (.bytes #[7, 7, 7, 7, 7, 7, 7, 7, 7, 7, 7, 7, 7, 7, 7, 7] t') { s with heap := h', toks := k }) : wpAny (model prog w) A (call (.type "bytes") [.ref D]) Q E s :=
  mk_bytes (List.replicate 16 7) F N hh hm (sevens t) (by decide) (by decide) h
theorem ne_ai : ¬ (sISC = sADR) := by decide +kernel
theorem ne_ao : ¬ (sODC = sADR) := by decide +kernel
theorem ne_ar : ¬ (sRSC = sADR) := by decide +kernel
/-- what a lot is: what is told, and whether it is right -/
noncomputable def Lot (prog : Program) (w : World) (nl : List (Addr × Obj)) (o : Obj) (role : PySem.Str) (src : List UInt8) (rs : Option (List UInt8)) (ok : Bool) : Prop :=
  ∃ (kvs : List (PySem.Str × Value)) (vi vo vr : Option (List UInt8)) (ti t2 t3 : Tok) (va : Option Addr), o.IsDictOf (PySem.strKind prog w) kvs ∧ (role = sSRV ∨ role = sCLI) ∧ src.length ≤ 20 ∧ OvOk rs ∧ OvOk vi ∧ OvOk vo ∧ OvOk vr ∧
    valueAt kvs sISC = ov vi ti ∧ valueAt kvs sODC = ov vo t2 ∧ valueAt kvs sRSC = ov vr t3 ∧ valueAt kvs sADR = va.map .ref ∧ (∀ a, va = some a → ∃ a1 a2 a3 a4 a5 a6, (a, adrO a1 a2 a3 a4 a5 a6) ∈ nl) ∧ (∀ k, k ≠ sISC → k ≠ sODC → k ≠ sRSC → k ≠ sADR → valueAt kvs k = none) ∧
    (role = sCLI → vo = none ∧ vr = none ∧ va = none) ∧ ok = okIds (role != sCLI) vi vo vr firstB src rs va.isSome
theorem srv_cli : (sSRV != sCLI) = true := by decide +kernel
theorem cli_srv : ¬ (sCLI = sSRV) := by decide +kernel
theorem srv_cli' : ¬ (sSRV = sCLI) := by decide +kernel
theorem lot_srv0 {prog : Program} {w : World} {nl : List (Addr × Obj)} {o : Obj} {role : PySem.Str} {src : List UInt8} {rs vi vo vr : Option (List UInt8)} {ti t2 t3 : Tok} {ok : Bool} (ho : o.IsDictOf (PySem.strKind prog w) (psOf [(sISC, vi, ti), (sODC, vo, t2), (sRSC, vr, t3)]))
    (hr : (role == sSRV) = true) (hs : src.length ≤ 20) (h1 : OvOk rs) (h2 : OvOk vi) (h3 : OvOk vo) (h4 : OvOk vr) (hok : ok = (vi == some src && (vo == some firstB && vr == rs))) : Lot prog w nl o role src rs ok := by
  obtain rfl : role = sSRV := by simpa using hr
  obtain ⟨p1, p2, p3, p4⟩ := ps3 vi vo vr ti t2 t3
  refine ⟨_, vi, vo, vr, ti, t2, t3, none, ho, .inl rfl, hs, h1, h2, h3, h4, p1, p2, p3, p4 _ (fun e => ne_ai e.symm) (fun e => ne_ao e.symm) (fun e => ne_ar e.symm), (fun a h => nomatch h), fun k a b c _ => p4 k a b c, fun e => absurd e srv_cli', ?_⟩
  rw [hok]
  simp [okIds, srv_cli]
theorem lot_srv1 {prog : Program} {w : World} {nl : List (Addr × Obj)} {o : Obj} {role : PySem.Str} {src : List UInt8} {rs vi vo vr : Option (List UInt8)} {ti t2 t3 : Tok} {ok hb : Bool} {a : Addr} {a1 a2 a3 a4 a5 a6 : Tok} (ho : o.IsDictOf (PySem.strKind prog w) (stored (psOf [(sISC, vi, ti), (sODC, vo, t2), (sRSC, vr, t3)]) sADR (.ref a)))
    (hm : (a, adrO a1 a2 a3 a4 a5 a6) ∈ nl) (hr : (role == sSRV) = true) (hs : src.length ≤ 20) (h1 : OvOk rs) (h2 : OvOk vi) (h3 : OvOk vo) (h4 : OvOk vr) (hok : hb = (vi == some src && (vo == some firstB && vr == rs))) (hok2 : ok = (hb && (src != []))) : Lot prog w nl o role src rs ok := by
  obtain rfl : role = sSRV := by simpa using hr
  obtain ⟨p1, p2, p3, p4⟩ := ps3 vi vo vr ti t2 t3
  refine ⟨_, vi, vo, vr, ti, t2, t3, some a, ho, .inl rfl, hs, h1, h2, h3, h4, ?_, ?_, ?_, ?_, (fun x h => by cases h; exact ⟨_, _, _, _, _, _, hm⟩), (fun k q1 q2 q3 q4 => ?_), fun e => absurd e srv_cli', ?_⟩
  · rw [vA_stored, if_neg ne_ai]; exact p1
  · rw [vA_stored, if_neg ne_ao]; exact p2
  · rw [vA_stored, if_neg ne_ar]; exact p3
  · rw [vA_stored, if_pos rfl]; rfl
  · rw [vA_stored, if_neg q4]; exact p4 k q1 q2 q3
  · rw [hok2, hok]
    have e : (sSRV == sCLI) = false := by decide +kernel
    simp [okIds, bne, e, Bool.and_assoc]
theorem lot_cli {prog : Program} {w : World} {nl : List (Addr × Obj)} {o : Obj} {role : PySem.Str} {src : List UInt8} {vi : Option (List UInt8)} {ti : Tok} {ok : Bool} (ho : o.IsDictOf (PySem.strKind prog w) (psOf [(sISC, vi, ti)]))
    (hro : role = sSRV ∨ role = sCLI) (hr : (role == sSRV) = false) (hs : src.length ≤ 20) (h2 : OvOk vi) (hok : ok = (vi == some src)) : Lot prog w nl o role src none ok := by
  obtain rfl : role = sCLI := by
    rcases hro with rfl | rfl
    · simp at hr
    · rfl
  obtain ⟨p1, p4⟩ := ps1 vi ti
  refine ⟨_, vi, none, none, ti, 0, 0, none, ho, .inr rfl, hs, .none, h2, .none, .none, p1, p4 _ (fun e => ne_io e.symm), p4 _ (fun e => ne_ir e.symm), p4 _ (fun e => ne_ai e.symm), (fun a h => nomatch h), fun k a _ _ _ => p4 k a, fun _ => ⟨rfl, rfl, rfl⟩, ?_⟩
  rw [hok]
  simp [okIds]
noncomputable abbrev lotT (role : PySem.Str) (d TI : Addr) (ok : Bool) (tr : Tok) : Obj := { cls := .type "tuple", data := .seq #[.str role tr, .ref d, .ref TI, .bool ok] }
noncomputable abbrev lotI (src : List UInt8) (rs : Option (List UInt8)) (t1 t2 t3 : Tok) : Obj := { cls := .type "tuple", data := .seq #[.bytes #[116, 111, 32, 116, 104, 101, 32, 102, 105, 114, 115, 116] t1, .bytes src.toArray t2, (ov rs t3).getD .none] }
theorem off3_cons {I C D T : Addr} {o : Obj} {news : List (Addr × Obj)} (h : PyProof.Rows.LCg.Off3 I C D news) (h1 : I < T) (h2 : C < T) (h3 : D < T) : PyProof.Rows.LCg.Off3 I C D ((T, o) :: news) := ⟨⟨Nat.ne_of_gt h1, Nat.ne_of_gt h2, Nat.ne_of_gt h3⟩, h⟩
theorem sub_t3 {a b c t : Addr × Obj} {news : List (Addr × Obj)} : ∀ p ∈ a :: b :: c :: t :: news, p ∈ t :: a :: b :: c :: news := by
  intro p hp
  simp only [List.mem_cons] at hp ⊢
  rcases hp with h | h | h | h | h
  · exact .inr (.inl h)
  · exact .inr (.inr (.inl h))
  · exact .inr (.inr (.inr (.inl h)))
  · exact .inl h
  · exact .inr (.inr (.inr (.inr h)))
theorem isc_of {v : Value} {src : List UInt8} {t1 t2 t3 t4 : Tok} (hsrc : src.length ≤ 20) (hv : v ∈ (#[Value.bytes src.toArray t1, .bytes src.toArray t2, .bytes src.toArray t3, .bytes #[111, 116, 104, 101, 114] t4, .none] : Array Value).toList) : ∃ (x : Option (List UInt8)) (t : Tok), OvOk x ∧ v = (ov x t).getD .none := by
  simp only [List.mem_cons, List.not_mem_nil, or_false] at hv
  rcases hv with rfl | rfl | rfl | rfl | rfl
  · exact ⟨some src, _, .some hsrc, rfl⟩
  · exact ⟨some src, _, .some hsrc, rfl⟩
  · exact ⟨some src, _, .some hsrc, rfl⟩
  · exact ⟨some [111, 116, 104, 101, 114], _, .some (by decide), rfl⟩
  · exact ⟨none, 0, .none, rfl⟩

local macro_rules | `(tactic| walk_at "call type:bytes") => `(tactic| (k_here; (with_reducible show wpAny _ _ (call (Value.type "bytes") [Value.ref _]) _ _ _); k_dflt (refine mk7 (by k_asm) (by k_asm) (by rfl) (by k_mem) ?_); intro _ _ _ F' N'; (try k_sweep)))
local macro_rules | `(tactic| walk_at "call type:dict") => `(tactic| (k_here; refine Stop4.mk ?_))
local macro_rules | `(tactic| walk_at "compareOp IsNot") => `(tactic| (k_here; (refine isnot_ov ?_)))
local macro_rules | `(tactic| walk_at "eval Name") => `(tactic| (k_here; (with_reducible show wpAny _ _ (eval (Expr.Name (PySem.Str.ofString "told") _) (compEnvC _ _ _ _)) _ _ _); k_dflt (refine' lcf_free ?N ?c ?m ?d ?_ ?a ?b; (case a => rfl); (case b => rfl); (case N => k_asm); (case c => rfl); (case m => assumption); (case d => assumption); k_whole)))
local macro_rules | `(tactic| walk_at "setItem ref str") => `(tactic| (k_here; k_dflt (refine' kda_set (knd := PySem.strKind _ _) ?F ?N ?U ?ho (strKind_is _ _ _ _) ?hsz ?_; (case F => k_asm); (case N => k_asm); (case U => k_updF); (case ho => assumption); (case hsz => first | exact Nat.le_of_ble_eq_true rfl | exact Nat.le_trans (stored_length_le _ _ _) (Nat.le_of_ble_eq_true rfl) | (rw [sizeLine_eq]; omega)); intro _ _ _ _ _; (try dsimp only))))
local macro_rules | `(tactic| walk_at "eval ListComp") => `(tactic| (k_here; refine Stop4.mk ?_))
local macro_rules | `(tactic| walk_at "eval BoolOp") => `(tactic| (k_here; (rename LotMark => lm9); refine Stop4.mk ?_))
local macro_rules | `(tactic| walk_at "compareOp Eq") => `(tactic| (k_here; (with_reducible show wpAny _ _ (compareOp CmpOp.Eq (Option.getD (ov _ _) _) (Value.bytes _ _)) _ _ _); (refine eq_ov (y := some _) ?_)))
local macro_rules | `(tactic| walk_at "compareOp Eq") => `(tactic| (k_here; (with_reducible show wpAny _ _ (compareOp CmpOp.Eq (Option.getD (ov _ _) _) (Option.getD (ov _ _) _)) _ _ _); (refine eq_ov ?_)))
local macro_rules | `(tactic| walk_at "subscriptTail") => `(tactic| (k_here; (with_reducible show wpAny _ _ (subscriptTail _ _ (Value.ref _) (Value.int _ _)) _ _ _); refine Stop4.mk ?_))
theorem c_lot : ∀ {w : World} {mean : ExcName → Option Value} {mg mb : Str → Option Value} {p : Int} {tp : Tok} {news : List (Addr × Obj)}
    {cn : Str} {cs : Scope} {a : Addr} {ccd : Value} {cl : List (Str × Addr)} {outer : List Env} {A₀ : Around} {base h₀ : Heap} {L : Addr} {m : Str → Option Value} {s : Shared} {Q E : Value → Shared → Prop}
    (XB : (hd.heap_1 w.params).In base) (B : Below A₀ base outer h₀) (F : Fr h₀ L s.heap m) (X : (hd.heap_1 w.params).In h₀) (N : News h₀ L s.heap news) (T : Top hd.view_39 (looseW hd.view_39 [Str.ofString "BOUNDS"]) mean mg mb h₀) (hk : cs.kind = .function) (hp : 0 ≤ p)
    (hret : ∀ (T TI d : Addr) (o : Obj) (role : Str) (src : List UInt8) (rs : Option (List UInt8)) (ok : Bool) (tr t1 t2 t3 : Tok) (nl : List (Addr × Obj)) (h' : Heap) (tk' : Nat), Fr h₀ L h' m → News h₀ L h' nl → (T, lotT role d TI ok tr) ∈ nl → (TI, lotI src rs t1 t2 t3) ∈ nl → (d, o) ∈ nl → (d == sysModules) = false → (∀ p ∈ news, p ∈ nl) → Lot PySem.Challenge.rw_pf0267_01.row.prog w nl o role src rs ok → Q (.ref T) { s with heap := h', toks := tk' }),
    wpAny (model PySem.Challenge.rw_pf0267_01.row.prog w) (ktrTop 302 7 (some []) cn cs L a ccd cl outer) (call (.ref 278) [.int p tp] []) Q E s := by
  k_fill
  intro w mean mg mb p tp news cn cs a ccd cl outer A₀ base h₀ L m s Q E XB B F X N T hk hp hret
  have lm : LotMark := trivial
  refine wpAny_call ?_
  k_dflt (refine' code_defC ?k1 ?k2 ?k3 ?k4 ?k5 ?kA ?kF ?kK ?k6 ?k7 ?k8 ?k9 ?kB ?kD ?_ ?c2 ?c3 ?c4; (case kA => exact rfl); (case kF => exact rfl); (case kK => first | assumption | exact rfl); (case k1 => k_asm); (case k2 => k_asm); (case k3 => k_asm); (case k4 => k_asm); (case k5 => k_asm); (case k6 => k_is); (case k7 => k_is); (case k8 => exact Nat.le_of_ble_eq_true rfl); (case k9 => exact BindsTo.of_eq rfl); (case kB => exact rfl); (case kD => decide +kernel); (case c2 => exact rfl); (case c3 => exact rfl); (case c4 => exact rfl); k_whole; intro g' L' h' tk' cells' FG' F' N' Y' B' X' T' l1; (try k_lt l1); k_cells Y'; (try simp only [List.cons_append, List.nil_append] at N'); (try dsimp only); (try k_lift B'))
  refine wpAny_noRaise ?_
  (try k_fold)
  have lcell : ∀ p ∈ news, p.1 ≠ L' + 1 := fun p hp => Nat.ne_of_lt (Nat.lt_succ_of_lt (l1 p hp))
  k_steps
  unfold Stop4
  (with_reducible rename News _ _ _ _ => N9)
  refine pick_any N9 (List.mem_cons_self ..) (Int.fmod_nonneg_of_pos _ (by decide)) (Int.fmod_lt_of_pos _ (by decide)) (by show _ ≤ 1000; simp only [List.size_toArray, List.length_cons, List.length_nil]; decide) (fun v hv => ?_)
  obtain ⟨role, trl, hrole, rfl⟩ := role_of hv
  k_steps
  unfold Stop4
  (with_reducible rename Fr _ _ _ _ => F9); (with_reducible rename News _ _ _ _ => N9)
  refine gen_bool (fun b => b = true → role = sSRV) F9 N9 (fun Q' hQ' => ?_) (fun ha hh tt hbha F8 N8 => ?_)
  · (rename LotMark => lm8); clear lm8
    k_steps
    all_goals (refine hQ' _ _ _ ?_ (by k_asm) (by k_asm); first | (intro h; simp_all; done) | (intro h; cases h) | (intro h; simpa using h))
  clear F9 N9
  (try dsimp only)
  k_steps
  unfold Stop4
  (with_reducible rename News _ _ _ _ => N9)
  refine pick_any N9 (List.mem_cons_self ..) (Int.fmod_nonneg_of_pos _ (by decide)) (Int.fmod_lt_of_pos _ (by decide)) (by show _ ≤ 1000; simp only [List.size_toArray, List.length_cons, List.length_nil]; decide) (fun v hv => ?_)
  obtain ⟨src, tsr, hsrc, rfl⟩ := src_of hv
  k_steps
  unfold Stop4
  (with_reducible rename News _ _ _ _ => N9)
  refine pick_any N9 (List.mem_cons_self ..) (Int.fmod_nonneg_of_pos _ (by decide)) (Int.fmod_lt_of_pos _ (by decide)) (by show _ ≤ 1000; simp only [List.size_toArray, List.length_cons, List.length_nil]; decide) (fun v hv => ?_)
  obtain ⟨vi, ti, hvi, rfl⟩ := isc_of hsrc hv
  k_steps
  · skip
    unfold Stop4
    (with_reducible rename News _ _ _ _ => N9)
    refine pick_any N9 (List.mem_cons_self ..) (Int.fmod_nonneg_of_pos _ (by decide)) (Int.fmod_lt_of_pos _ (by decide)) (by show _ ≤ 1000; simp only [List.size_toArray, List.length_cons, List.length_nil]; decide) (fun v hv => ?_)
    obtain ⟨rs, trs, hrs, rfl⟩ := retry_of hv
    k_steps
    unfold Stop4
    (with_reducible rename News _ _ _ _ => N9)
    refine pick_any N9 (List.mem_cons_self ..) (Int.fmod_nonneg_of_pos _ (by decide)) (Int.fmod_lt_of_pos _ (by decide)) (by show _ ≤ 1000; simp only [List.size_toArray, List.length_cons, List.length_nil]; decide) (fun v hv => ?_)
    obtain ⟨vo, t2, hvo, rfl⟩ := odc_of hv
    k_steps
    unfold Stop4
    (with_reducible rename News _ _ _ _ => N9)
    refine pick_any N9 (List.mem_cons_self ..) (Int.fmod_nonneg_of_pos _ (by decide)) (Int.fmod_lt_of_pos _ (by decide)) (by show _ ≤ 1000; simp only [List.size_toArray, List.length_cons, List.length_nil]; decide) (fun v hv => ?_)
    obtain ⟨vr, t3, hvr, rfl⟩ := rsc_of hrs hv
    k_steps
    (rename (Obj.IsDictOf _ _ (stored _ _ _)) => hz3)
    rw [st3] at hz3
    have hv32 := v3_2 ((ov vi ti).getD .none) ((ov vo t2).getD .none) ((ov vr t3).getD .none)
    have hv33 := v3_3 ((ov vi ti).getD .none) ((ov vo t2).getD .none) ((ov vr t3).getD .none)
    unfold Stop4
    (with_reducible rename Fr _ _ _ _ => F9); (with_reducible rename News _ _ _ _ => N9)
    refine gen_bool (fun b => b = (vi == some src && (vo == some firstB && vr == rs))) F9 N9 (fun Q' hQ' => ?_) (fun hb hh tt hbhb F8 N8 => ?_)
    · (rename LotMark => lm8); clear lm8
      k_steps
      all_goals (refine hQ' _ _ _ ?_ (by k_asm) (by k_asm); first | (simp_all [firstB]; done) | ((rename ((vi == _) = true) => e1); (rename ((vo == _) = true) => e2); (have e3 : (vo == some firstB) = true := e2); simp only [e1, e3, Bool.true_and]; done) | ((rename ((vi == _) = true) => e1); (rename ((vo == _) = false) => e2); (have e3 : (vo == some firstB) = false := e2); simp only [e1, e3, Bool.true_and, Bool.false_and]; exact e2) | ((rename ((vi == _) = false) => e1); simp only [e1, Bool.false_and]; done))
    clear F9 N9
    (try dsimp only)
    k_steps
    unfold Stop4
    (with_reducible rename Fr _ _ _ _ => F9)
    refine ListComp_D F9 rfl (by with_unfolding_all rfl) (by decide) (by rfl) (by decide) (by rfl) ?_
    k_steps
    (with_reducible rename News _ _ _ _ => N9)
    (rename (Obj.data _ = Data.cell (some (Value.ref _))) => hcd)
    have hzk : Obj.IsDictOf (PySem.strKind _ w) _ (ksf [(sISC, vi, ti), (sODC, vo, t2), (sRSC, vr, t3)]) := hz3
    have hm0 := dict_mem N9 hzk (by (repeat (first | exact List.mem_cons_self .. | apply List.mem_cons_of_mem)))
    have hc0 := cell_mem N9 hcd (by (repeat (first | exact List.mem_cons_self .. | apply List.mem_cons_of_mem)))
    have hnd := IsDictOf_nodup hzk
    refine ⟨_, _, _, _, rfl, F9, N9, hm0, hzk, (by assumption), Nat.le_of_ble_eq_true rfl, fun gg => ?_⟩
    refine compT_ind (CInv [(sISC, vi, ti), (sODC, vo, t2), (sRSC, vr, t3)] _) ?dones ?turns _ 0 [] _ (Nat.zero_add _) ⟨[], rfl, trivial⟩
    case turns =>
      clear N9 F9
      rintro i ys news₁ hi hinv v I oI C oC D m₂ h tk E' ⟨k, y, hky, hkey⟩ hns hm₂ F₁ N₁ off ne
      obtain ⟨tkk, rfl⟩ := key_inv hkey
      obtain ⟨x, t, hkx, rfl⟩ := ks_inv hky
      have hval := valueAt_of_get hnd hky
      have hmd := in3 (a := (I, oI)) (b := (C, oC)) (c := (D, PyProof.Rows.LCg.lst ys)) (hinv.mem hm0)
      have hmc := in3 (a := (I, oI)) (b := (C, oC)) (c := (D, PyProof.Rows.LCg.lst ys)) (hinv.mem hc0)
      k_steps
      · (with_reducible rename Fr _ _ _ _ => F7); (with_reducible rename News _ _ _ _ => N7)
        (rename (_ < _ ∧ _ < _ ∧ _ < _ ∧ AllLt _ _) => l7)
        refine PyProof.Rows.LCg.CompEnd.intro F7 N7 _ sub_t3 (off3_cons off l7.1 l7.2.1 l7.2.2.1) (List.mem_cons_of_mem _ (hinv.mem hm0)) (hinv.yes hkx (by assumption))
      · (with_reducible rename Fr _ _ _ _ => F7); (with_reducible rename News _ _ _ _ => N7)
        exact PyProof.Rows.LCg.CompEnd.intro F7 N7 _ (fun p hp => hp) off (hinv.mem hm0) (hinv.no hkx (by assumption))
    case dones =>
      clear N9 F9
      rintro ys news₁ ⟨tups, rfl, hpi⟩ D h tk F₁ N₁ off
      k_steps
      unfold Stop4
      (with_reducible rename Fr _ _ _ _ => F9); (with_reducible rename News _ _ _ _ => N9)
      have hpi' : PIn tups ys (psOf [(sISC, vi, ti), (sODC, vo, t2), (sRSC, vr, t3)]) := hpi
      refine dict_pairs_list (kvs := psOf [(sISC, vi, ti), (sODC, vo, t2), (sRSC, vr, t3)]) F9 N9 (modules_low (Top.nolimit (by k_asm))) rfl (N9 (D, PyProof.Rows.LCg.lst ys) (List.mem_cons_self ..)).1 rfl rfl rfl hpi'.length (Nat.le_trans (psOf_len _) (Nat.le_of_ble_eq_true rfl)) (fun i kv hkv => ?_) fun d1 h1 tk1 o1 F1 N1 l1d lo1 ho1 => ?_
      · obtain ⟨T, t, e1, e2⟩ := hpi'.get i kv hkv
        exact ⟨T, _, t, _, e1, (N9 _ (List.mem_cons_of_mem _ (List.mem_append_left _ e2))).1, rfl, rfl⟩
      rw [merged_nil_of_nodup (psOf [(sISC, vi, ti), (sODC, vo, t2), (sRSC, vr, t3)]) ((psOf_keys [(sISC, vi, ti), (sODC, vo, t2), (sRSC, vr, t3)]).nodup nodup3)] at ho1
      have hlps : (psOf [(sISC, vi, ti), (sODC, vo, t2), (sRSC, vr, t3)]).length ≤ 3 := Nat.le_trans (psOf_len _) (Nat.le_of_ble_eq_true rfl)
      have N2 := drop_mid N1
      have l2d := fun p hp => l1d p (List.mem_cons_of_mem _ (List.mem_append_right _ hp))
      clear N1 N9 F9 l1d
      (try k_lt l2d)
      (try dsimp only)
      k_steps
      · skip
        unfold Stop4
        (with_reducible rename Fr _ _ _ _ => F9); (with_reducible rename News _ _ _ _ => N9)
        refine gen_bool (fun b => b = (hb && (src != []))) F9 N9 (fun Q' hQ' => ?_) (fun hc hh tt hbhc F8 N8 => ?_)
        · (rename LotMark => lm8); clear lm8
          k_steps
          all_goals (refine hQ' _ _ _ ?_ (by k_asm) (by k_asm); first | ((have e1 : hb = true := by assumption); rw [e1]; simp; done) | ((have e1 : hb = false := by assumption); simp [e1]; done))
        clear F9 N9
        (try dsimp only)
        k_steps
        (with_reducible rename News _ _ _ _ => N7)
        refine hret _ _ _ _ role src _ _ _ _ _ _ _ _ _ (by k_asm) N7 (by (repeat (first | exact List.mem_cons_self .. | apply List.mem_cons_of_mem))) (by (repeat (first | exact List.mem_cons_self .. | apply List.mem_cons_of_mem))) (by (repeat (first | exact List.mem_cons_self .. | apply List.mem_cons_of_mem))) lo1 (fun p hp => by (repeat (first | exact hp | apply List.mem_cons_of_mem))) ?_
        exact lot_srv1 (by assumption) (by (repeat (first | exact List.mem_cons_self .. | apply List.mem_cons_of_mem))) (by assumption) hsrc hrs hvi hvo hvr hbhb hbhc
      · (with_reducible rename News _ _ _ _ => N7)
        refine hret _ _ _ _ role src _ _ _ _ _ _ _ _ _ (by k_asm) N7 (by (repeat (first | exact List.mem_cons_self .. | apply List.mem_cons_of_mem))) (by (repeat (first | exact List.mem_cons_self .. | apply List.mem_cons_of_mem))) (by (repeat (first | exact List.mem_cons_self .. | apply List.mem_cons_of_mem))) lo1 (fun p hp => by (repeat (first | exact hp | apply List.mem_cons_of_mem))) ?_
        exact lot_srv0 ho1 (by assumption) hsrc hrs hvi hvo hvr hbhb
  · skip
    unfold Stop4
    (with_reducible rename Fr _ _ _ _ => F9)
    refine ListComp_D F9 rfl (by with_unfolding_all rfl) (by decide) (by rfl) (by decide) (by rfl) ?_
    k_steps
    (with_reducible rename News _ _ _ _ => N9)
    (rename (Obj.IsDictOf _ _ (strPairs _)) => hzc)
    (rename (Obj.data _ = Data.cell (some (Value.ref _))) => hcd)
    have hzk : Obj.IsDictOf (PySem.strKind _ w) _ (ksf [(sISC, vi, ti)]) := hzc
    have hm0 := dict_mem N9 hzk (by (repeat (first | exact List.mem_cons_self .. | apply List.mem_cons_of_mem)))
    have hc0 := cell_mem N9 hcd (by (repeat (first | exact List.mem_cons_self .. | apply List.mem_cons_of_mem)))
    have hnd := IsDictOf_nodup hzk
    refine ⟨_, _, _, _, rfl, F9, N9, hm0, hzk, (by assumption), Nat.le_of_ble_eq_true rfl, fun gg => ?_⟩
    refine compT_ind (CInv [(sISC, vi, ti)] _) ?donec ?turnc _ 0 [] _ (Nat.zero_add _) ⟨[], rfl, trivial⟩
    case turnc =>
      clear N9 F9
      rintro i ys news₁ hi hinv v I oI C oC D m₂ h tk E' ⟨k, y, hky, hkey⟩ hns hm₂ F₁ N₁ off ne
      obtain ⟨tkk, rfl⟩ := key_inv hkey
      obtain ⟨x, t, hkx, rfl⟩ := ks_inv hky
      have hval := valueAt_of_get hnd hky
      have hmd := in3 (a := (I, oI)) (b := (C, oC)) (c := (D, PyProof.Rows.LCg.lst ys)) (hinv.mem hm0)
      have hmc := in3 (a := (I, oI)) (b := (C, oC)) (c := (D, PyProof.Rows.LCg.lst ys)) (hinv.mem hc0)
      k_steps
      · (with_reducible rename Fr _ _ _ _ => F7); (with_reducible rename News _ _ _ _ => N7)
        (rename (_ < _ ∧ _ < _ ∧ _ < _ ∧ AllLt _ _) => l7)
        refine PyProof.Rows.LCg.CompEnd.intro F7 N7 _ sub_t3 (off3_cons off l7.1 l7.2.1 l7.2.2.1) (List.mem_cons_of_mem _ (hinv.mem hm0)) (hinv.yes hkx (by assumption))
      · (with_reducible rename Fr _ _ _ _ => F7); (with_reducible rename News _ _ _ _ => N7)
        exact PyProof.Rows.LCg.CompEnd.intro F7 N7 _ (fun p hp => hp) off (hinv.mem hm0) (hinv.no hkx (by assumption))
    case donec =>
      clear N9 F9
      rintro ys news₁ ⟨tups, rfl, hpi⟩ D h tk F₁ N₁ off
      k_steps
      unfold Stop4
      (with_reducible rename Fr _ _ _ _ => F9); (with_reducible rename News _ _ _ _ => N9)
      have hpi' : PIn tups ys (psOf [(sISC, vi, ti)]) := hpi
      refine dict_pairs_list (kvs := psOf [(sISC, vi, ti)]) F9 N9 (modules_low (Top.nolimit (by k_asm))) rfl (N9 (D, PyProof.Rows.LCg.lst ys) (List.mem_cons_self ..)).1 rfl rfl rfl hpi'.length (Nat.le_trans (psOf_len _) (Nat.le_of_ble_eq_true rfl)) (fun i kv hkv => ?_) fun d1 h1 tk1 o1 F1 N1 l1d lo1 ho1 => ?_
      · obtain ⟨T, t, e1, e2⟩ := hpi'.get i kv hkv
        exact ⟨T, _, t, _, e1, (N9 _ (List.mem_cons_of_mem _ (List.mem_append_left _ e2))).1, rfl, rfl⟩
      rw [merged_nil_of_nodup (psOf [(sISC, vi, ti)]) ((psOf_keys [(sISC, vi, ti)]).nodup (by exact List.nodup_cons.mpr ⟨List.not_mem_nil, List.nodup_nil⟩))] at ho1
      have hlps : (psOf [(sISC, vi, ti)]).length ≤ 3 := Nat.le_trans (psOf_len _) (Nat.le_of_ble_eq_true rfl)
      have N2 := drop_mid N1
      have l2d := fun p hp => l1d p (List.mem_cons_of_mem _ (List.mem_append_right _ hp))
      clear N1 N9 F9 l1d
      (try k_lt l2d)
      (try dsimp only)
      k_steps
      · exfalso
        have e1 : role = sSRV := hbha (by assumption)
        have e2 : (role == sSRV) = false := by assumption
        rw [e1] at e2
        simp at e2
      · (with_reducible rename News _ _ _ _ => N7)
        refine hret _ _ _ _ role src none _ _ _ _ 0 _ _ _ (by k_asm) N7 (by (repeat (first | exact List.mem_cons_self .. | apply List.mem_cons_of_mem))) (by (repeat (first | exact List.mem_cons_self .. | apply List.mem_cons_of_mem))) (by (repeat (first | exact List.mem_cons_self .. | apply List.mem_cons_of_mem))) lo1 (fun p hp => by (repeat (first | exact hp | apply List.mem_cons_of_mem))) ?_
        exact lot_cli ho1 hrole (by assumption) hsrc hvi rfl

end PartNLO

theorem flush36 {M : Model} {A : Around} {env : Env} {Q : Flow → Shared → Prop} {E : Value → Shared → Prop} {s : Shared} (h : wpAny M A (execs [] env) Q E s) : wpAny M A (execs [] env) Q E s := by
  w_top off
  first | (walk1; fail) | exact h

end Group6

theorem flush37 {M : Model} {A : Around} {env : Env} {Q : Flow → Shared → Prop} {E : Value → Shared → Prop} {s : Shared} (h : wpAny M A (execs [] env) Q E s) : wpAny M A (execs [] env) Q E s := by
  w_top off
  first | (walk1; fail) | exact h

section PartNLP
noncomputable def lotVal (vi vo vr : Option (List UInt8)) (va : Option Addr) (k : PySem.Str) : Option (List UInt8) :=
  if k = sISC then vi else if k = sODC then vo else if k = sRSC then vr else if k = sADR then va.map (fun _ => adr43.toList) else none
theorem kind_i : ∀ r ∈ rowsD, r.name = sISC → r.kind = Str.ofString "id" := by decide +kernel
theorem kind_o : ∀ r ∈ rowsD, r.name = sODC → r.kind = Str.ofString "id" := by decide +kernel
theorem kind_r : ∀ r ∈ rowsD, r.name = sRSC → r.kind = Str.ofString "id" := by decide +kernel
theorem kind_a : ∀ r ∈ rowsD, r.name = sADR → r.kind = Str.ofString "address" := by decide +kernel
theorem row_i : ∃ r ∈ rowsD, r.name = sISC ∧ r.name ∉ dNames := by decide +kernel
theorem row_o : ∃ r ∈ rowsD, r.name = sODC ∧ r.name ∉ dNames := by decide +kernel
theorem row_r : ∃ r ∈ rowsD, r.name = sRSC ∧ r.name ∉ dNames := by decide +kernel
theorem row_a : ∃ r ∈ rowsD, r.name = sADR ∧ r.name ∉ dNames := by decide +kernel
theorem id_adr : ¬ (Str.ofString "id" = Str.ofString "address") := by decide +kernel
theorem unk_i : Str.ofString "unknown" ≠ sISC ∧ Str.ofString "unknown" ≠ sODC ∧ Str.ofString "unknown" ≠ sRSC ∧ Str.ofString "unknown" ≠ sADR := by decide +kernel
theorem adr_len : adr43.toList.length = 43 := by decide
theorem lv_i {vi vo vr : Option (List UInt8)} {va : Option Addr} : lotVal vi vo vr va sISC = vi := by unfold lotVal; rw [if_pos rfl]
theorem lv_o {vi vo vr : Option (List UInt8)} {va : Option Addr} : lotVal vi vo vr va sODC = vo := by unfold lotVal; rw [if_neg (fun e => ne_io e.symm), if_pos rfl]
theorem lv_r {vi vo vr : Option (List UInt8)} {va : Option Addr} : lotVal vi vo vr va sRSC = vr := by unfold lotVal; rw [if_neg (fun e => ne_ir e.symm), if_neg (fun e => ne_or e.symm), if_pos rfl]
theorem lv_a {vi vo vr : Option (List UInt8)} {va : Option Addr} : lotVal vi vo vr va sADR = va.map (fun _ => adr43.toList) := by unfold lotVal; rw [if_neg (fun e => ne_ai e.symm), if_neg (fun e => ne_ao e.symm), if_neg (fun e => ne_ar e.symm), if_pos rfl]
theorem lv_n {vi vo vr : Option (List UInt8)} {va : Option Addr} {k : PySem.Str} (a : k ≠ sISC) (b : k ≠ sODC) (c : k ≠ sRSC) (d : k ≠ sADR) : lotVal vi vo vr va k = none := by unfold lotVal; rw [if_neg a, if_neg b, if_neg c, if_neg d]
section
variable {kvs : List (PySem.Str × Value)} {vi vo vr : Option (List UInt8)} {va : Option Addr} {ti t2 t3 : Tok} {news : List (Addr × Obj)}
theorem rowId {val : PySem.Str → Option (List UInt8)} {r : RowD} {x : Option (List UInt8)} {t : Tok} (hx : OvOk x) (hk : r.kind = Str.ofString "id") (hv : val r.name = x) (h : valueAt kvs r.name = ov x t) : RowOk kvs news val r := by
  unfold RowOk
  rw [hv]
  cases x with
  | none => exact h
  | some v =>
    have := hx v rfl
    exact ⟨by omega, .inl ⟨hk, t, h⟩⟩
theorem lot_rowOk (h1 : OvOk vi) (h2 : OvOk vo) (h3 : OvOk vr) (e1 : valueAt kvs sISC = ov vi ti) (e2 : valueAt kvs sODC = ov vo t2) (e3 : valueAt kvs sRSC = ov vr t3) (e4 : valueAt kvs sADR = va.map .ref)
    (ha : ∀ a, va = some a → ∃ a1 a2 a3 a4 a5 a6, (a, adrO a1 a2 a3 a4 a5 a6) ∈ news) (hn : ∀ k, k ≠ sISC → k ≠ sODC → k ≠ sRSC → k ≠ sADR → valueAt kvs k = none) : ∀ r ∈ rowsD, RowOk kvs news (lotVal vi vo vr va) r := by
  intro r hr
  by_cases q1 : r.name = sISC
  · exact rowId h1 (kind_i r hr q1) (by rw [q1, lv_i]) (by rw [q1, e1])
  by_cases q2 : r.name = sODC
  · exact rowId h2 (kind_o r hr q2) (by rw [q2, lv_o]) (by rw [q2, e2])
  by_cases q3 : r.name = sRSC
  · exact rowId h3 (kind_r r hr q3) (by rw [q3, lv_r]) (by rw [q3, e3])
  by_cases q4 : r.name = sADR
  · unfold RowOk
    rw [q4, lv_a]
    cases va with
    | none => exact e4
    | some a =>
      obtain ⟨a1, a2, a3, a4, a5, a6, hm⟩ := ha a rfl
      exact ⟨by rw [adr_len]; decide, .inr ⟨kind_a r hr q4, rfl, a, a1, a2, a3, a4, a5, a6, e4, hm⟩⟩
  · unfold RowOk
    rw [lv_n q1 q2 q3 q4]
    exact hn _ q1 q2 q3 q4
theorem lot_toldOk (h1 : OvOk vi) (h2 : OvOk vo) (h3 : OvOk vr) : ∀ r ∈ rowsD, ∀ v, lotVal vi vo vr va r.name = some v → ToldOk r v := by
  intro r hr v hv
  by_cases q1 : r.name = sISC
  · rw [q1, lv_i] at hv
    have := h1 v hv
    exact ⟨by omega, .inl ⟨kind_i r hr q1, this⟩⟩
  by_cases q2 : r.name = sODC
  · rw [q2, lv_o] at hv
    have := h2 v hv
    exact ⟨by omega, .inl ⟨kind_o r hr q2, this⟩⟩
  by_cases q3 : r.name = sRSC
  · rw [q3, lv_r] at hv
    have := h3 v hv
    exact ⟨by omega, .inl ⟨kind_r r hr q3, this⟩⟩
  by_cases q4 : r.name = sADR
  · rw [q4, lv_a] at hv
    cases va with
    | none => cases hv
    | some a =>
      obtain rfl := Option.some.inj hv
      exact ⟨by rw [adr_len]; decide, .inr ⟨kind_a r hr q4, rfl⟩⟩
  · rw [lv_n q1 q2 q3 q4] at hv
    cases hv
theorem lot_cl (hcl : vo = none ∧ vr = none ∧ va = none) : ∀ r ∈ rowsD, (lotVal vi vo vr va r.name).isSome = true → r.name = Str.ofString "initial_source_connection_id" := by
  obtain ⟨rfl, rfl, rfl⟩ := hcl
  intro r hr hs
  by_cases q1 : r.name = sISC
  · exact q1
  unfold lotVal at hs
  rw [if_neg q1] at hs
  split at hs
  · cases hs
  split at hs
  · cases hs
  split at hs
  · cases hs
  · cases hs
theorem encs_len {val : PySem.Str → Option (List UInt8)} : ∀ (rs : List RowD), (∀ r ∈ rs, ∀ v, val r.name = some v → v.length ≤ 43) → (encs (pairsD val rs)).length ≤ 45 * rs.length
  | [], _ => Nat.le_refl _
  | r :: rs, h => by
    have ih := encs_len rs fun r hr => h r (List.mem_cons_of_mem _ hr)
    unfold pairsD
    cases hv : val r.name with
    | none => simp only [List.length_cons]; omega
    | some v =>
      have := h r (List.mem_cons_self ..) v hv
      simp only [encs, List.length_cons, List.length_append]
      omega
theorem lot_size (h1 : OvOk vi) (h2 : OvOk vo) (h3 : OvOk vr) : (encs (pairsD (lotVal vi vo vr va) rowsD)).length < 1000 := by
  have := encs_len (val := lotVal vi vo vr va) rowsD fun r hr v hv => by
    obtain ⟨_, ⟨_, h⟩ | ⟨_, h⟩⟩ := lot_toldOk (va := va) h1 h2 h3 r hr v hv
    · omega
    · rw [h, adr_len]; decide
  have h2 : rowsD.length = 17 := rfl
  omega
theorem back_id {val : PySem.Str → Option (List UInt8)} {kv' : List (PySem.Str × Value)} (hb : ∀ r ∈ rowsD, r.name ∉ dNames → match val r.name with | none => valueAt kv' r.name = none | some v => FoundOk kv' r v)
    {n : PySem.Str} (hr : ∃ r ∈ rowsD, r.name = n ∧ r.name ∉ dNames) (hk : ∀ r ∈ rowsD, r.name = n → r.kind = Str.ofString "id") : ∃ t, valueAt kv' n = ov (val n) t := by
  obtain ⟨r, hr, rfl, hd⟩ := hr
  have h := hb r hr hd
  cases hv : val r.name with
  | none => rw [hv] at h; exact ⟨0, h⟩
  | some v =>
    rw [hv] at h
    rcases h with ⟨_, t, h⟩ | ⟨h, _⟩
    · exact ⟨t, h⟩
    · exact absurd ((hk r hr rfl).symm.trans h) id_adr
theorem back_adr {val : PySem.Str → Option (List UInt8)} {kv' : List (PySem.Str × Value)} (hb : ∀ r ∈ rowsD, r.name ∉ dNames → match val r.name with | none => valueAt kv' r.name = none | some v => FoundOk kv' r v) :
    ∃ va' : Option Addr, valueAt kv' sADR = va'.map .ref ∧ va'.isSome = (val sADR).isSome := by
  obtain ⟨r, hr, e, hd⟩ := row_a
  have h := hb r hr hd
  rw [e] at h
  cases hv : val sADR with
  | none => rw [hv] at h; exact ⟨none, by rw [← e]; rw [e]; exact h, rfl⟩
  | some v =>
    rw [hv] at h
    rcases h with ⟨h, _⟩ | ⟨_, a, h⟩
    · exact absurd (h.symm.trans (kind_a r hr e)) id_adr
    · exact ⟨some a, by rw [← e]; exact h, rfl⟩
end
theorem n_args {M : Model} {A : Around} {E : Value → Shared → Prop} {s : Shared} {env : Env} {pos : Pos} {e : PySem.Expr} {rest : List PySem.Expr} {Q : List Value → Shared → Prop}
    (h : wpN M A (eval e env) (fun v s₁ => wpAny M A (spliced (backTo pos (starEach rest env))) (fun vs => Q (v :: vs)) E s₁) E s)
    (he : starEach (e :: rest) env = (false, eval e env) :: starEach rest env := by rfl) : wpN M A (spliced (backTo pos (starEach (e :: rest) env))) Q E s := by
  have hb : backTo pos ((false, eval e env) :: starEach rest env) = (false, eval e env) :: backTo pos (starEach rest env) := rfl
  rw [he, hb]
  exact n_spliced_cons (n_mono h (fun v s₁ h₁ => n_any h₁) fun _ _ x => x)
theorem n_Expr {prog : Program} {w : World} {A : Around} {E : Value → Shared → Prop} {s : Shared} {env : Env} {e : PySem.Expr} {pos : Pos} {Q : Flow → Shared → Prop} (h : wpN (model prog w) A (eval e env) (fun _ => Q .next) E s)
    (hi : interactive env = false := by rfl) (hs : swapsWith e none pos.line env = pure false := by rfl) : wpN (model prog w) A (exec (.Expr e pos) env) Q E s := by
  rw [exec_Expr env e pos hi hs]
  exact n_then (wpAny_standAt (n_bind (n_mono h (fun v s' h' => n_any (wpAny_dropValue h')) fun _ _ x => x)))

end PartNLP

theorem flush38 {M : Model} {A : Around} {env : Env} {Q : Flow → Shared → Prop} {E : Value → Shared → Prop} {s : Shared} (h : wpAny M A (execs [] env) Q E s) : wpAny M A (execs [] env) Q E s := by
  w_top off
  first | (walk1; fail) | exact h

section PartNX3
section
open Builtin Builtin.ObjectAttr
variable {prog : Program} {w : World} {A : Around} {E : Value → Shared → Prop} {h : Heap} {g : Array GenState} {d : Drawn} {t : Nat} {os : OsState} {x : Addr} {name : PySem.Str} {v : Value}
variable {nm q : PySem.Str} {C Nn : Addr} {bs bm : List Value} {sn : List PySem.Str} {sub : List Value} {ab : Bool} {col : Option Bool} {dd : Option Addr} {k0 k1 k2 k3 k5 : Option Value} {B newId : String}
theorem bga_kind : builtinKind "BaseException.__getattribute__" = some .slot := by decide +kernel
theorem bga_split : splitId "BaseException.__getattribute__" = some ("BaseException", "__getattribute__") := by decide +kernel
theorem e_get0 {tk : Tok} {o : Obj} {D : Addr} {mN mA : PySem.Str → Option Value} {Q : Fin → Shared → Prop} (FB : ExcAttrBase B bm) (hC : h.get? C = some (excClassObj nm q C Nn bs bm true sn sub ab col dd k0 k1 k2 k3 k5 newId)) (hn : h.Ns Nn mN) (hna : mN name = none) (hB : typeLookup (.type B) name = pure none)
    (hx : h.get? x = some o) (hc : o.cls = .ref C) (hnc : ∀ c, o.data ≠ .cls c) (hD : o.dict = some D) (hns : h.Ns D mA) (hv : mA name = some v) (hq : Q (.done (.ret v)) ⟨h, g, d, t, os⟩) :
    wpAny (model prog w) A (Builtin.«object.__getattribute__» ⟨[.ref x, .str name tk], []⟩) Q E ⟨h, g, d, t, os⟩ := by
  unfold Builtin.«object.__getattribute__»
  repeat (first | (with_reducible refine wpAny_loadPart_at hx ?_; rw [hc]) | (with_reducible refine wpAny_typeLookup_exc hC hn FB.mro hB ?_; rw [hna]) | wp_step)
  split
  · rename_i c hcd
    exact absurd hcd (hnc c)
  unfold instanceDict
  repeat (first | (with_reducible refine wpAny_loadPart_at hx ?_; rw [hc]) | with_reducible refine wpAny_loadPart_at hC ?_ | wp_step)
  rw [hD]
  unfold inDict
  repeat (first | (with_reducible refine wpAny_nsGet hns ?_; rw [hv]) | wp_step)
  exact hq
theorem e_get1 {tk : Tok} {o : Obj} {D : Addr} {mN mA : PySem.Str → Option Value} {R : Result → Shared → Prop} (FB : ExcAttrBase B bm) (hC : h.get? C = some (excClassObj nm q C Nn bs bm true sn sub ab col dd k0 k1 k2 k3 k5 newId)) (hn : h.Ns Nn mN) (hna : mN name = none) (hB : typeLookup (.type B) name = pure none)
    (hx : h.get? x = some o) (hc : o.cls = .ref C) (hnc : ∀ c, o.data ≠ .cls c) (hD : o.dict = some D) (hns : h.Ns D mA) (hv : mA name = some v) (hI : Looks (model prog w) h (isInstance (.ref x) (.type "BaseException")) true) (hq : R (.ok (.ret v)) ⟨h, g, d, t, os⟩) :
    codeAny (model prog w) A (.call (.builtin "BaseException.__getattribute__") ⟨[.ref x, .str name tk], []⟩) R ⟨h, g, d, t, os⟩ :=
  codeAny_call_builtin FB.ga.plain PySem.F.entry_bexc_ga (wpAny_check_ga_own FB hC .base hx hc (e_get0 FB hC hn hna hB hx hc hnc hD hns hv hq))
theorem e_get {o : Obj} {D : Addr} {mN mA : PySem.Str → Option Value} {expr : Bool} {Q : Value → Shared → Prop} (FB : ExcAttrBase B bm) (hC : h.get? C = some (excClassObj nm q C Nn bs bm true sn sub ab col dd k0 k1 k2 k3 k5 newId)) (hn : h.Ns Nn mN) (hng : mN "__getattribute__" = none) (hnh : mN "__getattr__" = none) (hna : mN name = none) (hB : typeLookup (.type B) name = pure none)
    (hx : h.get? x = some o) (hc : o.cls = .ref C) (hnc : ∀ c, o.data ≠ .cls c) (hD : o.dict = some D) (hns : h.Ns D mA) (hv : mA name = some v) (hh : handedOut v = pure v) (hq : Q v ⟨h, g, d, t + 1, os⟩) :
    wpAny (model prog w) A (getAttr (.ref x) name expr) Q E ⟨h, g, d, t, os⟩ := by
  have f3 := FB.ga.bind (.ref x)
  have hx0 : (expr && onTheHeap (Value.builtin "BaseException.__getattribute__")) = false := by cases expr <;> rfl
  have hx2 : (Value.builtin "BaseException.__getattribute__" == Value.builtin "object.__getattribute__") = false := by decide +kernel
  have hx1 : (onTheHeap (Value.ref C) && Value.builtin "BaseException.__getattribute__" == Value.builtin "object.__getattribute__") = false := by rw [hx2]; rfl
  have hcB : (Value.ref C :: bm).contains (.type "BaseException") = true := by rw [List.contains_cons, FB.hasBase, Bool.or_true]
  have hI : Looks (model prog w) h (isInstance (.ref x) (.type "BaseException")) true := by
    have h1 : Looks (model prog w) h (typeOf (.ref x)) (.ref C) := (Looks.ld hx).andThen (by rw [hc]; exact .now)
    refine h1.andThen fun A Q E s k q => ?_
    obtain ⟨hp, g', d', t', os'⟩ := s
    exact wpAny_isSubtype_exc (k _ _ hC) (by rw [hcB]; exact q)
  unfold getAttr getAttrBy
  repeat (any_goals (first | assumption | (with_reducible refine wpAny_loadPart_at hx ?_; rw [hc]) | (with_reducible refine wpAny_typeLookup_exc hC hn FB.mro FB.ga.lookup ?_; rw [hng]) | (with_reducible refine wpAny_typeLookup_exc hC hn FB.mro FB.noGetattr ?_; rw [hnh]) | wp_step))
  refine e_get1 FB hC hn hna hB hx hc hnc hD hns hv hI ?_
  show wpAny _ _ (handedOut v) _ _ _
  rw [hh]
  exact wpAny_pure hq
end

section
variable {prog : Program} {w : World} {A : Around} {E : Value → Shared → Prop} {s : Shared} {env : Env}
theorem n_Try {body orelse : List Stmt} {hd₀ : ExceptHandler} {hs : List ExceptHandler} {pos : Pos} {Q : Flow → Shared → Prop}
    (h : wpN (model prog w) A (execs body env) (fun f s₁ => match f with | .next => wpAny (model prog w) A (execs orelse env) Q E s₁ | f => Q f s₁)
      (fun e s₁ => wpAny (model prog w) A (noteFrame e env) (fun _ s₂ => wpAny (model prog w) A (setFlight e none) (fun _ s₃ => wpAny (model prog w) A (handleBy e env (hd₀ :: hs)) Q E s₃) E s₂) E s₁) s) :
    wpN (model prog w) A (exec (.Try body (hd₀ :: hs) orelse [] pos) env) Q E s := by
  rw [arm_exec_Try]
  refine n_then (wpAny_standAt ?_)
  unfold tryStmt
  simp only [List.isEmpty_nil, if_true, List.isEmpty_cons, Bool.false_and, Bool.false_eq_true, if_false]
  refine n_bind (n_attempt (n_mono h (fun f s₁ h₁ => ?_) fun e s₁ h₁ => ?_))
  · cases f <;> first | exact n_any h₁ | exact n_pure h₁
  · exact n_any (wpAny_bind (wpAny_mono h₁ (fun _ _ h₂ => wpAny_bind h₂) fun _ _ x => x))
end
section
variable {prog : Program} {w : World} {A₀ A : Around} {s : Shared} {base h₀ : Heap} {L a : Addr} {m : Str → Option Value} {cn : Str} {cs : Scope} {ccd : Value} {news : List (Addr × Obj)} {K : Frag} {p : Program} {loose : List Str} {mean : ExcName → Option Value} {mg mb : Str → Option Value}
    {R : Result → Shared → Prop} {name qual : Str} {params : Arguments} {body : List Stmt} {scope : Scope} {dV kV doc pm cdv ct oc : Value} {an od : Option Addr} {osl : Array (Option Value)} {f : Addr} {args : Args} {binds : List (Str × Value)}
/-- a def that catches is entered from the top's frame, for cleared stacks -/
theorem code_defN0 (B : Below A₀ base [] h₀) (F : Fr h₀ L s.heap m) (X₀ : K.In h₀) (N : News h₀ L s.heap news) (T : Top p loose mean mg mb h₀) (hA : A.frames = some [envOf cn cs L a ccd])
    (ho : K.lookup f = some ⟨oc, od, .func (fnOf name qual params body scope dV kV doc pm an cdv ct), osl⟩) (hcd : codeIn K cdv qual = true) (hroom : A.depth < recursionLimit)
    (hbind : BindsTo s (fnOf name qual params body scope dV kV doc pm an cdv ct) args binds) (hloc : ∀ y ∈ binds, scope.names.lookup y.1 = some .local)
    (h : ∀ g L' h₁, Fr h₀ L g m → Fr g L' h₁ (fun y => binds.reverse.lookup y) → News g L' h₁ news → Below A base [envOf cn cs L a ccd] g → K.In g → Top p loose mean mg mb g → KtsDicts ([envOf cn cs L a ccd].filterMap (·.frame)) g →
      wpN (model prog w) (A.deeper (envOf qual scope L' f cdv)) (execs body (envOf qual scope L' f cdv))
        (fun fl s' => LeaveS0 ([envOf cn cs L a ccd].filterMap (·.frame)) h₀ L m g R (match fl with | .ret v => v | _ => .none) s')
        (fun e s' => wpN (model prog w) (A.deeper (envOf qual scope L' f cdv)) (leaving (envOf qual scope L' f cdv) e) (fun _ s'' => R (.error e) s'') (fun e' s'' => R (.error e') s'') s')
        { s with heap := h₁, toks := s.toks + binds.length })
    (hck : cs.kind = .function) (hco : scope.isCoroutine = false) (hgen : scope.isGenerator = false) (hk : scope.kind = .function)
    (hcell : ∀ x ∈ scope.names, x.2 ≠ .cell) : codeN (model prog w) A (.call (.ref f) args) R s := by
  have X := X₀.keeps F.keep
  refine codeN_def (fd := fnOf name qual params body scope dV kV doc pm an cdv ct) (body := body) (binds := binds) hroom (X _ _ ho) rfl (T.nolimit.keeps F.keep) (codeRec_of X hcd) rfl hbind hcell hloc (fun h₁ hns hk₁ => ?_) hco hgen hk
  obtain ⟨oL, es, ep, hLg, hLd, hN, hNs, st, B₂⟩ := kts_enter B F N hA hck
  have hdic : KtsDicts ([envOf cn cs L a ccd].filterMap (·.frame)) (hideAll s.heap (news.map (·.1))) := by
    intro b hb
    rcases kts_mem hb with rfl | z
    · exact ⟨oL, es, ep, hLg, hLd⟩
    · simp at z
  have Ng : News (hideAll s.heap (news.map (·.1))) s.heap.objs.size h₁ news := fun q hq => ⟨hk₁ _ _ (N q hq).1, Nat.ne_of_lt (Heap.lt_size (N q hq).1), hideAll_none _ (List.mem_map_of_mem hq)⟩
  have Fg : Fr (hideAll s.heap (news.map (·.1))) s.heap.objs.size h₁ (fun y => binds.reverse.lookup y) := ⟨hns, fun b o e => hk₁ b o (of_hideAll _ e), Nat.le_of_eq (hideAll_size _ _)⟩
  refine n_mono (h _ s.heap.objs.size h₁ ⟨hN _ hLg, st, F.above⟩ Fg Ng B₂ (X₀.keeps st) (T.keeps st) hdic) (fun fl s' hl => ?_) fun _ _ y => y
  obtain ⟨g', L', m', news', T', F', N', k⟩ := hl
  obtain ⟨sl, hs⟩ := T'.up hLg
  have notL : ∀ b, b ∈ ([envOf cn cs L a ccd].filterMap (·.frame)) → b = L := by
    intro b hb
    rcases kts_mem hb with z | z
    · exact z
    · simp at z
  refine k ⟨hNs sl _ (F'.keep _ _ hs), ?_, F.above⟩ ?_
  · intro b o e
    refine F'.keep b o (T'.other b o (st b o e) fun hm => ?_)
    rw [notL b hm, kts_self F] at e
    cases e
  · intro q hq
    have P := N' q hq
    refine ⟨P.1, ?_, ?_⟩
    · intro z
      have z2 := P.2.2
      rw [z, hs] at z2
      cases z2
    · cases e : h₀.get? q.1 with
      | none => rfl
      | some o =>
        obtain ⟨sl', hs'⟩ := T'.up (st _ _ e)
        have z2 := P.2.2
        rw [hs'] at z2
        cases z2
end
section
variable {prog : Program} {w : World} {A₀ : Around} {E : Value → Shared → Prop} {s' : Shared} {base g G : Heap} {outer : List Env} {L a e : Addr} {m : Str → Option Value} {name : Str} {scope : Scope} {cd : Value}
  {n : Str} {b₀ : Stmt} {suite : List Stmt} {pos np : Pos} {rest : List ExceptHandler} {Q : Flow → Shared → Prop} {news : List (Addr × Obj)} {P : Params}
  {p : Program} {loose : List Str} {mean : ExcName → Option Value} {mg mb : Str → Option Value} {x : Str}
/-- what is known of the exception that a clause holds -/
structure Held (h : Heap) (e : Addr) : Prop where
  facts : ∃ oe D mA t, h.get? e = some oe ∧ oe.cls = .ref 38 ∧ oe.dict = some D ∧ (∃ vs, oe.data = .fields vs) ∧ h.Ns D mA ∧ mA (Str.ofString "code") = some (.int 8 t)
theorem q_main : PySem.Challenge.rw_pf0267_01 = PySem.Challenge.rw_pf0267_01 → ∀ {P : Params}, nsIn (hd.heap_1 P) mainGlobals "QuicError" = some (some (.ref 38)) := by k_fill; intro _ P; k_is
theorem caught_Q (R : RaisedQ base G (envOf name scope L a cd :: outer) e news s'.heap) (F : Fr g L G m) (K : Below A₀ base outer g) (hsm : G.UpToSlots s'.heap) (XB : (hd.heap_1 P).In base) (TB : Top p loose mean mg mb base)
    (k : ∀ h' g' tk, KtsTurn (outer.filterMap (·.frame)) g g' → Fr g' L h' (fun y => if y = n then some (.ref e) else m y) → News g' L h' news → Held h' e → Below A₀ base outer g' → (hd.heap_1 P).In g' → Top p loose mean mg mb g' →
      wpAny (model prog w) ((A₀.deeper (envOf name scope L a cd)).mark (some (.ref e))) (execs (b₀ :: suite) (envOf name scope L a cd))
        (fun f s₄ => wpAny (model prog w) (A₀.deeper (envOf name scope L a cd)) (do bindName (envOf name scope L a cd) n .none; unbindBehindTheSuite (envOf name scope L a cd) n pos) (fun _ s₅ => Q f s₅) E s₄)
        (AsSuiteRaised (model prog w) ((A₀.deeper (envOf name scope L a cd)).mark (some (.ref e))) (envOf name scope L a cd) n pos (notedBy (model prog w) ((A₀.deeper (envOf name scope L a cd)).mark (some (.ref e))) (envOf name scope L a cd) (cameBackBy (model prog w) (A₀.deeper (envOf name scope L a cd)) (envOf name scope L a cd) E)))
        { s' with heap := h', toks := tk })
    (hk : scope.kind = .function := by rfl) (hlo : (envOf name scope L a cd).kindOf n = some .local := by rfl) (hx : (envOf name scope L a cd).kindOf "QuicError" = some .globalImplicit := by rfl) (hdb : (("QuicError" : Str) == ("__debug__" : Str)) = false := by decide) :
    wpAny (model prog w) (A₀.deeper (envOf name scope L a cd)) (noteFrame (.ref e) (envOf name scope L a cd))
      (fun _ s₂ => wpAny (model prog w) (A₀.deeper (envOf name scope L a cd)) (setFlight (.ref e) none) (fun _ s₃ =>
        wpAny (model prog w) (A₀.deeper (envOf name scope L a cd)) (handleBy (.ref e) (envOf name scope L a cd) (.ExceptHandler (some (.Name "QuicError" np)) (some n) (b₀ :: suite) pos :: rest)) Q E s₃) E s₂) E s' := by
  obtain ⟨B, D, mA, t, hB, hBG, hl, x0, hDB, hcode⟩ := R
  have hL : B.get? L = none := by
    obtain ⟨_, ⟨L', _, hf, hn', _⟩, _⟩ := x0.2.2.1
    obtain rfl : L = L' := Option.some.inj hf
    exact hn'
  refine e_noteNext (Around.frames_deeper K.stack) rfl x0 fun h₄ x₄ u₄ => ?_
  refine e_land x₄ fun h₅ x₅ u₅' => ?_
  have u₅ := u₄.trans u₅'
  obtain ⟨g₅, T₅, F₅, K₅⟩ := kts_ground K F hBG x₅.1 (hsm.trans u₅)
  have X₅ : (hd.heap_1 P).In g₅ := XB.keeps K₅.stays
  have P₅ : TopRead p loose mg mb g₅ := topRead_of (TB.keeps K₅.stays)
  obtain ⟨oe, vs, hoe, hoc, hoD, hod⟩ := x₅.there
  refine wpAny_handleBy_cons (codeAny_handlers_test (name_K F₅ X₅ P₅ (q_main rfl) ?_ hk hx hdb)) (by intro q; cases q)
  refine wpAny_excMatches_sub_self (qErr_at (X₅.keeps F₅.keep)) hoe hoc (by decide) (codeAny_handlers_suite_as ?_)
  refine e_land x₅ fun h₆ x₆ u₆ => ?_
  obtain ⟨g₆, T₆, F₆, K₆⟩ := kts_ground K F hBG x₆.1 ((hsm.trans u₅).trans u₆)
  have Nl : News g₆ L h₆ news := fun q hq => ⟨x₆.1 _ _ (hl q hq).1, (fun z => by have := (hl q hq).1; rw [z, hL] at this; cases this), T₆.none_ _ (kts_none F.keep (hl q hq).2.1)⟩
  obtain ⟨oe6, vs6, he6, hc6, hD6, hd6⟩ := x₆.there
  have hns6 : h₆.Ns D mA := by
    obtain ⟨o, es, ep, q1, q2⟩ := hDB
    exact ⟨o, es, ep, x₆.1 _ _ q1, q2⟩
  have hDL : D ≠ L := by
    rintro rfl
    obtain ⟨o, _, _, q1, _⟩ := hDB
    rw [hL] at q1
    cases q1
  have heL : e ≠ L := by
    rintro rfl
    obtain ⟨o, es, ep, q1, q2, _⟩ := F₆.ns
    rw [he6] at q1
    cases q1
    rw [hd6] at q2
    cases q2
  have N₆ : News g₆ L h₆ news := Nl
  have X₆ : (hd.heap_1 P).In g₆ := XB.keeps K₆.stays
  have P₆ : Top p loose mean mg mb g₆ := TB.keeps K₆.stays
  refine stNK F₆ N₆ (fun h₇ F₇ N₇ hs _ => ?_) hk hlo
  refine k h₇ g₆ _ T₆ F₇ N₇ ⟨oe6, D, mA, t, (hs.2 e heL).trans he6, hc6, hD6, ⟨vs6, hd6⟩, ?_, hcode⟩ K₆ X₆ P₆
  obtain ⟨o, es, ep, q1, q2⟩ := hns6
  exact ⟨o, es, ep, (hs.2 D hDL).trans q1, q2⟩
end

end PartNX3

theorem flush39 {M : Model} {A : Around} {env : Env} {Q : Flow → Shared → Prop} {E : Value → Shared → Prop} {s : Shared} (h : wpAny M A (execs [] env) Q E s) : wpAny M A (execs [] env) Q E s := by
  w_top off
  first | (walk1; fail) | exact h

section PartNIL

theorem c_is_let : ∀ {w : World} {mean : ExcName → Option Value} {mg mb : Str → Option Value} {d TI : Addr} {o : Obj} {role : Str} {src : List UInt8} {rs : Option (List UInt8)} {ok : Bool} {tr t1 t2 t3 : Tok} {news : List (Addr × Obj)}
    {cn : Str} {cs : Scope} {a : Addr} {ccd : Value} {cl : List (Str × Addr)} {outer : List Env} {A₀ : Around} {base h₀ : Heap} {L : Addr} {m : Str → Option Value} {s : Shared} {Q E : Value → Shared → Prop}
    (XB : (hd.heap_1 w.params).In base) (B : Below A₀ base outer h₀) (F : Fr h₀ L s.heap m) (X : (hd.heap_1 w.params).In h₀) (N : News h₀ L s.heap news) (T : Top hd.view_39 (looseW hd.view_39 [Str.ofString "BOUNDS"]) mean mg mb h₀) (hk : cs.kind = .function) (hout : outer = []) (hcl : cl = []) (TB : Top hd.view_39 (looseW hd.view_39 [Str.ofString "BOUNDS"]) mean mg mb base) (hm : (d, o) ∈ news) (lo : (d == sysModules) = false) (hi : (TI, lotI src rs t1 t2 t3) ∈ news) (hl : Lot PySem.Challenge.rw_pf0267_01.row.prog w news o role src rs ok)
    (hret : ∀ (h' : Heap) (tk' : Nat), Fr h₀ L h' m → News h₀ L h' news → Q (.bool ok) { s with heap := h', toks := tk' }),
    wpN (model PySem.Challenge.rw_pf0267_01.row.prog w) (ktrTop 302 7 (some []) cn cs L a ccd cl outer) (call (.ref 285) [.ref d, .str role tr, .ref TI] []) Q E s := by
  k_fill
  intro w mean mg mb d TI o role src rs ok tr t1 t2 t3 news cn cs a ccd cl outer A₀ base h₀ L m s Q E XB B F X N T hk hout hcl TB hm lo hi hl hret
  subst hout hcl
  refine n_call ?_
  k_dflt (refine' code_defN0 ?k1 ?k2 ?k3 ?k4 ?k5 ?kA ?k6 ?k7 ?k8 ?k9 ?kB ?_ ?kK ?c2 ?c3 ?c4 ?c5; (case kA => exact rfl); (case kK => assumption); (case k1 => k_asm); (case k2 => k_asm); (case k3 => k_asm); (case k4 => k_asm); (case k5 => k_asm); (case k6 => k_is); (case k7 => k_is); (case k8 => exact Nat.le_of_ble_eq_true rfl); (case k9 => exact BindsTo.of_eq rfl); (case c5 => decide); (case kB => exact locs rfl); (case c2 => exact rfl); (case c3 => exact rfl); (case c4 => exact rfl); k_whole; intro g' L' h' FG' F' N' B' X' T' D'; (try dsimp only); (try k_lift B'))
  refine n_noRaise ?_
  (try k_fold)
  obtain ⟨kvs, vi, vo, vr, ti, tv2, tv3, va, hdict, hrole, hsrc, hrs, hvi, hvo, hvr, e1, e2, e3, e4, hva, hnone, hcli, hok⟩ := hl
  refine n_execs_cons (n_Try (n_execs_cons (n_Expr (n_Call ?_))))
  (try k_fold)
  k_steps
  refine n_callWith_def (K := hd.heap_1 w.params) (by k_is) (by decide) (n_args (n_Call ?_))
  (try k_fold)
  k_steps
  refine n_callWith_def (K := hd.heap_1 w.params) (by k_is) (by decide) (n_args (n_Call ?_))
  (try k_fold)
  k_steps
  refine n_callWith_def (K := hd.heap_1 w.params) (by k_is) (by decide) (n_any ?_)
  (try k_fold)
  k_steps
  k_dflt (refine' c_put_params ?XBp ?Bp ?Fp ?Xp ?Np ?Tp ?hkp ?hmp ?hop ?lop ?hrp ?hup ?hretp)
  (case Bp => k_asm)
  (case XBp => k_asm)
  (case Fp => k_asm)
  (case Xp => k_asm)
  (case Np => k_asm)
  (case Tp => k_asm)
  (case hkp => first | exact rfl | assumption)
  (case hmp => exact hm)
  (case hop => exact hdict)
  (case lop => exact lo)
  (case hrp => exact lot_rowOk hvi hvo hvr e1 e2 e3 e4 hva hnone)
  (case hup => exact hnone _ unk_i.1 unk_i.2.1 unk_i.2.2.1 unk_i.2.2.2)
  intro dB tB h9 tk9 hdB F9 N9; (try dsimp only); (try k_fold)
  k_steps
  refine n_any ?_
  (try k_fold)
  k_dflt (refine' c_read_params ?XBr ?Br ?Fr ?Xr ?Nr ?Tr ?hkr ?hdr ?hzr ?hvr ?hcr ?hretr)
  (case Br => k_asm)
  (case XBr => k_asm)
  (case Fr => k_asm)
  (case Xr => k_asm)
  (case Nr => k_asm)
  (case Tr => k_asm)
  (case hkr => first | exact rfl | assumption)
  (case hdr => exact hdB)
  (case hzr => (rw [← Array.length_toList, hdB]; exact lot_size hvi hvo hvr))
  (case hvr => exact lot_toldOk hvi hvo hvr)
  (case hcr => exact fun e => lot_cl (hcli e))
  intro D8 o8 kv8 h8 tk8 F8 N8 l8 lo8 ho8 hb8; (try dsimp only); (try k_fold)
  obtain ⟨ti', b1⟩ := back_id hb8 row_i kind_i
  obtain ⟨to', b2⟩ := back_id hb8 row_o kind_o
  obtain ⟨tr', b3⟩ := back_id hb8 row_r kind_r
  obtain ⟨va', b4, b5⟩ := back_adr hb8
  rw [lv_i] at b1
  rw [lv_o] at b2
  rw [lv_r] at b3
  rw [lv_a] at b5
  have hTI : IsTup h8 TI #[.bytes #[116, 111, 32, 116, 104, 101, 32, 102, 105, 114, 115, 116] t1, .bytes src.toArray t2, (ov rs t3).getD .none] := ⟨_, (N8 _ (List.mem_cons_of_mem _ hi)).1, rfl, _, rfl⟩
  k_steps
  have b6 : va'.isSome = va.isSome := by rw [b5]; cases va <;> rfl
  rw [← b6] at hok
  refine n_any ?_
  (try k_fold)
  k_dflt (refine' c_checked (orig := firstB) ?XBc ?Bc ?Fc ?Xc ?Nc ?Tc ?hkc ?hmc ?hoc ?loc ?hic ?hdc ?hrc ?hac ?hzc ?hretc ?hexcc)
  (case Bc => k_asm)
  (case XBc => k_asm)
  (case Fc => k_asm)
  (case Xc => k_asm)
  (case Nc => k_asm)
  (case Tc => k_asm)
  (case hkc => exact rfl)
  (case hmc => exact List.mem_cons_self ..)
  (case hoc => exact ho8)
  (case loc => exact lo8)
  (case hic => exact b1)
  (case hdc => exact b2)
  (case hrc => exact b3)
  (case hac => exact b4)
  (case hzc => omega)
  case hretc =>
    intro hokk h7 tk7 F7 N7
    rw [hokk] at hok
    subst hok
    (try dsimp only)
    refine n_execs_nil ?_
    (try dsimp only)
    k_steps
    refine n_execs_cons (n_Return (n_any ?_))
    k_steps
    exact hret _ _ (by k_asm) (cb_drop (by k_asm) (fun p hp => List.mem_cons_of_mem _ hp))
  case hexcc =>
    intro hbad ee G7 h7 tk7 FG7 U7 R7
    rw [hbad] at hok
    subst hok
    (try dsimp only)
    refine caught_Q (P := w.params) R7 FG7 B' U7 XB TB fun h6 g6 tk6 T6 F6 N6 H6 B6 X6 P6 => ?_
    (try dsimp only)
    k_steps
    obtain ⟨oe, DD, mA, tc, q1, q2, q3, ⟨vs, q4⟩, q5, q6⟩ := H6.facts
    have XX := X6.keeps F6.keep
    refine e_get PySem.F.attrBase_Exception (qErr_at XX) (qErr_ns XX) (qErr_none XX (q_ns6 rfl)) (qErr_none XX (q_ns7 rfl)) (qErr_none XX (q_ns3 rfl)) lk_code q1 q2 (fun c hc => by rw [q4] at hc; cases hc) q3 q5 q6 rfl ?_
    k_steps
    exact hret _ _ (by k_asm) (cb_drop (by k_asm) (fun p hp => List.mem_cons_of_mem _ hp))

end PartNIL

theorem flush40 {M : Model} {A : Around} {env : Env} {Q : Flow → Shared → Prop} {E : Value → Shared → Prop} {s : Shared} (h : wpAny M A (execs [] env) Q E s) : wpAny M A (execs [] env) Q E s := by
  w_top off
  first | (walk1; fail) | exact h

section PartNLX
theorem top_defN {prog : Program} {w : World} {A : Around} {s : Shared} {R : Result → Shared → Prop} {a : Addr} {o : Obj} {name : Str} {params : Arguments} {body : List Stmt} {scope : Scope} {pm cd doc dV kV : Value} {args : Args} {binds : List (Str × Value)}
    (hroom : A.depth < recursionLimit) (ho : s.heap.get? a = some o) (hd : o.data = .func { docDef name params body scope pm cd doc with defaults := dV, kwdefaults := kV }) (hlim : s.heap.NoLimit) (hcd : s.heap.CodeRec cd name)
    (hbind : BindsTo s { docDef name params body scope pm cd doc with defaults := dV, kwdefaults := kV } args binds) (hcell : ∀ x ∈ scope.names, x.2 ≠ .cell) (hloc : ∀ y ∈ binds, scope.names.lookup y.1 = some .local)
    (hco : scope.isCoroutine = false) (hgen : scope.isGenerator = false) (hk : scope.kind = .function)
    (h : ∀ h₁, Fr s.heap s.heap.objs.size h₁ (fun y => binds.reverse.lookup y) → wpN (model prog w) (A.deeper (envOf name scope s.heap.objs.size a cd)) (execs body (envOf name scope s.heap.objs.size a cd)) (fun f s' => R (.ok (.ret (match f with | .ret v => v | _ => .none))) s')
      (fun e s' => wpN (model prog w) (A.deeper (envOf name scope s.heap.objs.size a cd)) (leaving (envOf name scope s.heap.objs.size a cd) e) (fun _ s'' => R (.error e) s'') (fun e' s'' => R (.error e') s'') s') { s with heap := h₁, toks := s.toks + binds.length }) :
    codeN (model prog w) A (.call (.ref a) args) R s :=
  codeN_def hroom ho hd hlim hcd rfl hbind hcell hloc (fun h₁ hns hk₁ => h h₁ ⟨hns, hk₁, Nat.le_refl _⟩) hco hgen hk

theorem fillT : PySem.Challenge.rw_pf0267_01 = PySem.Challenge.rw_pf0267_01 → ∀ P : Params, hd.heap_1 P = hd.heap_1 P := by
  k_fill
  intro _ P
  rfl
theorem ints_pairs : ∀ {vs : List Value} {ns : List Int}, IntsAre vs ns → ∃ ps : List (Int × Tok), vs = ps.map (fun p => Value.int p.1 p.2) ∧ ps.map (·.1) = ns
  | _, _, .nil => ⟨[], rfl, rfl⟩
  | _, _, .cons n t h => by
    obtain ⟨ps, e1, e2⟩ := ints_pairs h
    exact ⟨(n, t) :: ps, by rw [e1]; rfl, by rw [List.map_cons, e2]⟩
noncomputable def LWJ (m₀ : Str → Option Value) (news₀ : List (Addr × Obj)) (rest : List (Int × Tok)) (m : Str → Option Value) (news : List (Addr × Obj)) : Prop :=
  ∃ x1 x2 x3 x4 x5 : Option Value, news = news₀ ∧ (∀ p ∈ rest, 0 ≤ p.1) ∧
    m = fun y => if y = Str.ofString "pick" then x1 else if y = Str.ofString "role" then x2 else if y = Str.ofString "told" then x3 else if y = Str.ofString "ids" then x4 else if y = Str.ofString "is_right" then x5 else m₀ y
theorem LWJ.start {m : Str → Option Value} {news : List (Addr × Obj)} {ps : List (Int × Tok)} (h : ∀ p ∈ ps, 0 ≤ p.1) : LWJ m news ps m news :=
  ⟨m (Str.ofString "pick"), m (Str.ofString "role"), m (Str.ofString "told"), m (Str.ofString "ids"), m (Str.ofString "is_right"), rfl, h, by
    funext y
    by_cases e1 : y = Str.ofString "pick"
    · rw [if_pos e1, e1]
    rw [if_neg e1]
    by_cases e2 : y = Str.ofString "role"
    · rw [if_pos e2, e2]
    rw [if_neg e2]
    by_cases e3 : y = Str.ofString "told"
    · rw [if_pos e3, e3]
    rw [if_neg e3]
    by_cases e4 : y = Str.ofString "ids"
    · rw [if_pos e4, e4]
    rw [if_neg e4]
    by_cases e5 : y = Str.ofString "is_right"
    · rw [if_pos e5, e5]
    rw [if_neg e5]⟩
local macro_rules | `(tactic| walk_at "call ref") => `(tactic| (k_here; refine Stop.call (by decide) ?_))
theorem lawT : PySem.Challenge.rw_pf0267_01.Holds := by
  refine Mine.hd ⟨leftT, ?_⟩
  k_fill
  intro w s₀ s₁ mg mb G Y fa o pm cd doc dV kV ho hd hcd hD hmg hg args vals as hpre hlay hrd hwl hlo
  have KX := kIn_of Y
  have X := (Ground.X G).1
  have V := (Ground.X G).2
  try w_nolog (first | (have GL := glob_more (Ground.glob G (by first | k_qdec | decide +kernel) (by first | k_qdec | decide +kernel)) V) | (have GL := glob_more (Ground.glob G (by decide +kernel)) V))
  refine Ground.open G ?_
  intro T B D TE TW
  try (refine guard_noD D (by decide +kernel) ?_; clear D)
  obtain ⟨_, _, M⟩ := bmod_of_top T
  have TA := at_of_top T
  try (obtain ⟨_, _, he, B0⟩ := based_of_top T rfl hmg ho hd; have he' : cd = _ := he; subst he'; clear he)
  clear hmg
  wrow_args hpre hlay hrd hwl hlo
  refine n_call ?_
  have K0 := below_caller (Top.heap T)
  have he := Dflts.none hD rfl
  subst he
  refine top_defN (by decide) ho hd (Top.nolimit T) hcd (BindsTo.of_eq rfl) (by decide) (locs rfl) rfl rfl rfl (fun h₁ F => ?_)
  have N0 : News s₁.heap s₁.heap.objs.size h₁ [] := fun _ h => nomatch h
  refine n_noRaise ?_
  (try k_fold)
  refine n_execs_any ?_
  (try k_fold)
  k_steps
  (rename (IntsAre _ (_ ++ _)) => hI)
  obtain ⟨ps, hps, hpn⟩ := ints_pairs hI
  have hpos : ∀ p ∈ ps, 0 ≤ p.1 := by
    intro p hp
    have hm : p.1 ∈ ps.map (·.1) := List.mem_map_of_mem hp
    rw [hpn] at hm
    rcases List.mem_append.mp hm with hm | hm
    · obtain ⟨k, _, e⟩ := List.mem_map.mp hm
      rw [← e]
      exact Int.fmod_nonneg_of_pos _ (by decide)
    · simp only [List.mem_cons, List.not_mem_nil, or_false] at hm
      omega
  clear hpn hI
  refine n_execs_cons (n_For (n_any ?_))
  (try k_fold)
  k_steps
  (with_reducible rename Fr _ _ _ _ => F9); (with_reducible rename News _ _ _ _ => N9)
  refine n_listL rfl F9 N9 (List.mem_cons_self ..) rfl rfl (fun I lI => ?_)
  replace lI := allLt_of lI
  rw [List.toList_toArray, hps]
  refine NRest_ind (fun p : Int × Tok => Value.int p.1 p.2) (LWJ _ _) ?done ?turn ps _ _ (LWJ.start hpos)
  case done =>
    clear N9 F9
    rintro m₁ news₁ ⟨x1, x2, x3, x4, x5, hn, hp, hm1⟩ h tk F₁ N₁
    subst hn hm1
    dsimp only
    refine n_execs_cons (n_Return (n_any ?_))
    (try k_fold)
    k_steps
    exact ⟨.inl ⟨_, _, [], rfl, (fun _ => rfl), ReadsW.bool true, (by first | with_unfolding_all rfl | wrow_post), fun _ => ⟨List.nodup_nil, fun _ hm => (nomatch hm)⟩⟩, .of_keep (fun _ _ e => F₁.keep _ _ e), rfl, .of_eq hg⟩
  case turn =>
    clear N9 F9
    rintro ⟨p, tp⟩ rs m₁ news₁ ⟨x1, x2, x3, x4, x5, hn, hp, hm1⟩ it h tk hic F₁ N₁
    subst hn hm1
    have hp0 : 0 ≤ p := hp (p, tp) (List.mem_cons_self ..)
    dsimp only
    k_steps
    refine n_execs_any ?_
    (try k_fold)
    k_steps
    unfold Stop
    k_dflt (refine' c_lot ?XBl ?Bl ?Fl ?Xl ?Nl ?Tl ?hkl ?hpl ?hretl)
    (case Bl => k_asm)
    (case XBl => k_asm)
    (case Fl => k_asm)
    (case Xl => k_asm)
    (case Nl => k_asm)
    (case Tl => k_asm)
    (case hkl => first | exact rfl | assumption)
    (case hpl => exact hp0)
    intro T9 TI9 d9 o9 role src rs ok9 trl t1 t2 t3 nl h9 tk9 F9 N9 hm9 hi9 hd9 lo9 hs9 hL9; (try k_sweep); (try dsimp only);  (try k_fold)

    have hT : IsTup h9 T9 #[.str role trl, .ref d9, .ref TI9, .bool ok9] := ⟨_, (N9 _ hm9).1, rfl, _, rfl⟩
    k_steps
    refine n_execs_cons (n_If (n_isTrue_Compare (n_Call ?_)))
    (try k_fold)
    k_steps
    refine n_callWith_def (K := Mine.hd.heap_1 w.params) (by k_is) (by decide) (n_any ?_)
    (try k_fold)
    k_steps
    k_dflt (refine' c_is_let ?XBq ?Bq ?Fq ?Xq ?Nq ?Tq ?hkq ?houtq ?hclq ?TBq ?hmq ?loq ?hiq ?hlq ?hretq)
    (case Bq => k_asm)
    (case XBq => k_asm)
    (case Fq => k_asm)
    (case Xq => k_asm)
    (case Nq => k_asm)
    (case Tq => k_asm)
    (case hkq => first | exact rfl | assumption)
    (case houtq => exact rfl)
    (case hclq => exact rfl)
    (case TBq => exact T)
    (case hmq => exact hd9)
    (case loq => exact lo9)
    (case hiq => exact hi9)
    (case hlq => exact hL9)
    intro h8 tk8 F8 N8; (try dsimp only); (try k_fold)

    cases ok9
    · k_steps
      refine n_execs_nil ?_
      (try dsimp only)
      refine n_execs_nil ?_
      (try dsimp only)
      refine UnrEnd.intro F8 N8 _ hs9 (allLt_ne lI) ⟨?lm, some (.int p tp), some (.str role trl), some (.ref d9), some (.ref TI9), some (.bool false), rfl, fun q hq => hp q (List.mem_cons_of_mem _ hq), ?mm⟩
      case lm =>
        first
        | assumption
        | exact List.mem_cons_self ..
      case mm =>
        funext y
        by_cases e1 : y = Str.ofString "pick"
        · rw [e1]; rfl
        by_cases e2 : y = Str.ofString "role"
        · rw [e2]; rfl
        by_cases e3 : y = Str.ofString "told"
        · rw [e3]; rfl
        by_cases e4 : y = Str.ofString "ids"
        · rw [e4]; rfl
        by_cases e5 : y = Str.ofString "is_right"
        · rw [e5]; rfl
        simp only [e1, e2, e3, e4, e5, if_false]
    · k_steps
      refine n_execs_nil ?_
      (try dsimp only)
      refine n_execs_nil ?_
      (try dsimp only)
      refine UnrEnd.intro F8 N8 _ hs9 (allLt_ne lI) ⟨?lm, some (.int p tp), some (.str role trl), some (.ref d9), some (.ref TI9), some (.bool true), rfl, fun q hq => hp q (List.mem_cons_of_mem _ hq), ?mm⟩
      case lm =>
        first
        | assumption
        | exact List.mem_cons_self ..
      case mm =>
        funext y
        by_cases e1 : y = Str.ofString "pick"
        · rw [e1]; rfl
        by_cases e2 : y = Str.ofString "role"
        · rw [e2]; rfl
        by_cases e3 : y = Str.ofString "told"
        · rw [e3]; rfl
        by_cases e4 : y = Str.ofString "ids"
        · rw [e4]; rfl
        by_cases e5 : y = Str.ofString "is_right"
        · rw [e5]; rfl
        simp only [e1, e2, e3, e4, e5, if_false]

end PartNLX

theorem flush41 {M : Model} {A : Around} {env : Env} {Q : Flow → Shared → Prop} {E : Value → Shared → Prop} {s : Shared} (h : wpAny M A (execs [] env) Q E s) : wpAny M A (execs [] env) Q E s := by
  w_top off
  first | (walk1; fail) | exact h

end Group2

theorem flush42 {M : Model} {A : Around} {env : Env} {Q : Flow → Shared → Prop} {E : Value → Shared → Prop} {s : Shared} (h : wpAny M A (execs [] env) Q E s) : wpAny M A (execs [] env) Q E s := by
  w_top off
  first | (walk1; fail) | exact h

end Group1

end Mine

theorem PySem.Challenge.cw_pf0267_01_holds : PySem.Challenge.rw_pf0267_01.Holds := by
  exact Mine.lawT
