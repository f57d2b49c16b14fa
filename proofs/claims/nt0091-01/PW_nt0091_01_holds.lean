import PyProof.Rows.All
import Wide.All
import OpenK.AllK
import Wide.FinOn
import Lean
import PySem.Challenge.RW_nt0091_01
set_option Elab.async false
set_option maxRecDepth 100000
set_option maxHeartbeats 8000000
set_option rowWalk.seconds 0
section
open PySem PySem.W PySem.Spec PySem.Calls PyProof.Rows
open PySem.Sem (wp)
namespace Mine
/-- the builtins that hold a bytearray while they stand on the stack -/
def heldIds : List String := PySem.Builtin.Bytes.decodersThatHold ++ ["bytearray.__contains__", "bytearray.__mod__", "bytearray.__rmod__", "_struct.pack_into.held", "bytearray.find.held"]
def ndB : Code → Bool
  | .builtin id _ => !heldIds.contains id
  | _ => true
def cln (l : List (Code × Pos)) : Prop := ∀ p ∈ l, ndB p.1 = true
def wpI {α : Type} (M : Model) (A : Around) (t : Sem α) (Q : α → Shared → Prop) (s : Shared) : Prop :=
  ∀ Γ p, Γ.In A → ndB Γ.code = true → cln Γ.below → wp M Γ t (fun a _ s' => Q a s') (fun _ _ _ => False) p s
def cdI (M : Model) (A : Around) (c : Code) (Q : Flow → Shared → Prop) (s : Shared) : Prop :=
  ∀ Γ p, Γ.code = c → Γ.Below A → cln Γ.below → wpCode M Γ (fun r s' => match r with | .ok f => Q f s' | .error _ => False) p s
abbrev noE : Value → Shared → Prop := fun _ _ => False
section
variable {α β : Type} {M : Model} {A : Around} {s : Shared}
theorem wpI_of {t : Sem α} {Q : α → Shared → Prop} (h : wpAny M A t Q noE s) : wpI M A t Q s := fun Γ p hΓ _ _ => h Γ p hΓ
theorem cdI_of {c : Code} {Q : Flow → Shared → Prop} (h : codeAny M A c (fun r s' => match r with | .ok f => Q f s' | .error _ => False) s) : cdI M A c Q s := fun Γ p hc hΓ _ => h Γ p hc hΓ
theorem wpI_mono {t : Sem α} {Q Q' : α → Shared → Prop} (h : wpI M A t Q s) (hQ : ∀ a s, Q a s → Q' a s) : wpI M A t Q' s :=
  fun Γ p hΓ hn hc => Sem.wp_mono M Γ t (fun a _ s => hQ a s) (fun _ _ _ h => h) p s (h Γ p hΓ hn hc)
theorem cdI_mono {c : Code} {Q Q' : Flow → Shared → Prop} (h : cdI M A c Q s) (hQ : ∀ a s, Q a s → Q' a s) : cdI M A c Q' s :=
  fun Γ p hc hΓ hn => wpCode_mono (fun r s' h' => by cases r with | ok f => exact hQ f s' h' | error e => exact h') (h Γ p hc hΓ hn)
theorem wpI_bind {m : Sem α} {f : α → Sem β} {Q : β → Shared → Prop} (h : wpI M A m (fun a s' => wpI M A (f a) Q s') s) : wpI M A (m >>= f) Q s := fun Γ p hΓ hn hc => by
  rw [Sem.wp_bind']
  exact Sem.wp_mono M Γ m (fun a p' s' h' => h' Γ p' hΓ hn hc) (fun _ _ _ h' => h') p s (h Γ p hΓ hn hc)
theorem wpI_seq {m : Sem α} {f : α → Sem β} {Q : β → Shared → Prop} (h : wpAny M A m (fun a s' => wpI M A (f a) Q s') noE s) : wpI M A (m >>= f) Q s := wpI_bind (wpI_of h)
theorem wpI_pure {a : α} {Q : α → Shared → Prop} (h : Q a s) : wpI M A (pure a) Q s := wpI_of (wpAny_pure h)
theorem wpI_onRaise {m : Sem α} {k : Value → Sem Unit} {Q : α → Shared → Prop} (h : wpI M A m Q s) : wpI M A (m.onRaise k) Q s := fun Γ p hΓ hn hc => by
  rw [Sem.wp_onRaise]
  exact Sem.wp_mono M Γ m (fun _ _ _ h' => h') (fun _ _ _ h' => h'.elim) p s (h Γ p hΓ hn hc)
theorem wpI_holding {vs : List Value} {m : Sem α} {Q : α → Shared → Prop} (h : wpI M A m Q s) : wpI M A (holding vs m) Q s :=
  fun Γ p hΓ hn hc => by rw [Sem.wp_holding]; exact h Γ p hΓ hn hc
theorem wpI_keep {vs : List Value} {m : Sem α} {Q : α → Shared → Prop} (h : wpI M A m Q s) : wpI M A (m.keep vs) Q s :=
  fun Γ p hΓ hn hc => by rw [Sem.wp_keep]; exact h Γ p hΓ hn hc
theorem cln_cons {c : Code} {p : Pos} {l : List (Code × Pos)} (h : ndB c = true) (hl : cln l) : cln ((c, p) :: l) := by
  intro q hq
  rcases List.mem_cons.mp hq with rfl | hq
  · exact h
  · exact hl q hq
theorem wpI_run {c : Code} {h : Option Value} {Q : Flow → Shared → Prop} (hc : cdI M (A.mark h) c Q s) (hnb : h ≠ some byPass := by intro x; cases x) : wpI M A (run c h) Q s :=
  fun Γ p hΓ hn hcl => by
    rw [Sem.wp_run]
    refine wpCode_mono (fun r s' h' => ?_) (hc _ p rfl (hΓ.enter c h p hnb) (cln_cons hn hcl))
    cases r with
    | ok f => exact h'
    | error e => exact h'.elim
theorem wpI_runOwn {c : Code} {env : Env} {Q : Flow → Shared → Prop} (hc : cdI M A c Q s) : wpI M A (runOwn c env) Q s := by
  unfold runOwn
  exact wpI_onRaise (wpI_run hc)
theorem wpI_runValue {c : Code} {Q : Value → Shared → Prop} (hc : cdI M A c (fun f s' => match f with | .ret v => Q v s' | _ => False) s) : wpI M A (runValue c) Q s :=
  fun Γ p hΓ hn hcl => by
    rw [Sem.wp_runValue]
    refine wpCode_mono (fun r s' h' => ?_) (hc _ p rfl (hΓ.enter c none p (by intro x; cases x)) (cln_cons hn hcl))
    cases r with
    | ok f => cases f <;> exact h'
    | error e => exact h'.elim
theorem wpI_call {f : Value} {pos : List Value} {kw : List (Str × Value)} {Q : Value → Shared → Prop} (hc : cdI M A (.call f ⟨pos, kw⟩) (fun f s' => match f with | .ret v => Q v s' | _ => False) s) : wpI M A (call f pos kw) Q s := wpI_runValue hc
theorem cdI_of_tree {c : Code} {Q : Flow → Shared → Prop} (hn : ndB c = true)
    (h : wpI M (A.under c) (M.den c) (fun fin s' => match fin with | .done f => Q f s' | .again c' => c'.quiet = true ∧ cdI M A c' Q s') s) : cdI M A c Q s := fun Γ p hc hΓ hcl => by
  rw [wpCode_iff_wp, hc]
  refine Sem.wp_mono M Γ _ (fun fin p' s' h' => ?_) (fun _ _ _ h' => h') p s (h Γ p (hc ▸ hΓ.in) (hc ▸ hn) hcl)
  cases fin with
  | done f => exact h'
  | again c' => exact ⟨h'.1, h'.2 (Γ.goto c') p' rfl (hΓ.goto c') hcl⟩
end
section
variable {prog : Program} {w : World} {A : Around} {s : Shared} {env : Env}
theorem cdI_block {stmts : List Stmt} {Q : Flow → Shared → Prop} (h : wpI (model prog w) A (execs stmts env) Q s) : cdI (model prog w) A (.block stmts env) Q s := by
  refine cdI_of_tree rfl ?_
  show wpI _ _ (do return Fin.done (← (execs stmts env).onRaise (fun x => do noteFrame x env; theTreesLotGoes x))) _ s
  exact wpI_bind (wpI_onRaise (wpI_mono h fun f s' h' => wpI_pure h'))
theorem cdI_func {body : List Stmt} {Q : Flow → Shared → Prop} (h : wpI (model prog w) (A.deeper env) (execs body env) (fun f s' => Q (.ret (match f with | .ret v => v | _ => .none)) s') s) : cdI (model prog w) A (.func body env) Q s := by
  refine cdI_of_tree rfl ?_
  show wpI _ (A.deeper env) (do point; match ← (execs body env).onRaise (leaving env) with | .ret v => ret v | _ => ret .none) _ s
  refine wpI_seq (wpAny_point (wpI_bind (wpI_onRaise (wpI_mono h (fun f s' h' => ?_)))))
  cases f <;> exact wpI_pure h'
theorem wpI_execs_nil {Q : Flow → Shared → Prop} (h : Q .next s) : wpI (model prog w) A (execs [] env) Q s := wpI_of (wpAny_execs_nil h)
theorem wpI_execs_cons {st : Stmt} {rest : List Stmt} {Q : Flow → Shared → Prop}
    (h : wpI (model prog w) A (exec st env) (fun f s' => match f with | .next => wpI (model prog w) A (execs rest env) Q s' | f => Q f s') s) :
    wpI (model prog w) A (execs (st :: rest) env) Q s := fun Γ p hΓ hn hc => by
  rw [execs_cons, Sem.wp_bind']
  refine Sem.wp_mono _ Γ _ (fun f p' s' h' => ?_) (fun _ _ _ h' => h') _ _ (h Γ p hΓ hn hc)
  cases f <;> first | exact h' Γ p' hΓ hn hc | exact h'
/-- the first statement is one of the plain logic -/
theorem wpI_execs_any {st : Stmt} {rest : List Stmt} {Q : Flow → Shared → Prop}
    (h : wpAny (model prog w) A (exec st env) (fun f s' => match f with | .next => wpI (model prog w) A (execs rest env) Q s' | f => Q f s') noE s) :
    wpI (model prog w) A (execs (st :: rest) env) Q s := wpI_execs_cons (wpI_of h)
theorem wpI_If {test : Expr} {body orelse : List Stmt} {pos : Pos} {Q : Flow → Shared → Prop}
    (h : wpI (model prog w) A (isTrue test env (eval test env)) (fun b s₂ => if b then wpI (model prog w) A (execs body env) Q s₂ else wpI (model prog w) A (execs orelse env) Q s₂) s) :
    wpI (model prog w) A (exec (.If test body orelse pos) env) Q s := by
  rw [exec_If]
  refine wpI_seq (wpAny_standAt (wpI_bind (wpI_mono h fun b s₂ h₂ => ?_)))
  cases b <;> exact h₂
theorem wpI_forLoop {Q : Flow → Shared → Prop} {target : Expr} {it : Value} {body : List Stmt} (I : Nat → Shared → Prop)
    (turn : ∀ n s, I n s → wpAny (model prog w) A (pyNext it) (fun r s₁ => match r with
      | none => Q .next s₁
      | some v => wpAny (model prog w) A (assign target env v) (fun _ s₂ => wpI (model prog w) A (execs body env) (fun f s₃ => match f with
          | .next | .cont => ∃ m, m < n ∧ I m s₃
          | .brk => Q .next s₃
          | .ret v => Q (.ret v) s₃) s₂) noE s₁) noE s)
    (n : Nat) (h : I n s) (ht : ∀ v, letOwnedTupleGo target it v = pure () := by intro _; rfl) : cdI (model prog w) A (.forLoop target it body [] env) Q s := by
  induction n using Nat.strongRecOn generalizing s with
  | ind n ih =>
  refine cdI_of_tree rfl ?_
  show wpI _ _ ((forTurn target it body [] env).onRaise (fun x => do noteFrame x env; theTreesLotGoes x)) _ s
  refine wpI_onRaise ?_
  simp only [forTurn]
  refine wpI_seq (wpAny_standAt (wpI_seq (wpAny_onRaise (wpAny_mono (turn n s h) (fun r s₁ h₁ => ?_) fun _ _ h' => h'.elim))))
  cases r with
  | none => exact wpI_pure ⟨rfl, cdI_block (wpI_execs_nil h₁)⟩
  | some v =>
    refine wpI_seq (wpAny_of_eq (ht v) ?_)
    refine wpI_seq (wpAny_mono h₁ (fun _ s₂ h₂ => wpI_bind (wpI_mono h₂ (fun f s₃ h₃ => ?_))) fun _ _ h' => h')
    cases f with
    | next => obtain ⟨m, hm, hI⟩ := h₃; exact wpI_pure ⟨rfl, ih m hm hI⟩
    | cont => obtain ⟨m, hm, hI⟩ := h₃; exact wpI_pure ⟨rfl, ih m hm hI⟩
    | brk => exact wpI_pure h₃
    | ret v => exact wpI_pure h₃
theorem wpI_For {target iter : Expr} {body : List Stmt} {pos : Pos} {Q : Flow → Shared → Prop}
    (h : wpAny (model prog w) A (eval iter env) (fun x s₁ => wpAny (model prog w) A (pyIter x) (fun it s₂ => cdI (model prog w) A (.forLoop target it body [] env) Q s₂) noE s₁) noE s)
    (hs : ∀ x, foldedSetIterable iter env x = pure x := by intro _; rfl) :
    wpI (model prog w) A (exec (.For target iter body [] pos) env) Q s := by
  rw [exec_For]
  exact wpI_seq (wpAny_standAt (wpI_seq (wpAny_mono h (fun x s₁ h₁ => wpI_seq (wpAny_of_eq (hs x) (wpI_seq (wpAny_standAt (wpI_seq (wpAny_holding
    (wpAny_mono h₁ (fun it s₂ h₂ => wpI_runOwn h₂) fun _ _ h' => h'))))))) fun _ _ h' => h')))
theorem cdI_call_function {a : Addr} {args : Args} {o : Obj} {fd : FuncData} {body : List Stmt} {Q : Flow → Shared → Prop} (hroom : A.depth < recursionLimit)
    (ho : s.heap.get? a = some o)
    (hd' : o.data = .func fd) (hco : fd.scope.isCoroutine = false) (hgen : fd.scope.isGenerator = false) (hbody : fd.body = .stmts body) (hcd : s.heap.CodeRec fd.code fd.qualname)
    (h : wpAny (model prog w) A.in1 (bindArgs fd args) (fun binds s₁ =>
      wpAny (model prog w) A.in1 (newFunctionEnv fd.scope fd.globals fd.closure binds (fd.qualname ++ ".<locals>.") (some a) fd.code none fd.builtins)
        (fun env s₂ => s₂.heap.NoLimit ∧ cdI (model prog w) A (.func body env) Q s₂) noE s₁) noE s) :
    cdI (model prog w) A (.call (.ref a) args) Q s := by
  refine cdI_of_tree rfl ?_
  show wpI _ A.in1 (callAny (.ref a) args) _ s
  simp only [callAny]
  refine wpI_seq (wpAny_load ho ?_)
  obtain ⟨c, oc, vs, tq, hc, hoc, hdc, hq⟩ := hcd
  simp only [hd', callFunction, hco, hgen, hbody, hc]
  rw [hc] at h
  refine wpI_seq (m := field (.ref c) 1) (wpAny_field hoc hdc hq (wpI_seq (wpAny_pure ?_)))
  exact wpI_seq (wpAny_mono h (fun binds s₁ h₁ => wpI_seq (wpAny_mono h₁ (fun env s₂ h₂ => wpI_seq (wpAny_enterFrame h₂.1 hroom
    (wpI_pure (And.intro rfl h₂.2)))) fun _ _ h' => h')) fun _ _ h' => h')
end
end Mine
end
section
open PySem PySem.W PySem.Spec PySem.Calls PyProof.Rows
open PySem.Sem (wp)
namespace Mine
/-- a tree of the clean logic, run as the claim's caller runs it -/
theorem caller_I {prog : Program} {w : World} {t : Sem Fin} {s : Shared} {R : Result → Shared → Prop} (hreg : s.asleep)
    (h : wpI (model prog w) callerA t (fun fin s' => ∃ f, fin = .done f ∧ R (.ok f) s' ∧ leftWithCleanup s'.gens = false) s) :
    ∃ n r s' s'', runN (denote table) prog w n s ⟨t, .builtin "claim.caller" {}, default, []⟩ = .halted (outcomeOf r) s' ∧
      schedN (denote table) prog w n (.single s ⟨t, .builtin "claim.caller" {}, default, []⟩) = .halted (outcomeOf r) s' ∧ s'.forget = s''.forget ∧ R r s'' := by
  have key : wp (model prog w) ⟨.builtin "claim.caller" {}, none, none, [], none⟩ t
      (Sem.finPost (model prog w) ⟨.builtin "claim.caller" {}, none, none, [], none⟩ fun r s' => R r s' ∧ leftWithCleanup s'.gens = false) (fun e _ s' => R (.error e) s' ∧ leftWithCleanup s'.gens = false) default s := by
    refine Sem.wp_mono _ _ _ (fun fin p' s' h' => ?_) (fun _ _ _ h' => h'.elim) _ _ (h _ default caller_in (by decide +kernel) fun p hp => nomatch hp)
    obtain ⟨f, rfl, hR⟩ := h'
    exact hR
  obtain ⟨n, r, s₁, s₂, hs, hn, hfo, hR⟩ := wp_halts_full (M := model prog w) (R := R) hreg key
  exact ⟨n, r, s₂, s₁, hn, hs, hfo, hR⟩
/-- the walk that the head asks for, in the clean logic -/
abbrev WalkI (q : Program) (loose : List Str) (XP : (Str → Option Value) → Heap → Prop) (YP : World → Heap → Prop) (r : RowW) (d : DefRec) (kwd : List (Str × Expr)) : Prop :=
  ∀ (w : World) (s₀ s₁ : Shared) (mg mb : Str → Option Value), Ground q loose r.records XP w s₀ mg mb s₁.heap → YP w s₁.heap → ∀ (a : Addr) (o : Obj) (pm cd doc dV kV : Value), s₁.heap.get? a = some o →
    o.data = .func { docDef d.name d.params d.body d.scope pm cd doc with defaults := dV, kwdefaults := kV } → s₁.heap.CodeRec cd d.name → Dflts mg s₁.heap d.params kwd dV kV → mg d.name = some (.ref a) → s₁.gens = #[] →
    ∀ (args : List WData) (vals : List Value) (as : List Addr), r.claim.pre args = true → WData.layableAll args = true → ReadsAllW r.records (classAt s₀.heap) s₁.heap vals args as → WellAll w.params s₁.heap vals args → (∀ a ∈ as, (a == sysModules) = false) →
      wpI (model r.prog w) callerA (PySem.call (.ref a) vals) (fun v s' => GoodWG r.claim (classAt s₀.heap) (ExcName.means s₀.heap) args s₁ (.ok (.ret v)) s') s₁
section
variable {r : OpenRow} {q : Program} {loose : List Str} {Xt : Shared → Bool} {XP : (Str → Option Value) → Heap → Prop} {α : Type} {Yf : Shared → α} {Ya : World → α} {YP : World → Heap → Prop} {d : DefRec} {kwd : List (Str × Expr)} {N : Nat}
/-- one call from one state behind the top -/
theorem one_call_I {w : World} {s : Shared} {free : Addr → Prop} {kept : Heap → Prop} {R : Prop}
    (fr : (frees r.toRowW && r.within.isEmpty) = true) (hXk : ∀ mg h h', XP mg h → (∀ b o, h.get? b = some o → h'.get? b = some o) → XP mg h') (hYk : ∀ w h h', YP w h → (∀ b o, h.get? b = some o → h'.get? b = some o) → YP w h')
    (hdef : defOf q r.name = some (d, kwd)) (hz : s.asleep) (hgens : s.gens = #[]) (G : Ground q loose r.records XP w s (s.heap.nsMap mainGlobals) (s.heap.nsMap builtinsNs) s.heap) (Y : YP w s.heap)
    (hkept : ∀ s₁ s' : Shared, (∀ b o, s.heap.get? b = some o → s₁.heap.get? b = some o) → (∀ b o, s₁.heap.get? b = some o → asItWas s₁.heap s'.heap b o) → kept s'.heap)
    (walk : WalkI q loose XP YP r.toRowW d kwd) :
    r.toRowW.claim.CallFrom (fun vs => ⟨do match ← nsGet mainNs r.name with
      | some f => do ret (← PySem.call f vs)
      | none => unsupported "claim.caller:no-such-global", .builtin "claim.caller" {}, default, []⟩) w free R kept s := by
  obtain ⟨fr, wi⟩ := Bool.and_eq_true_iff.mp fr
  obtain ⟨hsame, hu, ha, hap, _⟩ := frees_parts fr
  intro args hpre hlay ord hord
  obtain ⟨⟨vs, s₁⟩, hl⟩ := Option.isSome_iff_exists.mp (layAllW_isSome (P := w.params) (ord := ord) G.has args r.args s (pre_splitW hpre).1)
  have kp := layAllW_keeps _ _ _ hl
  have rest := layAllW_rest _ _ _ hl
  obtain ⟨as, hrd, hin, hold⟩ := reads_layAllW hord _ _ _ hl hlay s₁.heap (fun _ _ e => e)
  have L : Laid r.records w s s₁ args vs as := ⟨⟨ord, hord, hl⟩, hrd, hin, hold, kp, rest.1.trans hgens, rest.2.2.1⟩
  have G₁ := G.keeps hXk kp
  obtain ⟨a, o, pm, cd, doc, dV, kV, h1, h2, h3, h4, h5⟩ := G₁.fn hdef
  have W := walk w s s₁ _ _ G₁ (hYk _ _ _ Y kp) a o pm cd doc dV kV h2 h3 h4 h5 (defOf_name hdef ▸ h1) L.gens args vs as hpre hlay L.reads L.well (L.low G.low)
  have T : wpI (model r.prog w) callerA (do match ← nsGet mainNs r.name with
      | some f => do ret (← PySem.call f vs)
      | none => unsupported "claim.caller:no-such-global")
      (fun fin s' => ∃ f, fin = .done f ∧ (r.toRowW.claim.Ends s args vs s₁ (.ok f) s' ∧ s'.os = s.os ∧ kept s'.heap) ∧ leftWithCleanup s'.gens = false) s₁ := by
    refine wpI_seq (wpAny_nsGet G₁.T.g ?_)
    rw [h1]
    refine wpI_bind (wpI_mono W fun v s' g => wpI_pure ⟨_, rfl, ?_⟩)
    obtain ⟨z1, z2, z3⟩ := g.laid (c := r.toRowW.claim) hsame (List.isEmpty_iff.mp wi) (ident_freeW hu ha hap) L
    exact ⟨⟨z1, z2, hkept _ _ kp g.2.1.old⟩, leftWithCleanup_false_of_bare z3⟩
  obtain ⟨n, res, s', s'', hrun, hs, hfo, hE, hos, hk⟩ := caller_I (R := fun res s' => r.toRowW.claim.Ends s args vs s₁ res s' ∧ s'.os = s.os ∧ kept s'.heap) (Shared.asleep_of_life rest.2.2.2 hz) T
  obtain ⟨eh, _, _, eo, _⟩ := Shared.forget_eq hfo
  have hE := hE.congr eh
  rw [← eh] at hk
  rw [← eo] at hos
  refine ⟨vs, s₁, hl, n, _, s', hs, ?_, (fun _ i x hx => by rw [hgens] at hx; simp at hx), hk, by rw [(runN_life _ _ _ hrun).trans rest.2.2.2], Shared.rest_eq hos⟩
  rcases hE with ⟨v, rfl, d1, d2, d3, d4, d5⟩ | ⟨e, ob, cls, rfl, d1, d2, d3, d4, d5⟩
  · exact .inl ⟨v, rfl, d1, d2, d3, fun b o y _ => d4 b o y, d5⟩
  · exact .inr ⟨e, ob, cls, rfl, d1, d2, d3, d4, fun b o y _ => d5 b o y⟩
end
end Mine
end
section
open PySem PySem.W PySem.Spec PySem.Calls PyProof.Rows
namespace Mine.PySem.W
/-- LeftO under a name of its own: the kit's head line then shows it at once, not in pieces (a smaller proof) -/
abbrev LeftI (p q : Program) (loose : List Str) (Xt : Shared → Bool) {α : Type} (Yf : Shared → α) (Ya : World → α) (N : Nat) : Prop := LeftO p q loose Xt Yf Ya N
/-- the head of the clean logic; it bears the name by which the kit's own head line asks for its rule, one namespace within -/
theorem holds_open {r : OpenRow} {q : Program} {loose : List Str} {Xt : Shared → Bool} {XP : (Str → Option Value) → Heap → Prop} {α : Type} {Yf : Shared → α} {Ya : World → α} {YP : World → Heap → Prop} {d : DefRec} {kwd : List (Str × Expr)} {N : Nat}
    (left : LeftI r.prog q loose Xt Yf Ya N) (hY : ∀ w s, Yf s = Ya w → YP w s.heap) (hYk : ∀ w h h', YP w h → (∀ b o, h.get? b = some o → h'.get? b = some o) → YP w h')
    (hX : ∀ s, Xt s = true → XP (s.heap.nsMap mainGlobals) s.heap) (hXk : ∀ mg h h', XP mg h → (∀ b o, h.get? b = some o → h'.get? b = some o) → XP mg h')
    (hdef : defOf q r.name = some (d, kwd)) (hp : r.prog.theDef r.name = some (d.params, d.body, d.scope)) (hk : kwWritten? d.params.kwonlyargs d.params.kw_defaults = some kwd) (hRf : ∀ s, Xt s = true → RecFacts r.records s.heap) (hwr : (!r.writes || r.records.isEmpty) = true)
    (k1 : r.wellSaid = true) (ok : (chainsOk q && opensWell r.prog && (frees r.toRowW && r.within.isEmpty)) = true) (hb : r.prog.bare) (hw : r.toRowW.promised)
    (call : WalkI q loose XP YP r.toRowW d kwd) : r.Holds := by
  obtain ⟨ok1, fr⟩ := Bool.and_eq_true_iff.mp ok
  obtain ⟨hch, o1⟩ := Bool.and_eq_true_iff.mp ok1
  obtain ⟨_, _, _, _, hm⟩ := frees_parts (Bool.and_eq_true_iff.mp fr).1
  refine ⟨k1, hw, ⟨hb, o1, by show r.makers.map _ = []; rw [hm]; rfl⟩, hw.witness, fun w => ?_⟩
  have b := LeftO.behind (left : LeftO r.prog q loose Xt Yf Ya N) (XP := fun mg h => XP mg h ∧ RecFacts r.records h) (fun s hs => ⟨hX s hs, hRf s hs⟩) hch w
  refine ⟨b.1, fun s' hs' => ?_⟩
  obtain ⟨s₀, hf, hg0, s, hT, hz, hgens, hg, GX, y⟩ := b.2 s' hs'
  have RF := GX.X.2
  have G0 : Ground q loose [] XP w s (s.heap.nsMap mainGlobals) (s.heap.nsMap builtinsNs) s.heap := { GX with X := GX.X.1 }
  refine ⟨s₀, hf, hg0, s, hT, fun n hn => ?_, RF.1, RF.2.1, ?_⟩
  · obtain rfl : n = r.name := by split at hn <;> simp_all
    exact pinned_of_view hg G0 hdef hp hk
  · exact one_call_I fr hXk hYk hdef hz (Array.eq_empty_of_size_eq_zero (beq_iff_eq.mp hgens)) (RF.ground G0) (hY w s y)
      (fun s₁ s' k o q => ⟨namesKept_of hT hg _ k o, noTable hwr q⟩) call
end Mine.PySem.W
end
section
open PySem PySem.W PyProof.Rows
namespace Mine
open_top hd for PySem.Challenge.rw_nt0091_01
/-- the walk's switch, back as a new file has it -/
theorem calm : True := by
  w_top off
  trivial
end Mine
end
section
open PySem PySem.W PyProof.Rows
namespace Mine
abbrev Led := List (Addr × Obj)
def Cl (w : World) (f : Addr) (D U : Nat) (vs : List Value) (news : Led) (R : Value → Led → Prop) : Prop :=
  ∀ (loose : List Str) (mean : ExcName → Option Value) (mg mb : Str → Option Value) (dp un : Nat) (gd : Option (List Code)) (cn : Str) (cs : Scope) (a : Addr) (ccd : Value) (cl : List (Str × Addr)) (outer : List Env)
    (A₀ : Around) (base h₀ : Heap) (L : Addr) (m : Str → Option Value) (s : Shared) (Q E : Value → Shared → Prop),
    Below A₀ base outer h₀ → Fr h₀ L s.heap m → (Mine.hd.heap_39 w.params).In h₀ → News h₀ L s.heap news → Top Mine.hd.view_39 loose mean mg mb h₀ → cs.kind = .function →
    dp + D < recursionLimit → un + U < cLine →
    (∀ v news' h' tk', R v news' → Fr h₀ L h' m → News h₀ L h' news' → Q v { s with heap := h', toks := tk' }) →
    wpAny (model PySem.Challenge.rw_nt0091_01.row.prog w) (ktrTop dp un gd cn cs L a ccd cl outer) (call (.ref f) vs) Q E s
abbrev tupO (vs : List Value) : Obj := { cls := .type "tuple", data := .seq vs.toArray }
end Mine
namespace Mine
theorem Cl.use {w : World} {f : Addr} {D U : Nat} {vs : List Value} {news : Led} {R : Value → Led → Prop} (C : Cl w f D U vs news R)
    {loose : List Str} {mean : ExcName → Option Value} {mg mb : Str → Option Value} {dp un : Nat} {gd : Option (List Code)} {cn : Str} {cs : Scope} {a : Addr} {ccd : Value} {cl : List (Str × Addr)} {outer : List Env}
    {A₀ : Around} {base h₀ : Heap} {L : Addr} {m : Str → Option Value} {s : Shared} {Q E : Value → Shared → Prop}
    (B : Below A₀ base outer h₀) (F : Fr h₀ L s.heap m) (X : (Mine.hd.heap_39 w.params).In h₀) (N : News h₀ L s.heap news) (T : Top Mine.hd.view_39 loose mean mg mb h₀) (hk : cs.kind = .function)
    (hd : dp + D < recursionLimit) (hu : un + U < cLine)
    (ret : ∀ v news' h' tk', R v news' → Fr h₀ L h' m → News h₀ L h' news' → Q v { s with heap := h', toks := tk' }) :
    wpAny (model PySem.Challenge.rw_nt0091_01.row.prog w) (ktrTop dp un gd cn cs L a ccd cl outer) (call (.ref f) vs) Q E s :=
  C loose mean mg mb dp un gd cn cs a ccd cl outer A₀ base h₀ L m s Q E B F X N T hk hd hu ret
theorem Cl.mono {w : World} {f : Addr} {D U : Nat} {vs : List Value} {news : Led} {R R' : Value → Led → Prop} (C : Cl w f D U vs news R) (h : ∀ v n, R v n → R' v n) : Cl w f D U vs news R' :=
  fun loose mean mg mb dp un gd cn cs a ccd cl outer A₀ base h₀ L m s Q E B F X N T hk hd hu ret =>
    C loose mean mg mb dp un gd cn cs a ccd cl outer A₀ base h₀ L m s Q E B F X N T hk hd hu fun v n h' tk' r => ret v n h' tk' (h v n r)
/-- the same over a ledger of more, or of another order -/
theorem Cl.led {w : World} {f : Addr} {D U : Nat} {vs : List Value} {news news₀ : Led} {R : Value → Led → Prop} (C : Cl w f D U vs news R) (hs : ∀ p ∈ news, p ∈ news₀) : Cl w f D U vs news₀ R :=
  fun loose mean mg mb dp un gd cn cs a ccd cl outer A₀ base h₀ L m s Q E B F X N T hk hd hu ret =>
    C loose mean mg mb dp un gd cn cs a ccd cl outer A₀ base h₀ L m s Q E B F X (fun p hp => N p (hs p hp)) T hk hd hu ret
end Mine
namespace Mine
/-- a contract over a written ledger: whatever else stood, stands -/
def ClS (w : World) (f : Addr) (D U : Nat) (vs : List Value) (news : Led) (R : Value → Led → Prop) : Prop :=
  ∀ (loose : List Str) (mean : ExcName → Option Value) (mg mb : Str → Option Value) (dp un : Nat) (gd : Option (List Code)) (cn : Str) (cs : Scope) (a : Addr) (ccd : Value) (cl : List (Str × Addr)) (outer : List Env)
    (A₀ : Around) (base h₀ : Heap) (L : Addr) (m : Str → Option Value) (s : Shared) (Q E : Value → Shared → Prop),
    Below A₀ base outer h₀ → Fr h₀ L s.heap m → (Mine.hd.heap_39 w.params).In h₀ → News h₀ L s.heap news → Top Mine.hd.view_39 loose mean mg mb h₀ → cs.kind = .function →
    dp + D < recursionLimit → un + U < cLine →
    (∀ v news' h' tk' (g : Heap) (L' : Addr) (m' : Str → Option Value), R v news' → GSub s.heap g (news.map (·.1)) → Fr g L' h' m' → News g L' h' news' → Fr h₀ L h' m → News h₀ L h' news' → Q v { s with heap := h', toks := tk' }) →
    wpAny (model PySem.Challenge.rw_nt0091_01.row.prog w) (ktrTop dp un gd cn cs L a ccd cl outer) (call (.ref f) vs) Q E s
theorem ClS.frame {w : World} {f : Addr} {D U : Nat} {vs : List Value} {small rest : Led} {R : Value → Led → Prop} (C : ClS w f D U vs small R) (hoff : ∀ p ∈ rest, p.1 ∉ small.map (·.1)) :
    Cl w f D U vs (small ++ rest) (fun v n' => ∃ n1, R v n1 ∧ n' = n1 ++ rest ∧ ∀ p ∈ rest, ∀ q ∈ n1, q.1 ∉ small.map (·.1) → p.1 ≠ q.1) := by
  intro loose mean mg mb dp un gd cn cs a ccd cl outer A₀ base h₀ L m s Q E B F X N T hk hd hu ret
  refine C loose mean mg mb dp un gd cn cs a ccd cl outer A₀ base h₀ L m s Q E B F X (fun p hp => N p (List.mem_append.mpr (.inl hp))) T hk hd hu ?_
  intro v n1 h' tk' g L' m' r G F' N1 Fo No
  have keep : ∀ p ∈ rest, g.get? p.1 = some p.2 := fun p hp => G p.1 p.2 (N p (List.mem_append.mpr (.inr hp))).1 (hoff p hp)
  refine ret v (n1 ++ rest) h' tk' ⟨n1, r, rfl, fun p hp q hq _ e => ?_⟩ Fo fun p hp => ?_
  · have h1 := keep p hp
    have h2 := (N1 q hq).2.2
    rw [← e, h1] at h2; cases h2
  · rcases List.mem_append.mp hp with hp | hp
    · exact No p hp
    · exact ⟨F'.keep _ _ (keep p hp), (N p (List.mem_append.mpr (.inr hp))).2⟩
end Mine
end
section
open PySem PySem.W PyProof.Rows
namespace Mine
section
variable {prog : Program} {w : World} {A : Around} {E : Value → Shared → Prop} {s : Shared} {b : Array UInt8} {t u : Tok}
theorem item_b {value slice : Expr} {k o : Int} {Q : Value → Shared → Prop} (hx : (KBw.bInts b)[k.toNat]? = some o) (h0 : 0 ≤ k) (hs : b.size ≤ 1099511627776) (h : Q (.int o s.toks) { s with toks := s.toks + 1 })
    (hsub : subscripted slice false (.bytes b t) (.int k u) = operate [.bytes b t, .int k u] (getItem (.bytes b t) (.int k u)) := by with_unfolding_all rfl) :
    wpAny (model prog w) A (subscriptTail value slice (.bytes b t) (.int k u)) Q E s := by
  obtain ⟨l⟩ := b
  have hl : k.toNat < l.length := by
    have := (List.getElem?_eq_some_iff.mp hx).1
    simpa [KBw.bInts] using this
  refine tail_any (typeIs_bytes s _ t) FB.slot_bytes_getitem.lookup (getItem_bytes (by simpa using hs) h0 (by omega) ?_) hsub
  have e : ((l.getD k.toNat 0).toNat : Int) = o := by
    simp only [KBw.bInts, List.getElem?_map, List.getElem?_eq_getElem hl, Option.map_some] at hx
    have := Option.some.inj hx
    rw [← this]
    simp [List.getD, hl]
  rw [e]; exact h
end
end Mine
namespace Mine
def sgn (c : Int) : Str := ⟨#[c.toNat]⟩
theorem join_sgn_eq (dn : List Int) : PySem.Txt.join (PySem.Str.ofString "") (dn.map sgn) = KStt.txt dn := by
  show Builtin.Str.glued (PySem.Str.ofString "") (dn.map sgn) = _
  rw [StrLaws.glued_eq_join]
  have e : dn.map sgn = (dn.map Int.toNat).map fun k => (⟨#[k]⟩ : Str) := by rw [List.map_map]; rfl
  have e2 : PySem.Str.ofString "" = (⟨#[]⟩ : Str) := by decide +kernel
  rw [e, e2, PyProof.Rows.join_ones]
  rfl
section
variable {prog : Program} {w : World} {A : Around} {E : Value → Shared → Prop} {s : Shared} {t : Tok} {h₀ : Heap} {L : Addr} {news : List (Addr × Obj)}
theorem join_sgn {D : Addr} {ys : List Value} {n : Nat} {dn : List Int} {Q : Value → Shared → Prop} (N : News h₀ L s.heap news) (hm : (D, W.listOf ys.toArray n) ∈ news) (hS : StrsAre ys (dn.map sgn)) (hn : dn.length ≤ 1048576)
    (h : ∀ t' k, Q (.str (KStt.txt dn) t') { s with toks := k }) : wpAny (model prog w) A (call (.builtin "str.join") [.str (PySem.Str.ofString "") t, .ref D]) Q E s := by
  refine KT.join_1 (l := dn) (g := sgn) ⟨_, (N _ hm).1, rfl, n, rfl⟩ ?_ (fun _ _ => rfl) hn fun t' k _ => ?_
  · have := StrsAre.carried hS
    rwa [List.map_map] at this
  · rw [join_sgn_eq]; exact h t' k
end
end Mine
namespace Mine
theorem strs_sgn {vs : List Value} {dn : List Int} {X : Str} {t : Tok} {c : Int} (h : StrsAre vs (dn.map sgn)) (e : X = sgn c) : StrsAre (vs ++ [.str X t]) ((dn ++ [c]).map sgn) := by
  subst e
  rw [List.map_append]
  exact h.append' (.cons _ _ .nil)
theorem repl_sgn : Str.ofString "�" = sgn 65533 := by decide +kernel
end Mine
namespace Mine
section
variable {prog : Program} {w : World} {A : Around} {E : Value → Shared → Prop} {s : Shared} {h₀ : Heap} {L D : Addr} {m : Str → Option Value} {news : List (Addr × Obj)} {a b k x : Int} {ta tb t u : Tok} {n : Nat}
abbrev srcO (a b : Int) (ta tb : Tok) (n : Nat) : Obj := W.listOf #[.int a ta, .int b tb] n
theorem set_src0 {Q : Unit → Shared → Prop} (F : Fr h₀ L s.heap m) (N : News h₀ L s.heap ((D, srcO a b ta tb n) :: news)) (hne : ∀ p ∈ news, p.1 ≠ D)
    (h : ∀ h', Fr h₀ L h' m → News h₀ L h' ((D, srcO x b u tb n) :: news) → Q () { s with heap := h' }) : wpAny (model prog w) A (setItem (.ref D) (.int 0 t) (.int x u)) Q E s :=
  ksa_set (vs := [.int a ta, .int b tb]) (ns := [a, b]) F N (Upd.head hne) (.cons _ _ (.cons _ _ .nil)) (by decide) (by simp) (by decide) fun h' F' N' _ _ _ => h h' F' N'
theorem set_src1 {Q : Unit → Shared → Prop} (F : Fr h₀ L s.heap m) (N : News h₀ L s.heap ((D, srcO a b ta tb n) :: news)) (hne : ∀ p ∈ news, p.1 ≠ D)
    (h : ∀ h', Fr h₀ L h' m → News h₀ L h' ((D, srcO a x ta u n) :: news) → Q () { s with heap := h' }) : wpAny (model prog w) A (setItem (.ref D) (.int 1 t) (.int x u)) Q E s :=
  ksa_set (vs := [.int a ta, .int b tb]) (ns := [a, b]) F N (Upd.head hne) (.cons _ _ (.cons _ _ .nil)) (by decide) (by simp) (by decide) fun h' F' N' _ _ _ => h h' F' N'
end
end Mine
namespace Mine
section
variable {prog : Program} {w : World} {A : Around} {E : Value → Shared → Prop} {s : Shared} {h₀ : Heap} {L D : Addr} {m : Str → Option Value} {news : List (Addr × Obj)} {a b k x : Int} {ta tb t u : Tok} {n : Nat}
theorem get_src0 {value slice : Expr} {Q : Value → Shared → Prop} (N : News h₀ L s.heap news) (hm : (D, srcO a b ta tb n) ∈ news) (h : Q (.int a ta) s)
    (hs : subscripted slice false (.ref D) (.int 0 u) = operate [.ref D, .int 0 u] (getItem (.ref D) (.int 0 u)) := by with_unfolding_all rfl) :
    wpAny (model prog w) A (subscriptTail value slice (.ref D) (.int 0 u)) Q E s :=
  item_litK (vs := [.int a ta, .int b tb]) ⟨_, (N _ hm).1, rfl, n, rfl⟩ (by decide) (by decide) rfl h hs
theorem get_src1 {value slice : Expr} {Q : Value → Shared → Prop} (N : News h₀ L s.heap news) (hm : (D, srcO a b ta tb n) ∈ news) (h : Q (.int b tb) s)
    (hs : subscripted slice false (.ref D) (.int 1 u) = operate [.ref D, .int 1 u] (getItem (.ref D) (.int 1 u)) := by with_unfolding_all rfl) :
    wpAny (model prog w) A (subscriptTail value slice (.ref D) (.int 1 u)) Q E s :=
  item_litK (vs := [.int a ta, .int b tb]) ⟨_, (N _ hm).1, rfl, n, rfl⟩ (by decide) (by decide) rfl h hs
end
end Mine
namespace Mine
theorem news_of {h₀ h : Heap} {L : Addr} {l l' : List (Addr × Obj)} (N : News h₀ L h l) (hs : ∀ p ∈ l', p ∈ l) : News h₀ L h l' := fun p hp => N p (hs p hp)
theorem news_swap {h₀ h : Heap} {L : Addr} {a b : Addr × Obj} {r : List (Addr × Obj)} (N : News h₀ L h (a :: b :: r)) : News h₀ L h (b :: a :: r) :=
  news_of N fun p hp => by simp only [List.mem_cons] at hp ⊢; rcases hp with h | h | h <;> simp [h]
theorem news_rot {h₀ h : Heap} {L : Addr} {a b c : Addr × Obj} {r : List (Addr × Obj)} (N : News h₀ L h (a :: b :: c :: r)) : News h₀ L h (c :: a :: b :: r) :=
  news_of N fun p hp => by simp only [List.mem_cons] at hp ⊢; rcases hp with h | h | h | h <;> simp [h]
theorem news_tail {h₀ h : Heap} {L : Addr} {a : Addr × Obj} {r : List (Addr × Obj)} (N : News h₀ L h (a :: r)) : News h₀ L h r := fun p hp => N p (.tail _ hp)
theorem lt_ne {l : List (Addr × Obj)} {d : Addr} (h : ∀ p ∈ l, p.1 < d) : ∀ p ∈ l, p.1 ≠ d := fun p hp => Nat.ne_of_lt (h p hp)
end Mine
namespace Mine
theorem getD_mem {ns : List Int} {d : Int} (h0 : 0 ≤ d) (h1 : d < ns.length) : ns.getD d.toNat 0 ∈ ns := by
  have h : d.toNat < ns.length := by omega
  have e : ns.getD d.toNat 0 = ns[d.toNat] := by simp [List.getD, h]
  rw [e]; exact List.getElem_mem h
theorem cons_ne {l : List (Addr × Obj)} {a d : Addr} {o : Obj} (h : d < a) (h2 : ∀ p ∈ l, p.1 ≠ d) : ∀ p ∈ (a, o) :: l, p.1 ≠ d := by
  intro p hp
  rcases List.mem_cons.mp hp with rfl | hp
  · exact Nat.ne_of_gt h
  · exact h2 p hp
end Mine
namespace Mine
theorem news_drop2 {h₀ h : Heap} {L : Addr} {a b : Addr × Obj} {r : List (Addr × Obj)} (N : News h₀ L h (a :: b :: r)) : News h₀ L h (a :: r) :=
  news_of N fun p hp => by simp only [List.mem_cons] at hp ⊢; rcases hp with h | h <;> simp [h]
end Mine
namespace Mine
theorem fd {a : Int} {n : Int} (h : 0 ≤ n) : a.fdiv n = a / n := Int.fdiv_eq_ediv_of_nonneg a h
theorem fm {a : Int} {n : Int} (h : 0 ≤ n) : a.fmod n = a % n := Int.fmod_eq_emod_of_nonneg a h
end Mine
namespace Mine
section
variable {prog : Program} {w : World} {A : Around} {E : Value → Shared → Prop} {s : Shared} {h₀ : Heap} {L D : Addr} {news : List (Addr × Obj)} {vs : List Value} {os : List Int} {k o : Int} {n : Nat} {u : Tok}
theorem item_l {value slice : Expr} {Q : Value → Shared → Prop} (N : News h₀ L s.heap news) (hm : (D, W.listOf vs.toArray n) ∈ news) (hi : IntsAre vs os) (hx : os[k.toNat]? = some o) (h0 : 0 ≤ k) (hfit : k < 2 ^ 63) (h : ∀ t, Q (.int o t) s)
    (hs : subscripted slice false (.ref D) (.int k u) = operate [.ref D, .int k u] (getItem (.ref D) (.int k u)) := by with_unfolding_all rfl) :
    wpAny (model prog w) A (subscriptTail value slice (.ref D) (.int k u)) Q E s := by
  obtain ⟨t, ht⟩ := hi.get k.toNat o hx
  exact item_litK ⟨_, (N _ hm).1, rfl, n, rfl⟩ h0 hfit ht (h t) hs
end
end Mine
end
section
open PySem PySem.W PyProof.Rows
namespace Mine
def foldC : List Int → Int → Option Int
  | [], c => some c
  | o :: r, c => if 128 ≤ o ∧ o < 192 then foldC r (64 * c + (o - 128)) else none
theorem foldC_snoc (l : List Int) (o c : Int) : foldC (l ++ [o]) c = (foldC l c).bind fun d => if 128 ≤ o ∧ o < 192 then some (64 * d + (o - 128)) else none := by
  induction l generalizing c with
  | nil => simp [foldC]
  | cons a r ih =>
    simp only [List.cons_append, foldC]
    split
    · exact ih _
    · rfl
def leadF (n : Int) : Option (Int × Int × Int) :=
  if n < 128 then some (0, n, 0)
  else if 194 ≤ n ∧ n < 224 then some (1, n % 32, 128)
  else if 224 ≤ n ∧ n < 240 then some (2, n % 16, 2048)
  else if 240 ≤ n ∧ n < 245 then some (3, n % 8, 65536)
  else none
/-- the octets from place `at` on -/
def codeF (os : List Int) (i : Nat) (fo co le : Int) : Option Int :=
  if (i : Int) + fo > os.length then none
  else (foldC ((os.drop i).take fo.toNat) co).bind fun c => if c < le ∨ c > 1114111 then none else some c
end Mine
namespace Mine
theorem foldC_none_more {l m : List Int} {c : Int} (h : foldC l c = none) : foldC (l ++ m) c = none := by
  induction l generalizing c with
  | nil => simp [foldC] at h
  | cons a r ih =>
    simp only [List.cons_append, foldC] at h ⊢
    split
    · rename_i q; rw [if_pos q] at h; exact ih h
    · rfl
theorem take_drop_snoc {l : List Int} {i j : Nat} {o : Int} (h : l[i + j]? = some o) : (l.drop i).take (j + 1) = (l.drop i).take j ++ [o] := by
  rw [List.take_add_one, List.getElem?_drop, h]; rfl
theorem foldC_step {os : List Int} {i j : Nat} {co c o : Int} (hP : foldC ((os.drop i).take j) co = some c) (ho : os[i + j]? = some o) (h : 128 ≤ o ∧ o < 192) :
    foldC ((os.drop i).take (j + 1)) co = some (64 * c + (o - 128)) := by
  rw [take_drop_snoc ho, foldC_snoc, hP]; simp [h]
theorem foldC_stop {os : List Int} {i j n : Nat} {co c o : Int} (hP : foldC ((os.drop i).take j) co = some c) (ho : os[i + j]? = some o) (h : ¬ (128 ≤ o ∧ o < 192)) (hn : j < n) :
    foldC ((os.drop i).take n) co = none := by
  have e : (os.drop i).take n = (os.drop i).take (j + 1) ++ ((os.drop i).take n).drop (j + 1) := by
    have := List.take_append_drop (j + 1) ((os.drop i).take n)
    rw [List.take_take, Nat.min_eq_left (by omega)] at this
    exact this.symm
  rw [e]
  refine foldC_none_more ?_
  rw [take_drop_snoc ho, foldC_snoc, hP]; simp [h]
theorem and192 : ∀ o : Fin 256, (Builtin.bitAnd (o.val : Int) 192 = 128 ↔ 128 ≤ (o.val : Int) ∧ (o.val : Int) < 192) := by decide +kernel
theorem and192' {o : Int} (h0 : 0 ≤ o) (h1 : o < 256) : Builtin.bitAnd o 192 = 128 ↔ 128 ≤ o ∧ o < 192 := by
  have := and192 ⟨o.toNat, by omega⟩
  have e : ((o.toNat : Nat) : Int) = o := by omega
  simpa only [e] using this
end Mine
namespace Mine
theorem or_split {x b : Int} (i : Nat) (hx : 0 ≤ x) (hd : (2 ^ i : Int) ∣ x) (hb : 0 ≤ b) (hlt : b < 2 ^ i) : Builtin.bitOr x b = x + b := by
  obtain ⟨a, rfl⟩ := hd
  have hp : (0 : Int) < 2 ^ i := by
    have : (0 : Nat) < 2 ^ i := Nat.two_pow_pos i
    exact_mod_cast this
  have ha : 0 ≤ a := by
    by_cases h : a < 0
    · have := Int.mul_neg_of_pos_of_neg hp h; omega
    · omega
  obtain ⟨a', rfl⟩ := Int.eq_ofNat_of_zero_le ha
  obtain ⟨b', rfl⟩ := Int.eq_ofNat_of_zero_le hb
  have hb' : b' < 2 ^ i := by exact_mod_cast hlt
  rw [bitOr_and, bitAnd_pp hx hb]
  have e : ((2 : Int) ^ i * (a' : Int)).toNat = 2 ^ i * a' := by
    rw [show ((2 : Int) ^ i * (a' : Int)) = ((2 ^ i * a' : Nat) : Int) by push_cast; rfl]
    exact Int.toNat_natCast _
  rw [e, Int.toNat_natCast]
  have h1 := nat_or_add_and (2 ^ i * a') b'
  have h2 := Nat.two_pow_add_eq_or_of_lt hb' a'
  have h3 : (2 ^ i * a' &&& b') = 0 := by omega
  rw [h3]; simp
theorem or_low {c o : Int} (hc : 0 ≤ c) : Builtin.bitOr (c * 2 ^ Int.toNat 6) (Builtin.bitAnd o 63) = 64 * c + o % 64 := by
  rw [bitAnd_m6, or_split 6 (by show (0 : Int) ≤ c * 64; omega) ⟨c, by show c * 64 = 64 * c; omega⟩ (by omega) (by show o % 64 < 64; omega)]
  show c * 64 + o % 64 = _
  omega
end Mine
namespace Mine
def readF (os : List Int) (i : Nat) : Option (Int × Nat) :=
  match os[i]? with
  | none => none
  | some o => match leadF o with
    | none => none
    | some (fo, co, le) => (codeF os (i + 1) fo co le).map fun c => (c, fo.toNat)
def decAt (os : List Int) (i : Nat) : List Int :=
  if _h : i < os.length then
    match readF os i with
    | none => 65533 :: decAt os (i + 1)
    | some (c, k) => c :: decAt os (i + 1 + k)
  else []
termination_by os.length - i
theorem decAt_end {os : List Int} {i : Nat} (h : ¬ i < os.length) : decAt os i = [] := by rw [decAt, dif_neg h]
theorem decAt_bad {os : List Int} {i : Nat} (h : i < os.length) (e : readF os i = none) : decAt os i = 65533 :: decAt os (i + 1) := by rw [decAt, dif_pos h, e]
theorem decAt_good {os : List Int} {i : Nat} {c : Int} {k : Nat} (h : i < os.length) (e : readF os i = some (c, k)) : decAt os i = c :: decAt os (i + 1 + k) := by rw [decAt, dif_pos h, e]
theorem codeF_range {os : List Int} {i : Nat} {fo co le c : Int} (h : codeF os i fo co le = some c) (hl : 0 ≤ le) : 0 ≤ c ∧ c ≤ 1114111 := by
  unfold codeF at h
  split at h
  · cases h
  · cases q : foldC ((os.drop i).take fo.toNat) co with
    | none => rw [q] at h; cases h
    | some d =>
      rw [q] at h
      simp only [Option.bind_some] at h
      split at h
      · cases h
      · cases h; omega
theorem leadF_facts {o fo co le : Int} (h0 : 0 ≤ o) (h : leadF o = some (fo, co, le)) : 0 ≤ fo ∧ fo ≤ 3 ∧ 0 ≤ co ∧ co < 128 ∧ 0 ≤ le ∧ le ≤ 65536 := by
  unfold leadF at h
  (repeat' split at h) <;> first | (cases h; done) | (cases h; omega)
end Mine
namespace Mine
end Mine
namespace Mine
def encF (c : Int) : List Int :=
  if c < 128 then [c]
  else if c < 2048 then [192 + c / 64, 128 + c % 64]
  else if c < 65536 then [224 + c / 4096, 128 + c / 64 % 64, 128 + c % 64]
  else [240 + c / 262144, 128 + c / 4096 % 64, 128 + c / 64 % 64, 128 + c % 64]
end Mine
end
section
open PySem PySem.W PySem.Spec PySem.Calls PyProof.Rows
open PySem.Sem (wp)
namespace Mine
namespace FB
theorem mro_ba : mroOf (.type "bytearray") = pure [.type "bytearray", .type "object"] := by rw [mroOf_type]; kernel_rfl
theorem lookup_ba_new : typeLookup (.type "bytearray") "__new__" = pure (some (.builtin "bytearray.__new__")) := by rw [typeLookup_type, builtinLookup_eq_fast]; kernel_rfl
theorem slot_ba_init : Slot "bytearray" "__init__" "bytearray.__init__" :=
  .of (owner := "bytearray") (n := "__init__") (by rw [typeLookup_type, builtinLookup_eq_fast]; kernel_rfl) (by decide +kernel) (by decide +kernel) (by decide +kernel)
    (by first | exact .inl (by decide +kernel) | exact .inr (by decide +kernel)) (by rw [isSubtype_type]; kernel_rfl)
theorem entry_ba_init : entryFor table "bytearray.__init__" = some Builtin.«bytearray.__init__» := entryFor_of_tree (by kernel_rfl)
theorem called_ba : TypeCalled "bytearray" "bytearray.__new__" "bytearray.__init__" :=
  ⟨by decide +kernel, by decide +kernel, ⟨_, _, mro_ba⟩, madeBy_type mro_ba lookup_ba_new (by decide +kernel), by decide +kernel, by rw [isSubtype_type]; kernel_rfl, slot_ba_init⟩
theorem typeCall_ba : checkTypeCall "bytearray" ⟨[], []⟩ = pure () := by kernel_rfl
theorem newCall_ba : checkBuiltinCall "bytearray.__new__" ⟨[.type "bytearray"], []⟩ = pure () := by kernel_rfl
theorem entry_ba_new : entryFor table "bytearray.__new__" = some Builtin.«list.__new__» := entryFor_alias (id' := "list.__new__") (by kernel_rfl) (by kernel_rfl) (by kernel_rfl) (by kernel_rfl)
theorem plain_ba_new : plainId "bytearray.__new__" = true := by decide +kernel
theorem entry_ba_append : entryFor table "bytearray.append" = some Builtin.«bytearray.append» := entryFor_of_tree (by kernel_rfl)
end FB
set_option maxRecDepth 1000000 in
set_option maxHeartbeats 4000000 in
theorem owner_ba_new : ("bytearray.__new__".splitOn ".__new__").headD "" = "bytearray" := by simp +decide [String.splitOn, String.splitOnAux]
section
variable {prog : Program} {w : World} {A : Around} {E : Value → Shared → Prop} {s : Shared}
theorem sub_ba_self : isSubtype (.type "bytearray") (.type "bytearray") = pure true := by rw [isSubtype_type]; kernel_rfl
theorem code_ba_new {Q₁ : Value → Shared → Prop} (h : Q₁ (.ref s.heap.objs.size) { s with heap := s.heap.push { cls := .type "bytearray", data := .bytearray #[] } }) :
    codeAny (model prog w) A (.call (.builtin "bytearray.__new__") ⟨[.type "bytearray"], []⟩) (wants Q₁ E) s := by
  refine codeAny_of_tree ?_
  show wpAny _ A.in1 (do checkBuiltinCall "bytearray.__new__" ⟨[.type "bytearray"], []⟩; again (.builtin "bytearray.__new__" ⟨[.type "bytearray"], []⟩)) _ _ s
  refine wpAny_bind (wpAny_of_eq FB.newCall_ba (wpAny_pure ⟨plainId_quiet FB.plain_ba_new _, codeAny_builtin_stack FB.entry_ba_new rfl fun p st => ?_⟩))
  rw [Around.under_plainId FB.plain_ba_new _]
  have hsub := sub_ba_self
  have hown := owner_ba_new
  obtain ⟨hp, g, d, tk, os⟩ := s
  simp only [hown]
  wp_walk
  exact h
end
end Mine
end
section
open PySem PySem.W PySem.Spec PySem.Calls PyProof.Rows
open PySem.Sem (wp)
namespace Mine
section
variable {prog : Program} {w : World} {A : Around} {s : Shared} {α : Type}
theorem wpI_ite_false {M : Model} {c : Prop} [Decidable c] {a b : Sem α} {Q : α → Shared → Prop} (hc : ¬ c) (h : wpI M A b Q s) : wpI M A (if c then a else b) Q s := by rw [if_neg hc]; exact h
theorem wpI_ite_true {M : Model} {c : Prop} [Decidable c] {a b : Sem α} {Q : α → Shared → Prop} (hc : c) (h : wpI M A a Q s) : wpI M A (if c then a else b) Q s := by rw [if_pos hc]; exact h
theorem cdI_builtin {id : String} {args : Args} {b : Builtin} {Q : Flow → Shared → Prop} (hn : ndB (.builtin id args) = true) (hb : entryFor table id = some b)
    (h : wpI (model prog w) (A.under (.builtin id args)) (b args) (fun fin s' => match fin with | .done f => Q f s' | .again c' => c'.quiet = true ∧ cdI (model prog w) A c' Q s') s) :
    cdI (model prog w) A (.builtin id args) Q s := by
  refine cdI_of_tree hn ?_
  show wpI _ _ (match entryFor table id with | some b => b args | none => unsupported ((withoutEnding? id "#data").getD id)) _ s
  rw [hb]; exact h
theorem cdI_call_builtin {id : String} {args : Args} {b : Builtin} {Q : Flow → Shared → Prop} (hn : ndB (.builtin id args) = true) (hq : plainId id = true) (hb : entryFor table id = some b)
    (h : wpAny (model prog w) A.in1 (checkBuiltinCall id args) (fun _ s₁ => wpI (model prog w) A.in1 (b args)
      (fun fin s' => match fin with | .done f => Q f s' | .again c' => c'.quiet = true ∧ cdI (model prog w) A c' Q s') s₁) noE s) : cdI (model prog w) A (.call (.builtin id) args) Q s := by
  refine cdI_of_tree rfl ?_
  show wpI _ A.in1 (do checkBuiltinCall id args; again (.builtin id args)) _ s
  refine wpI_seq (wpAny_mono h (fun _ s₁ h₁ => wpI_pure ⟨plainId_quiet hq args, cdI_builtin hn hb ?_⟩) fun _ _ x => x)
  rw [Around.under_plainId hq args]; exact h₁
/-- nothing on a clean stack holds the bytes -/
theorem exported_clean {M : Model} {a : Addr} {Q : Bool → Shared → Prop} (h : Q false s) : wpI M A (Builtin.Bytes.exported (.ref a)) Q s := fun Γ p hΓ hn hc => by
  show Q (((Γ.code, p) :: Γ.below).any _) s
  have hall : ∀ q ∈ ((Γ.code, p) :: Γ.below), ndB q.1 = true := by
    intro q hq
    rcases List.mem_cons.mp hq with rfl | hq
    · exact hn
    · exact hc q hq
  rw [List.any_eq_false.mpr]
  · exact h
  · rintro ⟨c, p'⟩ hq
    have hb := hall _ hq
    split <;> simp_all [ndB, heldIds]
end
end Mine
end
section
open PySem PySem.W PySem.Spec PySem.Calls PyProof.Rows
open PySem.Sem (wp)
namespace Mine
abbrev baO (b : Array UInt8) : Obj := { cls := .type "bytearray", data := .bytearray b 0 }
namespace FB
theorem slot_ba_append : Slot "bytearray" "append" "bytearray.append" :=
  .of (owner := "bytearray") (n := "append") (by rw [typeLookup_type, builtinLookup_eq_fast]; kernel_rfl) (by decide +kernel) (by decide +kernel) (by decide +kernel)
    (by first | exact .inl (by decide +kernel) | exact .inr (by decide +kernel)) (by rw [isSubtype_type]; kernel_rfl)
theorem args_ba_append (a b : Value) : argsOk "bytearray.append" ⟨[a, b], []⟩ := by first | rfl | kernel_rfl
end FB
section
variable {prog : Program} {w : World} {A : Around} {s : Shared} {E : Value → Shared → Prop}
theorem nd_id {id : String} {args : Args} (h : heldIds.contains id = false) : ndB (.builtin id args) = true := by show (!heldIds.contains id) = true; rw [h]; rfl
theorem write_ba {a : Addr} {b : Array UInt8} {f : Array UInt8 → Array UInt8} {Q : Unit → Shared → Prop} (ho : s.heap.get? a = some (baO b)) (hsz : (f b).size ≤ sizeLine)
    (h : ∀ h', Heap.SameBut a s.heap h' → h'.get? a = some (baO (f b)) → Q () { s with heap := h' }) : wpAny (model prog w) A (updateBytearray a f) Q E s := by
  unfold updateBytearray
  refine wpAny_bind (wpAny_load ho ?_)
  dsimp only
  refine wpAny_bind (wpAny_update ho ?_)
  have hg : (s.heap.update a (Obj.mapBytearray f)).get? a = some (baO (f b)) := Heap.get?_update_self _ ho rfl
  refine wpAny_lookBehind hg ?_ (h _ (Heap.SameBut.update ..) hg)
  show (if (f b).size > sizeLine then some "bytearray:memory" else none) = none
  rw [if_neg (by omega)]
theorem resize_ba {a : Addr} {b : Array UInt8} {Q : Unit → Shared → Prop} (ho : s.heap.get? a = some (baO b)) (h : Q () s) : wpI (model prog w) A (Builtin.Bytes.checkResize (.ref a)) Q s := by
  unfold Builtin.Bytes.checkResize
  refine wpI_bind (m := _ <||> _) (wpI_bind (m := Builtin.Bytes.exported _) (exported_clean ?_))
  show wpI _ _ (do return decide ((← Builtin.Bytes.exportsOf (.ref a)) > 0)) _ _
  refine wpI_seq (m := Builtin.Bytes.exportsOf _) (wpAny_bind (wpAny_load ho (wpAny_pure ?_)))
  exact wpI_pure (wpI_ite_false (by decide) (wpI_pure h))
theorem append_ba {a : Addr} {b : Array UInt8} {n : Int} {t : Tok} {Q : Value → Shared → Prop} (ho : s.heap.get? a = some (baO b)) (h0 : 0 ≤ n) (h1 : n < 256) (hsz : b.size < 1000)
    (h : ∀ h', Heap.SameBut a s.heap h' → h'.get? a = some (baO (b.push n.toNat.toUInt8)) → Q .none { s with heap := h' }) : wpI (model prog w) A (call (.builtin "bytearray.append") [.ref a, .int n t]) Q s := by
  refine wpI_call (cdI_call_builtin (nd_id (by decide +kernel)) FB.slot_ba_append.plain FB.entry_ba_append (FB.slot_ba_append.check _ _ _ _ _ _ _ _ ⟨_, ho, rfl⟩ (FB.args_ba_append _ _) ?_))
  unfold Builtin.«bytearray.append»
  refine wpI_seq (wpAny_pure ?_)
  dsimp only
  refine wpI_seq (m := Builtin.Bytes.byteValue _) ?_
  · unfold Builtin.Bytes.byteValue
    refine wpAny_bind (wpAny_pure ?_)
    show wpAny _ _ (if (decide (n < 0) || decide (n ≥ 256)) = true then _ else _) _ _ _
    rw [if_neg (by simp; omega)]
    refine wpAny_pure ?_
    refine wpI_bind (m := Builtin.Bytes.checkResize _) (resize_ba ho ?_)
    refine wpI_seq (m := Builtin.Bytes.write _ _) (write_ba ho (by rw [Array.size_push, sizeLine_eq]; omega) fun h' hs hg => ?_)
    exact wpI_pure (h h' hs hg)
end
end Mine
end
section
open PySem PySem.W PySem.Spec PySem.Calls PyProof.Rows
open PySem.Sem (wp)
namespace Mine
section
variable {prog : Program} {w : World} {A : Around} {s : Shared} {E : Value → Shared → Prop}
theorem ownRel_ba {a : Addr} {Q : Bool → Shared → Prop} (hT : s.TypeIs (.ref a) "bytearray") (h : Q false s) : wpAny (model prog w) A (Builtin.Bytes.ownRelease (.ref a)) Q E s := by
  unfold Builtin.Bytes.ownRelease Builtin.Bytes.slotIsOwn
  have hl : typeLookup (.type "bytearray") "__release_buffer__" = pure (some (.builtin "bytearray.__release_buffer__")) := by rw [typeLookup_type, builtinLookup_eq_fast]; kernel_rfl
  refine wpAny_bind (wpAny_bind (wpAny_specialOf hT hl ?_))
  dsimp only
  rw [if_neg (by decide +kernel)]
  have key : ∀ x : String, x = "bytearray" → wpAny (model prog w) A (isInstance (.ref a) (.type x)) (fun a s' => wpAny (model prog w) A (pure !a) Q E s') E s := fun x hx => by
    subst hx; exact wpAny_isInstance hT sub_ba_self (wpAny_pure h)
  exact key _ (by decide +kernel)
theorem bind_ba : Builtin.Bytes.bindOptional "bytearray.__init__" "bytearray" ["source", "encoding", "errors"] [] [] = pure [none, none, none] := by kernel_rfl
theorem new_ba {Q : Value → Shared → Prop} (h : ∀ h', h'.get? s.heap.objs.size = some (baO #[]) → (∀ b o, s.heap.get? b = some o → h'.get? b = some o) → Q (.ref s.heap.objs.size) { s with heap := h' }) :
    wpI (model prog w) A (call (.type "bytearray") []) Q s := by
  obtain ⟨c, tl, hmro⟩ := FB.called_ba.mro
  have hmade := FB.called_ba.made
  have hsub := FB.called_ba.sub
  refine wpI_call (cdI_of_tree rfl ?_)
  show wpI _ _ (callAny (.type "bytearray") _) _ _
  refine wpI_pure ⟨Code.quiet_builtin _ (by decide +kernel), cdI_builtin (nd_id (by decide +kernel)) F.entry_type_call ?_⟩
  rw [Around.under_plain (weight_type_call_type "bytearray" [] []) rfl]
  have h1 := FB.called_ba.notType
  have h2 := FB.called_ba.canCreate
  have hct := FB.typeCall_ba
  unfold Builtin.«type.__call__»
  dsimp only
  rw [h1]
  refine wpI_ite_false (by decide) ?_
  refine wpI_ite_false (by rw [h2]; decide) ?_
  refine wpI_seq (wpAny_of_eq hct ?_)
  refine wpI_seq (wpAny_of_eq hmro ?_)
  refine wpI_ite_false (by simp) ?_
  refine wpI_seq (wpAny_of_eq hmade ?_)
  refine wpI_seq (wpAny_pure ?_)
  refine wpI_seq (wpAny_holding (wpAny_call (codeAny_mono (code_ba_new (E := noE) (Q₁ := fun obj s₁ => obj = .ref s.heap.objs.size ∧ s₁ = { s with heap := s.heap.push (baO #[]) }) ⟨rfl, rfl⟩) fun r s₁ hr => ?_)))
  cases r with
  | error e => exact hr
  | ok fl =>
    cases fl with
    | ret obj =>
      obtain ⟨rfl, rfl⟩ := hr
      dsimp only
      have hS : (s.heap.push (baO #[])).get? s.heap.objs.size = some (baO #[]) := Heap.get?_push_size _ rfl
      have hT : Shared.TypeIs { s with heap := s.heap.push (baO #[]) } (.ref s.heap.objs.size) "bytearray" := ⟨_, hS, rfl⟩
      refine wpI_seq (wpAny_isInstance hT sub_ba_self ?_)
      refine wpI_ite_false (by decide) ?_
      refine wpI_bind (m := holding _ _) (wpI_holding ?_)
      unfold callSpecial?
      refine wpI_seq (wpAny_specialOf hT FB.called_ba.init.lookup ?_)
      dsimp only
      refine wpI_holding ?_
      refine wpI_seq (wpAny_of_eq (FB.called_ba.init.bind _) ?_)
      dsimp only
      refine wpI_bind (m := call _ _ _) (wpI_call (cdI_call_builtin (nd_id (by decide +kernel)) FB.called_ba.init.plain FB.entry_ba_init (FB.called_ba.init.check _ _ _ _ _ _ _ _ hT (by first | rfl | kernel_rfl) ?_)))
      unfold Builtin.«bytearray.__init__»
      dsimp only [List.append_nil, List.cons_append, List.nil_append]
      refine wpI_seq (m := Builtin.Bytes.ownRelease _) (ownRel_ba hT ?_)
      refine wpI_ite_false (by decide) ?_
      refine wpI_seq (wpAny_of_eq bind_ba ?_)
      dsimp only
      refine wpI_seq (m := Builtin.Bytes.checkCodecArg _ _ _ _) (wpAny_pure ?_)
      refine wpI_seq (m := Builtin.Bytes.checkCodecArg _ _ _ _) (wpAny_pure ?_)
      refine wpI_bind (m := _ <||> _) (wpI_bind (m := Builtin.Bytes.exported _) (exported_clean ?_))
      show wpI _ _ (do return decide ((← Builtin.Bytes.exportsOf (.ref s.heap.objs.size)) > 0)) _ _
      refine wpI_seq (m := Builtin.Bytes.exportsOf _) (wpAny_bind (wpAny_load hS (wpAny_pure ?_)))
      refine wpI_pure (wpI_ite_false (by decide) ?_)
      refine wpI_seq (m := Builtin.Bytes.write _ _) (write_ba hS (by rw [sizeLine_eq]; decide) fun h' hs hg => ?_)
      dsimp only
      refine wpI_bind (m := ite _ _ _) (wpI_ite_false (by decide) (wpI_ite_false (by decide) (wpI_pure ?_)))
      refine wpI_pure ?_
      dsimp only
      refine wpI_pure ?_
      dsimp only
      refine wpI_ite_false (by decide) ?_
      refine wpI_pure ?_
      exact h h' hg fun b o e => hs.extBut b o (Nat.ne_of_lt (Heap.lt_size e)) (Heap.get?_push_of_some _ e)
    | _ => exact hr.elim
end
end Mine
end
section
open PySem PySem.W PySem.Spec PySem.Calls PyProof.Rows
open PySem.Sem (wp)
namespace Mine
namespace FB
theorem plainAttrs_ba : PlainAttrs "bytearray" :=
  ⟨⟨"bytearray.__getattribute__", by rw [typeLookup_type, builtinLookup_eq_fast]; kernel_rfl, by decide +kernel⟩, by rw [typeLookup_type, builtinLookup_eq_fast]; kernel_rfl⟩
theorem type_ba_append : typeOf (.builtin "bytearray.append") = pure (.type "method_descriptor") := by show builtinType _ = _; rw [builtinType_eq_fast]; kernel_rfl
end FB
section
variable {M : Model} {prog : Program} {w : World} {A : Around} {s : Shared} {env : Env} {pos : Pos} {first : List Value} {Q : Value → Shared → Prop}
theorem callWith_builtin_I {id : String} {args : List (Bool × Sem Value)} (hplain : args.any (·.1) = false)
    (h : wpI M A (evalArgs (.builtin id) true args []) (fun a s₁ => wpI M A (call (.builtin id) (first ++ a.pos) a.kw) Q s₁) s) :
    wpI M A (callWith pos (.builtin id) first args []) Q s := by
  unfold callWith
  refine wpI_bind (wpI_holding (wpI_mono h (fun a s₁ h₁ => wpI_seq (wpAny_standAt ?_))))
  simp only [hplain, List.any_nil, Bool.or_false]
  refine wpI_seq (wpAny_pure ?_)
  exact wpI_bind (wpI_mono h₁ (fun r s₂ hr => wpI_seq (m := holding [r] point) (wpAny_holding (wpAny_point (wpI_pure hr)))))
theorem callWith_type_I {T : String} {args : List (Bool × Sem Value)} (hplain : args.any (·.1) = false)
    (h : wpI M A (evalArgs (.type T) true args []) (fun a s₁ => wpI M A (call (.type T) (first ++ a.pos) a.kw) Q s₁) s) :
    wpI M A (callWith pos (.type T) first args []) Q s := by
  unfold callWith
  refine wpI_bind (wpI_holding (wpI_mono h (fun a s₁ h₁ => wpI_seq (wpAny_standAt ?_))))
  simp only [hplain, List.any_nil, Bool.or_false]
  refine wpI_seq (wpAny_pure ?_)
  exact wpI_bind (wpI_mono h₁ (fun r s₂ hr => wpI_seq (m := holding [r] point) (wpAny_holding (wpAny_point (wpI_pure hr)))))
theorem evalArgs_nil_I {f : Value} {Q : Args → Shared → Prop} (h : Q ⟨[], []⟩ s) : wpI M A (evalArgs f true [] []) Q s :=
  wpI_of (PySem.evalArgs_none h)
/-- one argument, itself walked in the clean logic -/
theorem evalArgs_one_I {f : Value} {x : Sem Value} {Q : Args → Shared → Prop} (h : wpI M A x (fun v s' => Q ⟨[v], []⟩ s') s) : wpI M A (evalArgs f true [(false, x)] []) Q s := by
  unfold evalArgs
  show wpI M A (spliced [(false, x)] >>= _) Q s
  refine wpI_bind ?_
  rw [spliced]
  refine wpI_bind (wpI_mono h (fun v s' h' => ?_))
  simp only [Bool.false_eq_true, if_false]
  refine wpI_seq (wpAny_pure (wpI_seq (m := holding _ _) (wpAny_holding ?_)))
  refine Calls.spliced_nil ?_
  refine wpI_pure ?_
  refine wpI_holding ?_
  exact wpI_seq (wpAny_pure (wpI_seq (wpAny_pure (wpI_pure h'))))
theorem callWith_K_I {K : Frag} {f : Value} {e : Expr} (hk : keepIn K f = true)
    (h : wpI M A (eval e env) (fun v s₁ => K.In s₁.heap ∧ wpI M A (call f (first ++ [v])) Q s₁) s)
    (he : backTo pos (starEach [e] env) = [(false, eval e env)] := by rfl) :
    wpI M A (callWith pos f first (backTo pos (starEach [e] env)) []) Q s := by
  rw [he]
  unfold callWith
  refine wpI_bind (wpI_holding (evalArgs_one_I (wpI_mono h (fun v s₁ h₁ => wpI_seq (wpAny_standAt ?_)))))
  obtain ⟨k, hk', L⟩ := keeps_K (M := M) hk _ h₁.1
  simp only [List.any_cons, List.any_nil, Bool.or_false]
  refine wpI_seq (L.here ?_)
  have tail : ∀ {t : Sem Value}, wpI M A t Q s₁ → wpI M A (t >>= fun r => holding [r] point >>= fun _ => pure r) Q s₁ :=
    fun ht => wpI_bind (wpI_mono ht (fun r s₂ hr => wpI_seq (m := holding [r] point) (wpAny_holding (wpAny_point (wpI_pure hr)))))
  have marked (mk : Value) : wpI M A (callMarked mk f (first ++ [v]) []) Q s₁ := by unfold callMarked; exact wpI_keep h₁.2
  rcases hk' with rfl | rfl | rfl <;> dsimp only <;> first | exact tail h₁.2 | (split <;> first | exact tail h₁.2 | exact tail (marked _))
theorem wpI_Call_Name {id : Str} {p : Pos} {args : List Expr}
    (h : wpAny M A (eval (.Name id p) env) (fun f s₁ => wpI M A (callWith pos f [] (backTo pos (starEach args env)) []) Q s₁) noE s) :
    wpI M A (eval (.Call (.Name id p) args [] pos) env) Q s := by
  rw [arm_eval_Call_Name']
  exact wpI_seq h
end
section
variable {prog : Program} {w : World} {A : Around} {s : Shared} {env : Env}
theorem wpI_Expr {e : Expr} {pos : Pos} {Q : Flow → Shared → Prop} (h : wpI (model prog w) A (eval e env) (fun _ => Q .next) s)
    (hi : interactive env = false := by rfl) (hs : swapsWith e none pos.line env = pure false := by rfl) :
    wpI (model prog w) A (exec (.Expr e pos) env) Q s := by
  rw [exec_Expr env e pos hi hs]
  exact wpI_seq (wpAny_standAt (wpI_bind (wpI_mono h (fun v s' h' => wpI_of (wpAny_dropValue h')))))
theorem wpI_Assign_Name {x : Str} {pos' pos : Pos} {value : Expr} {Q : Flow → Shared → Prop}
    (h : wpI (model prog w) A (eval value env) (fun v s₁ => wpAny (model prog w) A (storeName env x v) (fun _ s₂ => Q .next s₂) noE s₁) s)
    (hs : swapsWith value (some (.Name x pos')) pos.line env = pure false := by rfl) :
    wpI (model prog w) A (exec (.Assign [.Name x pos'] value pos) env) Q s := by
  rw [exec_Assign_Name env x pos' value pos hs]
  refine wpI_seq (wpAny_standAt (wpI_bind (wpI_mono h (fun v s₁ h₁ => ?_))))
  refine wpI_seq (wpAny_standAt fun Γ p hΓ hn hc => ?_)
  simp only [Sem.wp_bind', Sem.wp_bindName, Sem.wp_pure']
  exact h₁ Γ _ hΓ
def AppAt (prog : Program) (w : World) (A : Around) (env : Env) (e : Expr) (Q : Value → Shared → Prop) (ov : Value) (s₁ : Shared) : Prop :=
  ∃ a b, ov = .ref a ∧ s₁.heap.get? a = some (baO b) ∧ wpAny (model prog w) A (eval e env) (fun v s₂ => wpI (model prog w) A (call (.builtin "bytearray.append") [.ref a, v]) Q s₂) noE s₁
/-- o.append(e): e plain, the rest clean -/
theorem Call_append_I {o e : Expr} {apos pos : Pos} {Q : Value → Shared → Prop}
    (hbase : attributeBase o "append" env (eval o env) = eval o env)
    (hline : (apos.endLine == pos.line) = true)
    (h : wpAny (model prog w) A (eval o env) (AppAt prog w A env e Q) noE s)
    (he : backTo pos (starEach [e] env) = [(false, eval e env)] := by rfl) :
    wpI (model prog w) A (eval (.Call (.Attribute o "append" apos) [e] [] pos) env) Q s := by
  rw [arm_eval_Call, hbase]
  refine wpI_seq (wpAny_mono h (fun ov s₁ h₁ => ?_) fun _ _ e => e)
  obtain ⟨a, b, rfl, hg, hc'⟩ := h₁
  refine wpI_seq (wpAny_standAt ?_)
  rw [he]
  have hform : methodCallForm ([e].length + ([] : List Keyword).length) [(false, eval e env)] (backToKw pos (keywordEach [] env)) = true := rfl
  have hpos : methodCallPos true o env apos pos = pure pos := by unfold methodCallPos; simp [hline]
  unfold methodCall
  rw [hform]
  refine wpI_seq (wpAny_holding (getMethod_builtin ⟨_, hg, rfl⟩ FB.plainAttrs_ba FB.slot_ba_append FB.type_ba_append (fun b e => by cases e; exact ⟨_, hg, rfl⟩) ?_))
  refine wpI_seq (wpAny_of_eq hpos ?_)
  exact callWith_builtin_I (args := [(false, eval e env)]) rfl (evalArgs_one_I (wpI_of hc'))
end
end Mine
end
section
open PySem PySem.W PySem.Spec PySem.Calls PyProof.Rows PyProof.V
open PySem.Sem (wp)
namespace Mine
section
variable {prog : Program} {w : World} {A : Around} {s : Shared} {env : Env} {h₀ : Heap} {x : Str} {px : Pos} {body : List Stmt} {Q : Flow → Shared → Prop}
theorem forLoop_I {I : Addr} {fp wr : List Addr} {n : Nat} {P : Nat → Value → Prop} {St : Nat → Heap → Prop} {m₀ : Str → Option Value} {news : List (Addr × Obj)} (J : Nat → (Str → Option Value) → List (Addr × Obj) → Prop)
    (hx : env.kindOf x = some .local) (hp : (env.scope.kind == .class || (env.scope.kind == .module && env.locals != env.globals)) = false)
    (W : Walks prog w A I fp wr n P St) (hLf : env.locals ∉ fp) (hwr : ∀ b ∈ wr, h₀.get? b = none) (hnw : ∀ p ∈ news, p.1 ∉ wr) (hfp : ∀ q ∈ news, q.1 ∉ fp) (hst : St 0 s.heap) (F : Fr h₀ env.locals s.heap m₀) (N : News h₀ env.locals s.heap news) (hj : J 0 m₀ news)
    (turn : ∀ i v m₁ news₁ h tk own, i < n → P i v → news₁.map (·.1) = news.map (·.1) → OwnOff own (news.map (·.1)) → J i m₁ news₁ → Fr h₀ env.locals h (fun y => if y = x then some v else m₁ y) → News h₀ env.locals h (news₁ ++ own) →
      wpI (model prog w) A (execs body env) (InvPostN h₀ env.locals (J (i + 1)) own (news.map (·.1)) { s with heap := h, toks := tk } Q) { s with heap := h, toks := tk })
    (done : ∀ m₁ news₁ h tk, J n m₁ news₁ → Fr h₀ env.locals h m₁ → News h₀ env.locals h news₁ → Q .next { s with heap := h, toks := tk }) :
    cdI (model prog w) A (.forLoop (.Name x px) (.ref I) body [] env) Q s := by
  have hLw : env.locals ∉ wr := fun h => hLf (W.sub _ h)
  have old : ∀ b o, h₀.get? b = some o → b ∉ wr := fun b o e hb => by rw [hwr b hb] at e; cases e
  have offwr : ∀ news' : List (Addr × Obj), news'.map (·.1) = news.map (·.1) → ∀ p ∈ news', p.1 ∉ wr := fun news' e => off_of_same_addrs e hnw
  have offfp : ∀ news' : List (Addr × Obj), news'.map (·.1) = news.map (·.1) → ∀ p ∈ news', p.1 ∉ fp := fun news' e => off_of_same_addrs e hfp
  refine wpI_forLoop
    (fun k s' => ∃ h' tk m' news' i, s' = { s with heap := h', toks := tk } ∧ St i h' ∧ Fr h₀ env.locals h' m' ∧ News h₀ env.locals h' news' ∧ news'.map (·.1) = news.map (·.1) ∧ J i m' news' ∧ i ≤ n ∧ k = n + 1 - i) ?_ (n + 1)
    ⟨s.heap, s.toks, m₀, news, 0, rfl, hst, F, N, rfl, hj, Nat.zero_le _, rfl⟩
  rintro k s' ⟨h', tk, m', news', i, rfl, hst', F', N', hadr, hJ, hi, rfl⟩
  have hnw' := offwr _ hadr
  have next : ∀ h₁ : Heap, (∀ b o, b ∉ wr → h'.get? b = some o → h₁.get? b = some o) → Fr h₀ env.locals h₁ m' ∧ News h₀ env.locals h₁ news' := fun h₁ hk₁ =>
    ⟨⟨F'.ns.at' fun o e => hk₁ _ o hLw e, fun b o e => hk₁ b o (old b o e) (F'.keep b o e), F'.above⟩, fun p hp => ⟨hk₁ _ _ (hnw' p hp) (N' p hp).1, (N' p hp).2⟩⟩
  by_cases hlt : i < n
  · refine W.item i _ _ _ hlt hst' fun v h₁ tk₁ hP hst₁ hk₁ => ?_
    obtain ⟨F₁, N₁⟩ := next h₁ hk₁
    refine wpAny_assign_Name (wpAny_storeName_local hx F₁.ns (fun h₂ hn₂ hs₂ => ?_) hp)
    have F₂ := F₁.set hn₂ hs₂
    have Nown : News h₀ env.locals h₂ (ownOf h₀ fp h₂) := news_ownOf hLf
    have hsep : OwnOff (ownOf h₀ fp h₂) (news.map (·.1)) := by
      intro p hp b hb e
      obtain ⟨q, hq, rfl⟩ := List.mem_map.mp hb
      exact hfp q hq (e ▸ ownOf_sub p hp)
    refine wpI_mono (turn i v m' news' h₂ _ (ownOf h₀ fp h₂) hlt hP hadr hsep hJ F₂ ((N₁.set hs₂).append Nown)) (fun f s₃ h₃ => ?_)
    have fin : InvEndN h₀ env.locals (J (i + 1)) (ownOf h₀ fp h₂) (news.map (·.1)) { s with heap := h₂, toks := tk₁ + 1 } s₃ →
        ∃ m, m < n + 1 - i ∧ ∃ h' tk m' news' i, s₃ = { s with heap := h', toks := tk } ∧ St i h' ∧ Fr h₀ env.locals h' m' ∧ News h₀ env.locals h' news' ∧ news'.map (·.1) = news.map (·.1) ∧ J i m' news' ∧ i ≤ n ∧ m = n + 1 - i := by
      rintro ⟨h₃', tk₃, m₂, nall, nx, rfl, F₃, N₃, hn, ho, ha, hm⟩
      refine ⟨n + 1 - (i + 1), by omega, h₃', tk₃, m₂, nx, i + 1, rfl, ?_, F₃, fun p hp => N₃ p (hn p hp), ha, hm, hlt, rfl⟩
      refine W.frame _ _ _ hst₁ fun b hb o e => ?_
      have e₂ : h₂.get? b = some o := (hs₂.2 b fun q => hLf (q ▸ hb)).trans e
      cases hn' : h₀.get? b with
      | some o₀ =>
        have : o₀ = o := by have := F₂.keep b o₀ hn'; rw [e₂] at this; exact (Option.some.inj this).symm
        exact this ▸ F₃.keep b o₀ hn'
      | none => exact (N₃ _ (ho _ (mem_ownOf hb hn' e₂))).1
    cases f with
    | ret v => exact h₃
    | brk => exact h₃
    | cont => exact fin h₃
    | next => exact fin h₃
  · have hin : i = n := by omega
    subst hin
    refine W.done _ _ _ hst' fun h₁ tk₁ hk₁ => ?_
    obtain ⟨F₁, N₁⟩ := next h₁ hk₁
    exact done m' news' h₁ tk₁ hJ F₁ N₁
end
section
variable {prog : Program} {w : World} {A : Around} {s : Shared} {env : Env} {h₀ : Heap} {x : PySem.Str} {px : Pos} {body : List Stmt} {Q : Flow → Shared → Prop}
theorem text_I {σ : Type} {xt : PySem.Str} {tx : Tok} {m₀ : PySem.Str → Option Value} (Led : σ → List (Addr × Obj)) (ps : σ → List (PySem.Str × Value)) (Facts : σ → Prop) (stored : List PySem.Str) (P : List Int → σ → Prop) (c₀ : σ)
    (hx : env.kindOf x = some .local) (hpm : (env.scope.kind == .class || (env.scope.kind == .module && env.locals != env.globals)) = false)
    (hh : A.handled = none) (F : Fr h₀ env.locals s.heap m₀) (N : News h₀ env.locals s.heap (Led c₀)) (hf : Facts c₀) (hk : ∀ p ∈ ps c₀, m₀ p.1 = some p.2) (hp : P [] c₀)
    (turn : ∀ (c : σ) (pre post : List Int) (n : Nat) t (u : PySem.Str → Option Value) h tk own, KStt.codes xt = pre ++ (n : Int) :: post → OwnOff own ((Led c₀).map (·.1)) → Facts c → P pre c →
      Fr h₀ env.locals h (fun y => if y = x then some (.str ⟨#[n]⟩ t) else kstB (fun z => if stored.contains z then u z else m₀ z) (ps c) y) → News h₀ env.locals h (Led c ++ own) →
      wpI (model prog w) A (execs body env) (InvPostN h₀ env.locals (KstS Led ps Facts x stored m₀ P (pre ++ [(n : Int)])) own ((Led c₀).map (·.1)) { s with heap := h, toks := tk } Q) { s with heap := h, toks := tk })
    (done : ∀ (c : σ) (u : PySem.Str → Option Value) h tk, Facts c → P (KStt.codes xt) c → Fr h₀ env.locals h (fun y => if y = x then u y else kstB (fun z => if stored.contains z then u z else m₀ z) (ps c) y) → News h₀ env.locals h (Led c) → Q .next { s with heap := h, toks := tk }) :
    wpAny (model prog w) A (pyIter (.str xt tx)) (fun it s₂ => cdI (model prog w) A (.forLoop (.Name x px) it body [] env) Q s₂) noE s := by
  refine wpAny_pyIter_str fun o St hW hst => ?_
  have W := hW A hh
  refine forLoop_I (fun i m nx => KstS Led ps Facts x stored m₀ P ((KStt.codes xt).take i) m nx) hx hpm W ?_ ?_ ?_ ?_ hst (F.push _) (fun p hp => ⟨Heap.get?_push_of_some _ (N p hp).1, (N p hp).2⟩) ⟨c₀, rfl, hf, hk, fun _ _ _ _ => rfl, by simpa using hp⟩ ?_ ?_
  · intro hm
    exact absurd F.ns.lt ((List.mem_singleton.mp hm) ▸ Nat.lt_irrefl _)
  · intro b' hb
    rw [List.mem_singleton.mp hb]
    exact next_is_new F
  · intro p hp hI
    exact absurd (Heap.lt_size (N p hp).1) ((List.mem_singleton.mp hI) ▸ Nat.lt_irrefl _)
  · intro p hp hI
    exact absurd (Heap.lt_size (N p hp).1) ((List.mem_singleton.mp hI) ▸ Nat.lt_irrefl _)
  · rintro i v m₁ nx h tk own hi ⟨n, u, hn, rfl⟩ _ hoff ⟨c, rfl, hf', h1, h2, hp'⟩ F₁ N₁
    have hn' := KStt.code_at hn
    have hs : (KStt.codes xt).take (i + 1) = (KStt.codes xt).take i ++ [(n : Int)] := by simp [List.take_add_one, hn']
    have e : KStt.codes xt = (KStt.codes xt).take i ++ (n : Int) :: (KStt.codes xt).drop (i + 1) := by
      have ht := List.take_append_drop (i + 1) (KStt.codes xt)
      rw [hs, List.append_assoc] at ht
      exact ht.symm
    rw [hs]
    exact turn c _ _ n u m₁ h tk own e hoff hf' hp' (kst_fr h1 h2 F₁) N₁
  · rintro m₁ nx h tk ⟨c, rfl, hf', h1, h2, hp'⟩ F₁ N₁
    have hl : xt.cps.size = (KStt.codes xt).length := (KStt.codes_length xt).symm
    rw [hl, List.take_length] at hp'
    exact done c m₁ h tk hf' hp' (kst_frOut h1 h2 F₁) N₁
theorem range_I {σ : Type} {r : Addr} {a₀ b₀ : Int} {t₀ u₀ v₀ : Tok} {n : Nat} {m₀ : Str → Option Value} (Led : σ → List (Addr × Obj)) (ps : σ → List (Str × Value)) (Facts : σ → Prop) (stored : List Str) (P : List Int → σ → Prop) (c₀ : σ)
    (hx : env.kindOf x = some .local) (hpm : (env.scope.kind == .class || (env.scope.kind == .module && env.locals != env.globals)) = false)
    (hh : A.handled = none) (hr : IsRange s.heap r a₀ b₀ 1 t₀ u₀ v₀) (hsmall : Builtin.Range.small a₀ b₀ 1 = true) (hn : Builtin.Range.rangeSize a₀ b₀ 1 = (n : Int)) (F : Fr h₀ env.locals s.heap m₀) (N : News h₀ env.locals s.heap (Led c₀)) (hf : Facts c₀) (hk : ∀ p ∈ ps c₀, m₀ p.1 = some p.2) (hp : P [] c₀)
    (turn : ∀ (c : σ) (pre : List Int) (k : Int) t (u : Str → Option Value) h tk own, k = a₀ + (pre.length : Int) → pre.length < n → OwnOff own ((Led c₀).map (·.1)) → Facts c → P pre c →
      Fr h₀ env.locals h (fun y => if y = x then some (.int k t) else kstB (fun z => if stored.contains z then u z else m₀ z) (ps c) y) → News h₀ env.locals h (Led c ++ own) →
      wpI (model prog w) A (execs body env) (InvPostN h₀ env.locals (KstS Led ps Facts x stored m₀ P (pre ++ [k])) own ((Led c₀).map (·.1)) { s with heap := h, toks := tk } Q) { s with heap := h, toks := tk })
    (done : ∀ (c : σ) (u : Str → Option Value) h tk, Facts c → P (rangeKs a₀ n) c → Fr h₀ env.locals h (fun y => if y = x then u y else kstB (fun z => if stored.contains z then u z else m₀ z) (ps c) y) → News h₀ env.locals h (Led c) → Q .next { s with heap := h, toks := tk }) :
    wpAny (model prog w) A (pyIter (.ref r)) (fun it s₂ => cdI (model prog w) A (.forLoop (.Name x px) it body [] env) Q s₂) noE s := by
  refine wpAny_pyIter_range hr hsmall ?_
  have W : Walks prog w A s.heap.objs.size [s.heap.objs.size] [s.heap.objs.size] n (fun i v => i < n ∧ ∃ t, v = .int (a₀ + i * 1) t)
      (fun i h => IsRangeIter h s.heap.objs.size (a₀ + (i : Nat) * 1) ((n : Int) - (i : Nat)) 1) := (Walks.range hh _ a₀ 1 n).bound
  refine forLoop_I (fun i m nx => KstS Led ps Facts x stored m₀ P ((rangeKs a₀ n).take i) m nx) hx hpm W ?_ ?_ ?_ ?_ (by show IsRangeIter _ _ _ _ _; rw [hn]; simpa using Heap.get?_push_size _ rfl) (F.push _) (fun p hp => ⟨Heap.get?_push_of_some _ (N p hp).1, (N p hp).2⟩) ⟨c₀, rfl, hf, hk, fun _ _ _ _ => rfl, by simpa using hp⟩ ?_ ?_
  · intro hm
    exact absurd F.ns.lt ((List.mem_singleton.mp hm) ▸ Nat.lt_irrefl _)
  · intro b hb
    rw [List.mem_singleton.mp hb]
    exact next_is_new F
  · intro p hp hI
    exact absurd (Heap.lt_size (N p hp).1) ((List.mem_singleton.mp hI) ▸ Nat.lt_irrefl _)
  · intro p hp hI
    exact absurd (Heap.lt_size (N p hp).1) ((List.mem_singleton.mp hI) ▸ Nat.lt_irrefl _)
  · rintro i v m₁ nx h tk own hi ⟨_, t, rfl⟩ _ hoff ⟨c, rfl, hf', h1, h2, hp'⟩ F₁ N₁
    have e1 : a₀ + (i : Int) * 1 = a₀ + (i : Int) := by omega
    rw [e1] at F₁
    have hk' : (rangeKs a₀ n)[i]? = some (a₀ + (i : Int)) := by simp [rangeKs, hi]
    have hs : (rangeKs a₀ n).take (i + 1) = (rangeKs a₀ n).take i ++ [a₀ + (i : Int)] := by simp [List.take_add_one, hk']
    have hlen : ((rangeKs a₀ n).take i).length = i := by rw [List.length_take, rangeKs_length]; omega
    rw [hs]
    exact turn c _ _ t m₁ h tk own (by rw [hlen]) (by rw [hlen]; exact hi) hoff hf' hp' (kst_fr h1 h2 F₁) N₁
  · rintro m₁ nx h tk ⟨c, rfl, hf', h1, h2, hp'⟩ F₁ N₁
    have hl : (rangeKs a₀ n).take n = rangeKs a₀ n := List.take_of_length_le (Nat.le_of_eq (rangeKs_length _ _))
    rw [hl] at hp'
    exact done c m₁ h tk hf' hp' (kst_frOut h1 h2 F₁) N₁
end
end Mine
end
section
open PySem PySem.W PySem.Spec PySem.Calls PyProof.Rows PyProof.V
open PySem.Sem (wp)
namespace Mine
abbrev okR (R : Flow → Shared → Prop) : Result → Shared → Prop := fun r s' => match r with | .ok f => R f s' | .error _ => False
section
variable {prog : Program} {w : World} {A₀ A : Around} {s : Shared} {base h₀ : Heap} {outer : List Env} {L : Addr} {m mg mb : Str → Option Value} {env : Env} {news : List (Addr × Obj)} {K : Frag} {p : Program} {loose : List Str} {mean : ExcName → Option Value}
  {R : Flow → Shared → Prop} {name qual : Str} {params : Arguments} {body : List Stmt} {scope : Scope} {dV kV doc pm cdv ct oc : Value} {an od : Option Addr} {osl : Array (Option Value)} {f : Addr} {args : Args} {binds : List (Str × Value)}
theorem code_defI
    (B : Below A₀ base outer h₀) (F : Fr h₀ L s.heap m) (X₀ : K.In h₀) (N : News h₀ L s.heap news) (T : Top p loose mean mg mb h₀) (hA : A.frames = some (env :: outer)) (hf : env.frame = some L) (hke : env.scope.kind = .function)
    (ho : K.lookup f = some ⟨oc, od, .func (fnOf name qual params body scope dV kV doc pm an cdv ct), osl⟩) (hcd : codeIn K cdv qual = true) (hroom : A.depth < recursionLimit)
    (hbind : BindsTo s (fnOf name qual params body scope dV kV doc pm an cdv ct) args binds) (hloc : ∀ y ∈ binds, scope.names.lookup y.1 = some .local)
    (h : ∀ g L' h₁, Fr h₀ L g m → Fr g L' h₁ (fun y => binds.reverse.lookup y) → News g L' h₁ news → Below A base (env :: outer) g → K.In g → Top p loose mean mg mb g →
      wpI (model prog w) (A.deeper (envOf qual scope L' f cdv)) (execs body (envOf qual scope L' f cdv))
        (fun fl s' => LeaveK h₀ L m g (okR R) (match fl with | .ret v => v | _ => .none) s')
        { s with heap := h₁, toks := s.toks + binds.length })
    (hco : scope.isCoroutine = false) (hgen : scope.isGenerator = false) (hk : scope.kind = .function)
    (hcell : ∀ x ∈ scope.names, x.2 ≠ .cell) : cdI (model prog w) A (.call (.ref f) args) R s := by
  obtain ⟨FG, BG, st, lv⟩ := groundX (R := okR R) B F N hA hf hke
  refine cdI_call_function (fd := fnOf name qual params body scope dV kV doc pm an cdv ct) (body := body) hroom ((X₀.keeps F.keep) _ _ ho) rfl hco hgen rfl (codeRec_of (X₀.keeps F.keep) hcd) (hbind _ _ _ _ ?_)
  refine wpAny_newFunctionEnv hcell hloc (fun h₁ hns hsb => ?_) hk
  have hk₁ : ∀ b o, s.heap.get? b = some o → h₁.get? b = some o := fun b o e => hsb.extBut b o (Nat.ne_of_lt (Heap.lt_size e)) (Heap.get?_push_of_some _ e)
  refine ⟨(T.nolimit.keeps F.keep).fresh _ hsb, cdI_func ?_⟩
  exact wpI_mono (h _ s.heap.objs.size h₁ FG ⟨hns, fun b o e => hk₁ b o (of_hideAll _ e), Nat.le_of_eq (hideAll_size _ _)⟩
    (fun p hp => ⟨hk₁ _ _ (N p hp).1, Nat.ne_of_lt (Heap.lt_size (N p hp).1), hideAll_none _ (List.mem_map_of_mem hp)⟩) BG (X₀.keeps st) (T.keeps st)) (fun fl s' hl => lv _ _ hl)
theorem code_defCI
    (B : Below A₀ base outer h₀) (F : Fr h₀ L s.heap m) (X₀ : K.In h₀) (N : News h₀ L s.heap news) (T : Top p loose mean mg mb h₀) (hA : A.frames = some (env :: outer)) (hf : env.frame = some L) (hke : env.scope.kind = .function)
    (ho : K.lookup f = some ⟨oc, od, .func (fnOf name qual params body scope dV kV doc pm an cdv ct), osl⟩) (hcd : codeIn K cdv qual = true) (hroom : A.depth < recursionLimit)
    (hbind : BindsTo s (fnOf name qual params body scope dV kV doc pm an cdv ct) args binds) (hkind : (binds.all fun y => scope.names.lookup y.1 == some .local || scope.names.lookup y.1 == some .cell) = true)
    (hnd : ((cellsFrom 0 scope.names []).map (·.1)).Nodup)
    (h : ∀ g L' h₁ tk cells, Fr h₀ L g m → Fr g L' h₁ (bindL (envOfC qual scope L' f cdv).kindOf binds fun _ => none) → News g L' h₁ (cells ++ news) →
      CellsAre (bindC (envOfC qual scope L' f cdv).kindOf binds fun _ => none) (cellsFrom (L' + 1) scope.names []) cells → Below A base (env :: outer) g → K.In g → Top p loose mean mg mb g → (∀ p ∈ news, p.1 < L') →
      wpI (model prog w) (A.deeper (envOfC qual scope L' f cdv)) (execs body (envOfC qual scope L' f cdv))
        (fun fl s' => LeaveK h₀ L m g (okR R) (match fl with | .ret v => v | _ => .none) s')
        { s with heap := h₁, toks := tk })
    (hco : scope.isCoroutine = false) (hgen : scope.isGenerator = false) (hk : scope.kind = .function) : cdI (model prog w) A (.call (.ref f) args) R s := by
  obtain ⟨FG, BG, st, lv⟩ := groundX (R := okR R) B F N hA hf hke
  refine cdI_call_function (fd := fnOf name qual params body scope dV kV doc pm an cdv ct) (body := body) hroom ((X₀.keeps F.keep) _ _ ho) rfl hco hgen rfl (codeRec_of (X₀.keeps F.keep) hcd) (hbind _ _ _ _ ?_)
  refine wpAny_newFunctionEnv_cells hk (kindsX hkind _) fun env' he s' x => ?_
  subst he
  refine ⟨(T.nolimit.keeps F.keep).keeps x.toInCall.keep, cdI_func ?_⟩
  obtain ⟨h₁, tk, rfl, _⟩ := x.done
  have hk₁ := x.toInCall.keep
  obtain ⟨cells, NC, Y⟩ := PyProof.Rows.Cl.news (h₀ := s.heap) (Nat.le_refl _) fun n c hm => ⟨x.cell n c (lookup_of_mem_nodup (cellsFrom_names scope.names 0 (s.heap.objs.size + 1) [] [] rfl ▸ hnd) hm), x.above n c hm⟩
  refine wpI_mono (h _ s.heap.objs.size h₁ tk cells FG ⟨x.toInCall.ns, fun b o e => hk₁ b o (of_hideAll _ e), Nat.le_of_eq (hideAll_size _ _)⟩ (fun p hp => ?_) Y BG (X₀.keeps st) (T.keeps st) (fun p hp => Heap.lt_size (N p hp).1)) (fun fl s' hl => lv _ _ hl)
  rcases List.mem_append.mp hp with hp | hp
  · refine ⟨(NC p hp).1, (NC p hp).2.1, ?_⟩
    cases q : (hideAll s.heap (news.map (·.1))).get? p.1 with
    | none => rfl
    | some o => have := of_hideAll _ q; rw [(NC p hp).2.2] at this; cases this
  · exact ⟨hk₁ _ _ (N p hp).1, Nat.ne_of_lt (Heap.lt_size (N p hp).1), hideAll_none _ (List.mem_map_of_mem hp)⟩
end
/-- a contract in the clean logic -/
def ClI (w : World) (f : Addr) (D U : Nat) (vs : List Value) (news : Led) (R : Value → Led → Prop) : Prop :=
  ∀ (loose : List Str) (mean : ExcName → Option Value) (mg mb : Str → Option Value) (dp un : Nat) (gd : Option (List Code)) (cn : Str) (cs : Scope) (a : Addr) (ccd : Value) (cl : List (Str × Addr)) (outer : List Env)
    (A₀ : Around) (base h₀ : Heap) (L : Addr) (m : Str → Option Value) (s : Shared) (Q : Value → Shared → Prop),
    Below A₀ base outer h₀ → Fr h₀ L s.heap m → (Mine.hd.heap_39 w.params).In h₀ → News h₀ L s.heap news → Top Mine.hd.view_39 loose mean mg mb h₀ → cs.kind = .function →
    dp + D < recursionLimit → un + U < cLine →
    (∀ v news' h' tk', R v news' → Fr h₀ L h' m → News h₀ L h' news' → Q v { s with heap := h', toks := tk' }) →
    wpI (model PySem.Challenge.rw_nt0091_01.row.prog w) (ktrTop dp un gd cn cs L a ccd cl outer) (call (.ref f) vs) Q s
theorem ClI.use {w : World} {f : Addr} {D U : Nat} {vs : List Value} {news : Led} {R : Value → Led → Prop} (C : ClI w f D U vs news R)
    {loose : List Str} {mean : ExcName → Option Value} {mg mb : Str → Option Value} {dp un : Nat} {gd : Option (List Code)} {cn : Str} {cs : Scope} {a : Addr} {ccd : Value} {cl : List (Str × Addr)} {outer : List Env}
    {A₀ : Around} {base h₀ : Heap} {L : Addr} {m : Str → Option Value} {s : Shared} {Q : Value → Shared → Prop}
    (B : Below A₀ base outer h₀) (F : Fr h₀ L s.heap m) (X : (Mine.hd.heap_39 w.params).In h₀) (N : News h₀ L s.heap news) (T : Top Mine.hd.view_39 loose mean mg mb h₀) (hk : cs.kind = .function)
    (hd : dp + D < recursionLimit) (hu : un + U < cLine)
    (ret : ∀ v news' h' tk', R v news' → Fr h₀ L h' m → News h₀ L h' news' → Q v { s with heap := h', toks := tk' }) :
    wpI (model PySem.Challenge.rw_nt0091_01.row.prog w) (ktrTop dp un gd cn cs L a ccd cl outer) (call (.ref f) vs) Q s :=
  C loose mean mg mb dp un gd cn cs a ccd cl outer A₀ base h₀ L m s Q B F X N T hk hd hu ret
end Mine
end
section
open PySem PySem.W PySem.Spec PySem.Calls PyProof.Rows
open PySem.Sem (wp)
namespace Mine
namespace FB
theorem no_bytes_ba : typeLookup (.type "bytearray") "__bytes__" = pure none := by rw [typeLookup_type, builtinLookup_eq_fast]; kernel_rfl
theorem no_index_ba : typeLookup (.type "bytearray") "__index__" = pure none := by rw [typeLookup_type, builtinLookup_eq_fast]; kernel_rfl
theorem buffer_ba : typeLookup (.type "bytearray") "__buffer__" = pure (some (.builtin "bytearray.__buffer__")) := by rw [typeLookup_type, builtinLookup_eq_fast]; kernel_rfl
end FB
section
variable {prog : Program} {w : World} {A : Around} {s : Shared} {E : Value → Shared → Prop}
theorem ownBuf_ba {a : Addr} {Q : Bool → Shared → Prop} (hT : s.TypeIs (.ref a) "bytearray") (h : Q true s) : wpAny (model prog w) A (Builtin.Bytes.slotIsOwn (.ref a) "__buffer__") Q E s := by
  unfold Builtin.Bytes.slotIsOwn
  refine wpAny_bind (wpAny_specialOf hT FB.buffer_ba ?_)
  try dsimp only
  rw [if_neg (by decide +kernel)]
  have key : ∀ x : String, x = "bytearray" → wpAny (model prog w) A (isInstance (.ref a) (.type x)) Q E s := fun x hx => by
    subst hx; exact wpAny_isInstance hT sub_ba_self h
  exact key _ (by decide +kernel)
theorem code_bytes_ba {l : Addr} {b : Array UInt8} {Q : Value → Shared → Prop} (hl : s.heap.get? l = some (baO b)) (hz : b.size ≤ sizeLine)
    (hQ : ∀ t k, Q (.bytes b t) { s with toks := k }) :
    codeAny (model prog w) A (.call (.builtin "bytes.__new__") ⟨[.type "bytes", .ref l], []⟩) (wants Q E) s := by
  refine codeAny_of_tree ?_
  show wpAny _ A.in1 (do checkBuiltinCall "bytes.__new__" ⟨[.type "bytes", .ref l], []⟩; again (.builtin "bytes.__new__" ⟨[.type "bytes", .ref l], []⟩)) _ _ s
  refine wpAny_bind (wpAny_of_eq (PySem.F.bm_newCall _) (wpAny_pure ⟨plainId_quiet PySem.F.bm_plain _, codeAny_builtin PySem.F.bm_entry ?_⟩))
  rw [Around.under_plainId PySem.F.bm_plain _]
  have hT : s.TypeIs (.ref l) "bytearray" := ⟨_, hl, rfl⟩
  unfold Builtin.«bytes.__new__»
  refine wpAny_bind (wpAny_of_eq (a := true) rfl ?_)
  refine bm_if_false rfl ?_
  refine wpAny_bind (wpAny_of_eq PySem.F.bm_sub ?_)
  refine bm_if_false rfl ?_
  refine wpAny_bind (wpAny_of_eq (PySem.F.bm_bind _) ?_)
  refine wpAny_bind (wpAny_of_eq (a := ()) rfl ?_)
  refine wpAny_bind (wpAny_of_eq (a := ()) rfl ?_)
  refine bm_if_false rfl ?_
  refine wpAny_bind (wpAny_specialOf hT FB.no_bytes_ba ?_)
  refine wpAny_bind (wpAny_bind ?_)
  show wpAny _ _ (load l >>= _) _ _ _
  refine wpAny_bind (wpAny_load hl ?_)
  refine wpAny_pure (wpAny_pure ?_)
  refine bm_if_false rfl ?_
  refine wpAny_bind (wpAny_specialOf hT FB.no_index_ba ?_)
  refine bm_if_true rfl ?_
  first
    | show wpAny _ _ (Builtin.Bytes.buffer? "bytes.__new__" (.ref l) true >>= _) _ _ _
    | (refine wpAny_bind ?_; show wpAny _ _ (Builtin.Bytes.buffer? "bytes.__new__" (.ref l) true >>= _) _ _ _)
  refine wpAny_bind ?_
  unfold Builtin.Bytes.buffer?
  refine wpAny_bind (wpAny_specialOf hT FB.buffer_ba ?_)
  try dsimp only
  refine wpAny_bind (ownBuf_ba hT ?_)
  refine bm_if_false rfl ?_
  refine wpAny_bind (wpAny_specialOf hT FB.buffer_ba ?_)
  try dsimp only
  refine wpAny_bind (ownRel_ba hT ?_)
  refine bm_if_false rfl ?_
  refine wpAny_bind (m := Builtin.Bytes.payload _) ?_
  unfold Builtin.Bytes.payload Builtin.Bytes.payload?
  refine wpAny_bind (wpAny_bind (wpAny_load hl ?_))
  refine wpAny_pure (wpAny_pure ?_)
  refine wpAny_pure ?_
  try dsimp only
  first
    | refine wpAny_bind (m := mkBytes _) (wpAny_mkBytes ?_ hz)
    | refine wpAny_bind (m := rule _) (wpAny_rule (wpAny_bind (wpAny_bind (m := mkBytes _) (wpAny_mkBytes ?_ hz))))
  show wpAny _ _ (if (Value.type "bytes" == Value.type "bytes") = true then _ else _) _ _ _
  refine bm_if_true (by decide) ?_
  first
    | exact wpAny_pure (hQ _ _)
    | exact wpAny_bind (wpAny_pure (wpAny_pure (hQ _ _)))
    | exact wpAny_pure (wpAny_pure (hQ _ _))
theorem call_bytes_ba {l : Addr} {b : Array UInt8} {Q : Value → Shared → Prop} (hl : s.heap.get? l = some (baO b)) (hz : b.size ≤ sizeLine)
    (hQ : ∀ t k, Q (.bytes b t) { s with toks := k }) : wpAny (model prog w) A (call (.type "bytes") [.ref l]) Q E s := by
  refine callType_codes (Q₁ := fun obj s₁ => s₁.TypeIs obj "bytes" ∧ Q obj s₁) PySem.F.bm_called (PySem.F.bm_typeCall _) PySem.F.entry_object_init
    (code_bytes_ba hl hz fun t k => ⟨PySem.W.typeIs_bytes _ _ _, hQ t k⟩) fun obj s₁ h₁ => ?_
  exact ⟨h₁.1, PySem.F.args_object_init_2 obj _, object_init_meets PySem.F.bm_called.init.lookup PySem.F.bm_called.made (by decide) prog w A.in1 _ s₁ ⟨h₁.1, rfl, h₁.2⟩⟩
theorem byteArr_push (os : List Int) (n : Int) : (byteArr os).push n.toNat.toUInt8 = byteArr (os ++ [n]) := by simp [byteArr]
/-- with the frame -/
theorem new_baF {h₀ : Heap} {L : Addr} {m : Str → Option Value} {news : Led} {Q : Value → Shared → Prop} (F : Fr h₀ L s.heap m) (N : News h₀ L s.heap news)
    (h : ∀ a h', Fr h₀ L h' m → News h₀ L h' ((a, baO (byteArr [])) :: news) → (∀ p ∈ news, p.1 < a) → Q (.ref a) { s with heap := h' }) :
    wpI (model prog w) A (call (.type "bytearray") []) Q s :=
  new_ba fun h' hg hk => h _ h' (F.kept hk) (News.kept_cons F N hk (Nat.le_refl _) hg) fun p hp => Heap.lt_size (N p hp).1
theorem append_baF {h₀ : Heap} {L a : Addr} {m : Str → Option Value} {rest : Led} {os : List Int} {n : Int} {t : Tok} {Q : Value → Shared → Prop} (F : Fr h₀ L s.heap m) (N : News h₀ L s.heap ((a, baO (byteArr os)) :: rest)) (hne : ∀ p ∈ rest, p.1 ≠ a)
    (h0 : 0 ≤ n) (h1 : n < 256) (hsz : os.length < 1000)
    (h : ∀ h', Fr h₀ L h' m → News h₀ L h' ((a, baO (byteArr (os ++ [n]))) :: rest) → Q .none { s with heap := h' }) : wpI (model prog w) A (call (.builtin "bytearray.append") [.ref a, .int n t]) Q s := by
  have h9 := N _ (.head _)
  refine append_ba h9.1 h0 h1 (by rw [byteArr_size]; exact hsz) fun h' hs hg => ?_
  rw [byteArr_push] at hg
  exact h h' (F.change hs h9.2.1 h9.2.2) (News.setHead N hne hs hg)
end
end Mine
end
section
open PySem PySem.W PyProof.Rows
namespace Mine
theorem lead_cl (w : World) (n : Int) (t : Tok) (news : Led) (h0 : 0 ≤ n) (h1 : n < 256) : Cl w 28 4 100 [.int n t] news (fun v news' => match leadF n with
   | none => v = .none ∧ news' = news
   | some (a, b, c) => ∃ ad t1 t2 t3, v = .ref ad ∧ news' = (ad, tupO [.int a t1, .int b t2, .int c t3]) :: news ∧ ∀ p ∈ news, p.1 < ad) := by
  unfold Cl; k_fill
  intro loose mean mg mb dp un gd cn cs a ccd cl outer A₀ base h₀ L m s Q E B F X N T hk hd hu hret
  refine wpAny_call ?_
  k_dflt (refine' code_def (binds := [(Str.ofString "octet", Value.int n t)]) ?k1 ?k2 ?k3 ?k4 ?k5 ?kA ?kF ?kK ?k6 ?k7 ?k8 ?k9 ?kB ?_ ?c2 ?c3 ?c4 ?c5; (((case kA => exact rfl); (case kF => exact rfl); (case kK => assumption); (case k1 => k_asm); (case k2 => k_asm); (case k3 => k_asm); (case k4 => k_asm); (case k5 => k_asm); (case k6 => k_is); (case k7 => k_is); (case k8 => ktr_room); (case k9 => exact BindsTo.of_eq rfl); (case c5 => decide); (case kB => exact locs rfl); (case c2 => exact rfl); (case c3 => exact rfl); (case c4 => exact rfl); k_whole; intro g' L' h' FG' F' N' B' X' T'; (try dsimp only); (try k_lift B'); (try dsimp only [List.length_cons, List.length_nil, List.reverse_cons, List.reverse_nil, List.nil_append, List.cons_append] at F' ⊢); (try k_fold))))
  (repeat' (first | (k_unfold; (try dsimp only)) | ((fail_if_success (with_reducible show wpAny _ _ (pyIter _) _ _ _)); (fail_if_success (with_reducible show InvEndN _ _ _ _ _ _ _)); first | walk1 | (dsimp only; walk1) | (leave1; (try dsimp only)))))
  all_goals (refine hret _ _ _ _ ?_ (by k_asm) (by k_asm))
  all_goals (unfold leadF; dsimp only)
  · rw [if_pos (by omega)]; exact ⟨_, _, _, _, rfl, rfl, by assumption⟩
  · rw [if_neg (by omega), if_pos (by omega), bitAnd_m5]; exact ⟨_, _, _, _, rfl, rfl, by assumption⟩
  · rw [if_neg (by omega), if_neg (by omega), if_pos (by omega), bitAnd_m4]; exact ⟨_, _, _, _, rfl, rfl, by assumption⟩
  · rw [if_neg (by omega), if_neg (by omega), if_neg (by omega), if_pos (by omega), bitAnd_m3]; exact ⟨_, _, _, _, rfl, rfl, by assumption⟩
  · rw [if_neg (by omega), if_neg (by omega), if_neg (by omega), if_neg (by omega)]; exact ⟨rfl, rfl⟩
  · rw [if_neg (by omega), if_neg (by omega), if_neg (by omega), if_neg (by omega)]; exact ⟨rfl, rfl⟩
end Mine
end
section
open PySem PySem.W PyProof.Rows
namespace Mine
theorem code_cl (w : World) (b : Array UInt8) (tb ta : Tok) (at' : Int) (ld : Addr) (fo co le : Int) (t1 t2 t3 : Tok) (news : Led) (hb : b.size ≤ 100) (h0 : 0 ≤ at') (h1 : at' ≤ b.size) (h2 : 0 ≤ fo) (h3 : fo ≤ 3) (h4 : 0 ≤ co) (h5 : co < 128) (h6 : 0 ≤ le) (h7 : le ≤ 65536) :
   Cl w 42 4 100 [.bytes b tb, .int at' ta, .ref ld] ((ld, tupO [.int fo t1, .int co t2, .int le t3]) :: news) (fun v news' => news' = ((ld, tupO [.int fo t1, .int co t2, .int le t3]) :: news) ∧ match codeF (KBw.bInts b) at'.toNat fo co le with
     | none => v = .none
     | some c => ∃ t, v = .int c t) := by
  unfold Cl; k_fill
  intro loose mean mg mb dp un gd cn cs a ccd cl outer A₀ base h₀ L m s Q E B F X N T hk hd hu hret
  have hbl : (KBw.bInts b).length = b.size := KBw.ints_length b
  refine wpAny_call ?_
  k_dflt (refine' code_def (binds := [(Str.ofString "octets", Value.bytes b tb), (Str.ofString "at", Value.int at' ta), (Str.ofString "lead", Value.ref ld)]) ?k1 ?k2 ?k3 ?k4 ?k5 ?kA ?kF ?kK ?k6 ?k7 ?k8 ?k9 ?kB ?_ ?c2 ?c3 ?c4 ?c5; (((case kA => exact rfl); (case kF => exact rfl); (case kK => assumption); (case k1 => k_asm); (case k2 => k_asm); (case k3 => k_asm); (case k4 => k_asm); (case k5 => k_asm); (case k6 => k_is); (case k7 => k_is); (case k8 => ktr_room); (case k9 => exact BindsTo.of_eq rfl); (case c5 => decide); (case kB => exact locs rfl); (case c2 => exact rfl); (case c3 => exact rfl); (case c4 => exact rfl); k_whole; intro g' L' h' FG' F' N' B' X' T'; (try dsimp only); (try k_lift B'); (try dsimp only [List.length_cons, List.length_nil, List.reverse_cons, List.reverse_nil, List.nil_append, List.cons_append] at F' ⊢); (try k_fold))))
  (repeat' (first | (k_unfold; (try dsimp only)) | ((fail_if_success (with_reducible show wpAny _ _ (pyIter _) _ _ _)); (fail_if_success (with_reducible show InvEndN _ _ _ _ _ _ _)); first | ((k_here; (with_reducible show wpAny _ _ (subscriptTail _ _ (Value.bytes _ _) (Value.int _ _)) _ _ _); (refine item_b (by assumption) (by assumption) (by omega) ?_))) | walk1 | (dsimp only; walk1) | (leave1; (try dsimp only)))))
  · refine hret _ _ _ _ ?_ (by k_asm) (by k_asm)
    rename_i hlt _ _ _ _ _
    unfold codeF; rw [if_pos (by omega)]
    exact ⟨rfl, rfl⟩
  (rename Fr _ _ _ _ => lF'); (rename News _ _ _ _ => lN'); (rename IsRange _ _ _ _ _ _ _ _ => rgX)
  with_unfolding_all refine' kst_range (σ := Int × Tok) (fun _ => (ld, tupO [.int fo t1, .int co t2, .int le t3]) :: news) (fun c => [(Str.ofString "code", .int c.1 c.2)]) (fun _ => True) [] (fun pre c => foldC (((KBw.bInts b).drop at'.toNat).take pre.length) co = some c.1 ∧ 0 ≤ c.1 ∧ c.1 < 128 * 64 ^ pre.length) (co, t2) (by rfl) (by first | exact rgX | assumption) (by first | exact small_one (by omega) (by omega) (by omega) (by omega) | exact small_one (by l_bnd) (by l_bnd) (by l_bnd) (by l_bnd) | decide) (by first | exact rangeSize_nat _ _ | rfl) lF' ?kn ?kf ?kk ?kp ?_ ?_
  case kn => (with_unfolding_all (first | exact lN' | exact kst_newsOf lN' (by kst_inAny)))
  case kf => trivial
  case kk => kst_all
  case kp => exact ⟨by simp [foldC], h4, by simpa using h5⟩
  all_goals (try clear lF' lN')
  · intro ⟨code, tc⟩ pre k tk1 u h tk own hk1 hlt hoff _ ⟨hP, hc0, hc1⟩ F1 N1
    dsimp only [kstB] at F1 hP hc0 hc1 N1
    have kMark := kstMark
    have hnn : ((at' + fo - at').toNat : Int) = fo := by omega
    have hk0 : 0 ≤ k := by omega
    have hkb : k.toNat < (KBw.bInts b).length := by omega
    obtain ⟨o, ho⟩ : ∃ o, (KBw.bInts b)[k.toNat]? = some o := ⟨_, List.getElem?_eq_getElem hkb⟩
    obtain ⟨ho0, ho1⟩ := KBw.ints_in (List.mem_of_getElem? ho)
    have hc2 : code < 1000000 := by
      have : pre.length = 0 ∨ pre.length = 1 ∨ pre.length = 2 := by omega
      rcases this with e | e | e <;> rw [e] at hc1 <;> omega
    (try k_unmd); (try k_fold)
    (repeat' (first | (k_unfold; (try dsimp only)) | ((fail_if_success (with_reducible show wpAny _ _ (pyIter _) _ _ _)); (fail_if_success (with_reducible show InvEndN _ _ _ _ _ _ _)); first | ((k_here; (with_reducible show wpAny _ _ (subscriptTail _ _ (Value.bytes _ _) (Value.int _ _)) _ _ _); (refine item_b (by assumption) (by assumption) (by omega) ?_))) | walk1 | (dsimp only; walk1) | (leave1; (try dsimp only)))))
    · rename (Builtin.bitAnd o 192 ≠ 128) => hne
      refine hret _ _ _ _ ⟨rfl, ?_⟩ (by k_asm) (kst_newsOf (by k_asm) (fun p hp => List.mem_append.mpr (.inl hp)))
      have hx : ¬ (128 ≤ o ∧ o < 192) := fun q => hne ((and192' ho0 ho1).mpr q)
      unfold codeF
      rw [if_neg (by omega), foldC_stop (j := pre.length) hP (by rw [← ho]; congr 1; omega) hx (by omega)]
      rfl
    · (((rename News _ _ _ _ => nE'); (refine kst_end (_, _) (by assumption) nE' (by first | kst_in | kst_inAny) (by first | (intro p hp; kst_mem) | kst_anyIn) (by rfl) (by kst_facts) (by kst_all) (by kst_same) ?_); dsimp only))
      rename (Builtin.bitAnd o 192 = 128) => hq
      have hx := (and192' ho0 ho1).mp hq
      rw [or_low hc0, show 64 * code + o % 64 = 64 * code + (o - 128) by omega]
      rw [show (pre ++ [k]).length = pre.length + 1 by simp]
      refine ⟨foldC_step hP (by rw [← ho]; congr 1; omega) hx, by omega, ?_⟩
      rw [Int.pow_succ]; omega
  · intro ⟨code, tc⟩ u h tk _ ⟨hP, hc0, hc1⟩ F1 N1
    dsimp only [kstB] at F1 hP hc0 hc1 N1
    have kMark := kstMark
    (try k_unmd); (try k_fold)
    (repeat' (first | (k_unfold; (try dsimp only)) | ((fail_if_success (with_reducible show wpAny _ _ (pyIter _) _ _ _)); (fail_if_success (with_reducible show InvEndN _ _ _ _ _ _ _)); first | ((k_here; (with_reducible show wpAny _ _ (subscriptTail _ _ (Value.bytes _ _) (Value.int _ _)) _ _ _); (refine item_b (by assumption) (by assumption) (by omega) ?_))) | walk1 | (dsimp only; walk1) | (leave1; (try dsimp only)))))
    all_goals refine hret _ _ _ _ ⟨rfl, ?_⟩ (by k_asm) (by k_asm)
    all_goals (
      unfold codeF
      rw [if_neg (by omega)]
      rw [rangeKs_length, show (at' + fo - at').toNat = fo.toNat by congr 1; omega] at hP
      rw [hP]
      simp only [Option.bind_some])
    · rw [if_pos (by omega)]; trivial
    · rw [if_pos (by omega)]; trivial
    · rw [if_neg (by omega)]; exact ⟨_, rfl⟩
end Mine
end
section
open PySem PySem.W PyProof.Rows
namespace Mine
theorem lead_none (w : World) (n : Int) (t : Tok) (news : Led) (h : leadF n = none) (h0 : 0 ≤ n) (h1 : n < 256) : Cl w 28 4 100 [.int n t] news (fun v news' => v = .none ∧ news' = news) :=
  (lead_cl w n t news h0 h1).mono fun v n' r => by rw [h] at r; exact r
theorem lead_some (w : World) (n : Int) (t : Tok) (news : Led) {a b c : Int} (h : leadF n = some (a, b, c)) (h0 : 0 ≤ n) (h1 : n < 256) : Cl w 28 4 100 [.int n t] news (fun v news' => ∃ ad t1 t2 t3, v = .ref ad ∧ news' = (ad, tupO [.int a t1, .int b t2, .int c t3]) :: news ∧ ∀ p ∈ news, p.1 < ad) :=
  (lead_cl w n t news h0 h1).mono fun v n' r => by rw [h] at r; exact r
theorem code_none (w : World) (b : Array UInt8) (tb ta : Tok) (at' : Int) (ld : Addr) (fo co le : Int) (t1 t2 t3 : Tok) (news : Led) (h : codeF (KBw.bInts b) at'.toNat fo co le = none) (hb : b.size ≤ 100) (h0 : 0 ≤ at') (h1 : at' ≤ b.size)
    (hf : 0 ≤ fo ∧ fo ≤ 3 ∧ 0 ≤ co ∧ co < 128 ∧ 0 ≤ le ∧ le ≤ 65536) :
   Cl w 42 4 100 [.bytes b tb, .int at' ta, .ref ld] ((ld, tupO [.int fo t1, .int co t2, .int le t3]) :: news) (fun v news' => v = .none ∧ news' = ((ld, tupO [.int fo t1, .int co t2, .int le t3]) :: news)) :=
  (code_cl w b tb ta at' ld fo co le t1 t2 t3 news hb h0 h1 hf.1 hf.2.1 hf.2.2.1 hf.2.2.2.1 hf.2.2.2.2.1 hf.2.2.2.2.2).mono fun v n' r => by rw [h] at r; exact ⟨r.2, r.1⟩
theorem code_some (w : World) (b : Array UInt8) (tb ta : Tok) (at' : Int) (ld : Addr) (fo co le : Int) (t1 t2 t3 : Tok) (news : Led) {c : Int} (h : codeF (KBw.bInts b) at'.toNat fo co le = some c) (hb : b.size ≤ 100) (h0 : 0 ≤ at') (h1 : at' ≤ b.size)
    (hf : 0 ≤ fo ∧ fo ≤ 3 ∧ 0 ≤ co ∧ co < 128 ∧ 0 ≤ le ∧ le ≤ 65536) :
   Cl w 42 4 100 [.bytes b tb, .int at' ta, .ref ld] ((ld, tupO [.int fo t1, .int co t2, .int le t3]) :: news) (fun v news' => ∃ t, v = .int c t ∧ news' = ((ld, tupO [.int fo t1, .int co t2, .int le t3]) :: news)) :=
  (code_cl w b tb ta at' ld fo co le t1 t2 t3 news hb h0 h1 hf.1 hf.2.1 hf.2.2.1 hf.2.2.2.1 hf.2.2.2.2.1 hf.2.2.2.2.2).mono fun v n' r => by rw [h] at r; obtain ⟨r1, t, r2⟩ := r; exact ⟨t, r2, r1⟩
theorem text_cl (w : World) (b : Array UInt8) (tb : Tok) (news : Led) (hb : b.size ≤ 100) :
   Cl w 35 8 200 [.bytes b tb] news (fun v news' => news' = news ∧ ∃ t, v = .str (KStt.txt (decAt (KBw.bInts b) 0)) t) := by
  unfold Cl; k_fill
  intro loose mean mg mb dp un gd cn cs a ccd cl outer A₀ base h₀ L m s Q E B F X N T hk hd hu hret
  have hbl : (KBw.bInts b).length = b.size := KBw.ints_length b
  refine wpAny_call ?_
  k_dflt (refine' code_def (binds := [(Str.ofString "octets", Value.bytes b tb)]) ?k1 ?k2 ?k3 ?k4 ?k5 ?kA ?kF ?kK ?k6 ?k7 ?k8 ?k9 ?kB ?_ ?c2 ?c3 ?c4 ?c5; (((case kA => exact rfl); (case kF => exact rfl); (case kK => assumption); (case k1 => k_asm); (case k2 => k_asm); (case k3 => k_asm); (case k4 => k_asm); (case k5 => k_asm); (case k6 => k_is); (case k7 => k_is); (case k8 => ktr_room); (case k9 => exact BindsTo.of_eq rfl); (case c5 => decide); (case kB => exact locs rfl); (case c2 => exact rfl); (case c3 => exact rfl); (case c4 => exact rfl); k_whole; intro g' L' h' FG' F' N' B' X' T'; (try dsimp only); (try k_lift B'); (try dsimp only [List.length_cons, List.length_nil, List.reverse_cons, List.reverse_nil, List.nil_append, List.cons_append] at F' ⊢); (try k_fold))))
  (repeat' (first | (k_unfold; (try dsimp only)) | ((fail_if_success (with_reducible show wpAny _ _ (pyIter _) _ _ _)); (fail_if_success (with_reducible show InvEndN _ _ _ _ _ _ _)); (fail_if_success (with_reducible show KswEnd _ _ _ _ _ _ _ _ _ _ _ _)); (fail_if_success (with_reducible show wpAny _ _ (exec (Stmt.While _ _ _ _) _) _ _ _)); first | ((k_here; (with_reducible show wpAny _ _ (call (Value.ref 42) [Value.bytes _ _, Value.int _ _, Value.ref _]) _ _ _); first | (k_dflt (refine' Cl.use (code_none _ _ _ _ _ _ _ _ _ _ _ _ _ ?p0 ?p1 ?p2 ?p3 ?p4) ?k1 ?k2 ?k3 ?k4 ?k5 ?kK ?kd ?ku ?_; (case k4 => k_asm); (case p0 => assumption); (case p1 => omega); (case p2 => omega); (case p3 => omega); (case p4 => assumption); (((case k1 => k_asm); (case k2 => k_asm); (case k3 => k_asm); (case k5 => k_asm); (case kK => first | exact rfl | assumption); (case kd => ktr_room); (case ku => ktr_units); k_whole))); (intro v9 n9 h9 tk9 R9 F9 N9); (obtain ⟨e9, e8⟩ := R9); subst e9 e8; (try dsimp only); (try k_fold)) | (k_dflt (refine' Cl.use (code_some _ _ _ _ _ _ _ _ _ _ _ _ _ ?p0 ?p1 ?p2 ?p3 ?p4) ?k1 ?k2 ?k3 ?k4 ?k5 ?kK ?kd ?ku ?_; (case k4 => k_asm); (case p0 => assumption); (case p1 => omega); (case p2 => omega); (case p3 => omega); (case p4 => assumption); (((case k1 => k_asm); (case k2 => k_asm); (case k3 => k_asm); (case k5 => k_asm); (case kK => first | exact rfl | assumption); (case kd => ktr_room); (case ku => ktr_units); k_whole))); (intro v9 n9 h9 tk9 R9 F9 N9); (obtain ⟨t9, e9, e8⟩ := R9); subst e9 e8; (try dsimp only); (try k_fold)))) | ((k_here; (with_reducible show wpAny _ _ (call (Value.ref 28) [Value.int _ _]) _ _ _); first | (k_dflt (refine' Cl.use (lead_none _ _ _ _ ?p0 ?p1 ?p2) ?k1 ?k2 ?k3 ?k4 ?k5 ?kK ?kd ?ku ?_; (case p0 => assumption); (case p1 => assumption); (case p2 => assumption); (((case k1 => k_asm); (case k2 => k_asm); (case k3 => k_asm); (case k4 => k_asm); (case k5 => k_asm); (case kK => first | exact rfl | assumption); (case kd => ktr_room); (case ku => ktr_units); k_whole))); (intro v9 n9 h9 tk9 R9 F9 N9); (obtain ⟨e9, e8⟩ := R9); subst e9 e8; (try dsimp only); (try k_fold)) | (k_dflt (refine' Cl.use (lead_some _ _ _ _ ?p0 ?p1 ?p2) ?k1 ?k2 ?k3 ?k4 ?k5 ?kK ?kd ?ku ?_; (case p0 => assumption); (case p1 => assumption); (case p2 => assumption); (((case k1 => k_asm); (case k2 => k_asm); (case k3 => k_asm); (case k4 => k_asm); (case k5 => k_asm); (case kK => first | exact rfl | assumption); (case kd => ktr_room); (case ku => ktr_units); k_whole))); (intro v9 n9 h9 tk9 R9 F9 N9); (obtain ⟨ad9, t19, t29, t39, e9, e8, l9⟩ := R9); subst e9 e8; (try k_lt l9); (try dsimp only); (try k_fold)))) | (((with_reducible show wpAny _ _ (call (Value.builtin "str.join") _) _ _ _); (k_here; (refine join_sgn (by assumption) (by k_mem) (by assumption) (by omega) ?_); intro _ _; (try dsimp only)))) | ((k_here; (with_reducible show wpAny _ _ (subscriptTail _ _ (Value.bytes _ _) (Value.int _ _)) _ _ _); (refine item_b (by assumption) (by assumption) (by omega) ?_))) | walk1 | (dsimp only; walk1) | (leave1; (try dsimp only)))))
  (rename Fr _ _ _ _ => lF'); (rename News _ _ _ _ => lN'); rename_i sg _ _ _ _
  with_unfolding_all refine' ksw_while (σ := Int × Tok × List Value × List Int × Nat) (fun c => (sg, W.listOf c.2.2.1.toArray c.2.2.2.2) :: news) (fun c => [(Str.ofString "at", .int c.1 c.2.1)]) (fun c => StrsAre c.2.2.1 (c.2.2.2.1.map sgn)) [Str.ofString "lead", Str.ofString "code"] (fun c => 0 ≤ c.1 ∧ c.1 ≤ b.size ∧ c.2.2.2.1 ++ decAt (KBw.bInts b) c.1.toNat = decAt (KBw.bInts b) 0 ∧ (c.2.2.2.1.length : Int) ≤ c.1) (fun c => b.size - c.1.toNat) (0, _, [], [], 0) lF' lN' ?kf ?kk ?kp ?_
  case kf => exact .nil
  case kk => kst_all
  case kp => exact ⟨Int.le_refl _, by dsimp only; omega, by simp, by simp⟩
  all_goals (try clear lF' lN')
  intro ⟨i, ti, vs, dn, nn⟩ u h tk hS ⟨hi0, hi1, hP, hdl⟩ F1 N1
  dsimp only [kstB] at F1 hP hi0 hi1 N1 hS hdl
  have kMark := kstMark
  (try k_unmd); (try k_fold)
  by_cases hlt : i < b.size
  · have hib : i.toNat < (KBw.bInts b).length := by omega
    obtain ⟨o, ho⟩ : ∃ o, (KBw.bInts b)[i.toNat]? = some o := ⟨_, List.getElem?_eq_getElem hib⟩
    obtain ⟨ho0, ho1⟩ := KBw.ints_in (List.mem_of_getElem? ho)
    rcases hlead : leadF o with _ | ⟨fo, co, le⟩
    · (repeat' (first | (k_unfold; (try dsimp only)) | ((fail_if_success (with_reducible show wpAny _ _ (pyIter _) _ _ _)); (fail_if_success (with_reducible show InvEndN _ _ _ _ _ _ _)); (fail_if_success (with_reducible show KswEnd _ _ _ _ _ _ _ _ _ _ _ _)); (fail_if_success (with_reducible show wpAny _ _ (exec (Stmt.While _ _ _ _) _) _ _ _)); first | ((k_here; (with_reducible show wpAny _ _ (call (Value.ref 42) [Value.bytes _ _, Value.int _ _, Value.ref _]) _ _ _); first | (k_dflt (refine' Cl.use (code_none _ _ _ _ _ _ _ _ _ _ _ _ _ ?p0 ?p1 ?p2 ?p3 ?p4) ?k1 ?k2 ?k3 ?k4 ?k5 ?kK ?kd ?ku ?_; (case k4 => k_asm); (case p0 => assumption); (case p1 => omega); (case p2 => omega); (case p3 => omega); (case p4 => assumption); (((case k1 => k_asm); (case k2 => k_asm); (case k3 => k_asm); (case k5 => k_asm); (case kK => first | exact rfl | assumption); (case kd => ktr_room); (case ku => ktr_units); k_whole))); (intro v9 n9 h9 tk9 R9 F9 N9); (obtain ⟨e9, e8⟩ := R9); subst e9 e8; (try dsimp only); (try k_fold)) | (k_dflt (refine' Cl.use (code_some _ _ _ _ _ _ _ _ _ _ _ _ _ ?p0 ?p1 ?p2 ?p3 ?p4) ?k1 ?k2 ?k3 ?k4 ?k5 ?kK ?kd ?ku ?_; (case k4 => k_asm); (case p0 => assumption); (case p1 => omega); (case p2 => omega); (case p3 => omega); (case p4 => assumption); (((case k1 => k_asm); (case k2 => k_asm); (case k3 => k_asm); (case k5 => k_asm); (case kK => first | exact rfl | assumption); (case kd => ktr_room); (case ku => ktr_units); k_whole))); (intro v9 n9 h9 tk9 R9 F9 N9); (obtain ⟨t9, e9, e8⟩ := R9); subst e9 e8; (try dsimp only); (try k_fold)))) | ((k_here; (with_reducible show wpAny _ _ (call (Value.ref 28) [Value.int _ _]) _ _ _); first | (k_dflt (refine' Cl.use (lead_none _ _ _ _ ?p0 ?p1 ?p2) ?k1 ?k2 ?k3 ?k4 ?k5 ?kK ?kd ?ku ?_; (case p0 => assumption); (case p1 => assumption); (case p2 => assumption); (((case k1 => k_asm); (case k2 => k_asm); (case k3 => k_asm); (case k4 => k_asm); (case k5 => k_asm); (case kK => first | exact rfl | assumption); (case kd => ktr_room); (case ku => ktr_units); k_whole))); (intro v9 n9 h9 tk9 R9 F9 N9); (obtain ⟨e9, e8⟩ := R9); subst e9 e8; (try dsimp only); (try k_fold)) | (k_dflt (refine' Cl.use (lead_some _ _ _ _ ?p0 ?p1 ?p2) ?k1 ?k2 ?k3 ?k4 ?k5 ?kK ?kd ?ku ?_; (case p0 => assumption); (case p1 => assumption); (case p2 => assumption); (((case k1 => k_asm); (case k2 => k_asm); (case k3 => k_asm); (case k4 => k_asm); (case k5 => k_asm); (case kK => first | exact rfl | assumption); (case kd => ktr_room); (case ku => ktr_units); k_whole))); (intro v9 n9 h9 tk9 R9 F9 N9); (obtain ⟨ad9, t19, t29, t39, e9, e8, l9⟩ := R9); subst e9 e8; (try k_lt l9); (try dsimp only); (try k_fold)))) | (((with_reducible show wpAny _ _ (call (Value.builtin "str.join") _) _ _ _); (k_here; (refine join_sgn (by assumption) (by k_mem) (by assumption) (by omega) ?_); intro _ _; (try dsimp only)))) | ((k_here; (with_reducible show wpAny _ _ (subscriptTail _ _ (Value.bytes _ _) (Value.int _ _)) _ _ _); (refine item_b (by assumption) (by assumption) (by omega) ?_))) | walk1 | (dsimp only; walk1) | (leave1; (try dsimp only)))))
      have e0 : readF (KBw.bInts b) i.toNat = none := by unfold readF; rw [ho]; dsimp only; rw [hlead]
      (rename News _ _ _ _ => nE'); (try simp only [List.push_toArray] at nE')
      refine ksw_end (_, _, vs ++ [_], dn ++ [65533], _) (by assumption) nE' (by first | kst_in | kst_inAny) (strs_sgn hS repl_sgn) (by kst_all) (by ksw_same) ?_ ?_
      · dsimp only
        refine ⟨by omega, by omega, ?_, by simp only [List.length_append, List.length_cons, List.length_nil]; omega⟩
        rw [show (i + 1).toNat = i.toNat + 1 by omega, List.append_assoc, ← hP, decAt_bad hib e0]; rfl
      · dsimp only; omega
    · have hlf := leadF_facts ho0 hlead
      have e1 : (i + 1).toNat = i.toNat + 1 := by omega
      rcases hcode : codeF (KBw.bInts b) (i + 1).toNat fo co le with _ | c
      · (repeat' (first | (k_unfold; (try dsimp only)) | ((fail_if_success (with_reducible show wpAny _ _ (pyIter _) _ _ _)); (fail_if_success (with_reducible show InvEndN _ _ _ _ _ _ _)); (fail_if_success (with_reducible show KswEnd _ _ _ _ _ _ _ _ _ _ _ _)); (fail_if_success (with_reducible show wpAny _ _ (exec (Stmt.While _ _ _ _) _) _ _ _)); first | ((k_here; (with_reducible show wpAny _ _ (call (Value.ref 42) [Value.bytes _ _, Value.int _ _, Value.ref _]) _ _ _); first | (k_dflt (refine' Cl.use (code_none _ _ _ _ _ _ _ _ _ _ _ _ _ ?p0 ?p1 ?p2 ?p3 ?p4) ?k1 ?k2 ?k3 ?k4 ?k5 ?kK ?kd ?ku ?_; (case k4 => k_asm); (case p0 => assumption); (case p1 => omega); (case p2 => omega); (case p3 => omega); (case p4 => assumption); (((case k1 => k_asm); (case k2 => k_asm); (case k3 => k_asm); (case k5 => k_asm); (case kK => first | exact rfl | assumption); (case kd => ktr_room); (case ku => ktr_units); k_whole))); (intro v9 n9 h9 tk9 R9 F9 N9); (obtain ⟨e9, e8⟩ := R9); subst e9 e8; (try dsimp only); (try k_fold)) | (k_dflt (refine' Cl.use (code_some _ _ _ _ _ _ _ _ _ _ _ _ _ ?p0 ?p1 ?p2 ?p3 ?p4) ?k1 ?k2 ?k3 ?k4 ?k5 ?kK ?kd ?ku ?_; (case k4 => k_asm); (case p0 => assumption); (case p1 => omega); (case p2 => omega); (case p3 => omega); (case p4 => assumption); (((case k1 => k_asm); (case k2 => k_asm); (case k3 => k_asm); (case k5 => k_asm); (case kK => first | exact rfl | assumption); (case kd => ktr_room); (case ku => ktr_units); k_whole))); (intro v9 n9 h9 tk9 R9 F9 N9); (obtain ⟨t9, e9, e8⟩ := R9); subst e9 e8; (try dsimp only); (try k_fold)))) | ((k_here; (with_reducible show wpAny _ _ (call (Value.ref 28) [Value.int _ _]) _ _ _); first | (k_dflt (refine' Cl.use (lead_none _ _ _ _ ?p0 ?p1 ?p2) ?k1 ?k2 ?k3 ?k4 ?k5 ?kK ?kd ?ku ?_; (case p0 => assumption); (case p1 => assumption); (case p2 => assumption); (((case k1 => k_asm); (case k2 => k_asm); (case k3 => k_asm); (case k4 => k_asm); (case k5 => k_asm); (case kK => first | exact rfl | assumption); (case kd => ktr_room); (case ku => ktr_units); k_whole))); (intro v9 n9 h9 tk9 R9 F9 N9); (obtain ⟨e9, e8⟩ := R9); subst e9 e8; (try dsimp only); (try k_fold)) | (k_dflt (refine' Cl.use (lead_some _ _ _ _ ?p0 ?p1 ?p2) ?k1 ?k2 ?k3 ?k4 ?k5 ?kK ?kd ?ku ?_; (case p0 => assumption); (case p1 => assumption); (case p2 => assumption); (((case k1 => k_asm); (case k2 => k_asm); (case k3 => k_asm); (case k4 => k_asm); (case k5 => k_asm); (case kK => first | exact rfl | assumption); (case kd => ktr_room); (case ku => ktr_units); k_whole))); (intro v9 n9 h9 tk9 R9 F9 N9); (obtain ⟨ad9, t19, t29, t39, e9, e8, l9⟩ := R9); subst e9 e8; (try k_lt l9); (try dsimp only); (try k_fold)))) | (((with_reducible show wpAny _ _ (call (Value.builtin "str.join") _) _ _ _); (k_here; (refine join_sgn (by assumption) (by k_mem) (by assumption) (by omega) ?_); intro _ _; (try dsimp only)))) | ((k_here; (with_reducible show wpAny _ _ (subscriptTail _ _ (Value.bytes _ _) (Value.int _ _)) _ _ _); (refine item_b (by assumption) (by assumption) (by omega) ?_))) | walk1 | (dsimp only; walk1) | (leave1; (try dsimp only)))))
        have e0 : readF (KBw.bInts b) i.toNat = none := by unfold readF; rw [ho]; dsimp only; rw [hlead]; dsimp only; rw [← e1, hcode]; rfl
        (rename News _ _ _ _ => nE'); (try simp only [List.push_toArray] at nE')
        refine ksw_end (_, _, vs ++ [_], dn ++ [65533], _) (by assumption) nE' (by first | kst_in | kst_inAny) (strs_sgn hS repl_sgn) (by kst_all) (by ksw_same) ?_ ?_
        · dsimp only
          refine ⟨by omega, by omega, ?_, by simp only [List.length_append, List.length_cons, List.length_nil]; omega⟩
          rw [show (i + 1).toNat = i.toNat + 1 by omega, List.append_assoc, ← hP, decAt_bad hib e0]; rfl
        · dsimp only; omega
      · obtain ⟨hc0, hc1⟩ := codeF_range hcode hlf.2.2.2.2.1
        have hfit : (i + 1) + fo ≤ b.size := by
          unfold codeF at hcode
          split at hcode
          · cases hcode
          · omega
        (repeat' (first | (k_unfold; (try dsimp only)) | ((fail_if_success (with_reducible show wpAny _ _ (pyIter _) _ _ _)); (fail_if_success (with_reducible show InvEndN _ _ _ _ _ _ _)); (fail_if_success (with_reducible show KswEnd _ _ _ _ _ _ _ _ _ _ _ _)); (fail_if_success (with_reducible show wpAny _ _ (exec (Stmt.While _ _ _ _) _) _ _ _)); first | ((k_here; (with_reducible show wpAny _ _ (call (Value.ref 42) [Value.bytes _ _, Value.int _ _, Value.ref _]) _ _ _); first | (k_dflt (refine' Cl.use (code_none _ _ _ _ _ _ _ _ _ _ _ _ _ ?p0 ?p1 ?p2 ?p3 ?p4) ?k1 ?k2 ?k3 ?k4 ?k5 ?kK ?kd ?ku ?_; (case k4 => k_asm); (case p0 => assumption); (case p1 => omega); (case p2 => omega); (case p3 => omega); (case p4 => assumption); (((case k1 => k_asm); (case k2 => k_asm); (case k3 => k_asm); (case k5 => k_asm); (case kK => first | exact rfl | assumption); (case kd => ktr_room); (case ku => ktr_units); k_whole))); (intro v9 n9 h9 tk9 R9 F9 N9); (obtain ⟨e9, e8⟩ := R9); subst e9 e8; (try dsimp only); (try k_fold)) | (k_dflt (refine' Cl.use (code_some _ _ _ _ _ _ _ _ _ _ _ _ _ ?p0 ?p1 ?p2 ?p3 ?p4) ?k1 ?k2 ?k3 ?k4 ?k5 ?kK ?kd ?ku ?_; (case k4 => k_asm); (case p0 => assumption); (case p1 => omega); (case p2 => omega); (case p3 => omega); (case p4 => assumption); (((case k1 => k_asm); (case k2 => k_asm); (case k3 => k_asm); (case k5 => k_asm); (case kK => first | exact rfl | assumption); (case kd => ktr_room); (case ku => ktr_units); k_whole))); (intro v9 n9 h9 tk9 R9 F9 N9); (obtain ⟨t9, e9, e8⟩ := R9); subst e9 e8; (try dsimp only); (try k_fold)))) | ((k_here; (with_reducible show wpAny _ _ (call (Value.ref 28) [Value.int _ _]) _ _ _); first | (k_dflt (refine' Cl.use (lead_none _ _ _ _ ?p0 ?p1 ?p2) ?k1 ?k2 ?k3 ?k4 ?k5 ?kK ?kd ?ku ?_; (case p0 => assumption); (case p1 => assumption); (case p2 => assumption); (((case k1 => k_asm); (case k2 => k_asm); (case k3 => k_asm); (case k4 => k_asm); (case k5 => k_asm); (case kK => first | exact rfl | assumption); (case kd => ktr_room); (case ku => ktr_units); k_whole))); (intro v9 n9 h9 tk9 R9 F9 N9); (obtain ⟨e9, e8⟩ := R9); subst e9 e8; (try dsimp only); (try k_fold)) | (k_dflt (refine' Cl.use (lead_some _ _ _ _ ?p0 ?p1 ?p2) ?k1 ?k2 ?k3 ?k4 ?k5 ?kK ?kd ?ku ?_; (case p0 => assumption); (case p1 => assumption); (case p2 => assumption); (((case k1 => k_asm); (case k2 => k_asm); (case k3 => k_asm); (case k4 => k_asm); (case k5 => k_asm); (case kK => first | exact rfl | assumption); (case kd => ktr_room); (case ku => ktr_units); k_whole))); (intro v9 n9 h9 tk9 R9 F9 N9); (obtain ⟨ad9, t19, t29, t39, e9, e8, l9⟩ := R9); subst e9 e8; (try k_lt l9); (try dsimp only); (try k_fold)))) | (((with_reducible show wpAny _ _ (call (Value.builtin "str.join") _) _ _ _); (k_here; (refine join_sgn (by assumption) (by k_mem) (by assumption) (by omega) ?_); intro _ _; (try dsimp only)))) | ((k_here; (with_reducible show wpAny _ _ (subscriptTail _ _ (Value.bytes _ _) (Value.int _ _)) _ _ _); (refine item_b (by assumption) (by assumption) (by omega) ?_))) | walk1 | (dsimp only; walk1) | (leave1; (try dsimp only)))))
        have e0 : readF (KBw.bInts b) i.toNat = some (c, fo.toNat) := by unfold readF; rw [ho]; dsimp only; rw [hlead]; dsimp only; rw [← e1, hcode]; rfl
        (rename News _ _ _ _ => nE'); (try simp only [List.push_toArray] at nE')
        refine ksw_end (_, _, vs ++ [_], dn ++ [c], _) (by assumption) nE' (by first | kst_in | kst_inAny) (strs_sgn hS rfl) (by kst_all) (by ksw_same) ?_ ?_
        · dsimp only
          refine ⟨by omega, by omega, ?_, by simp only [List.length_append, List.length_cons, List.length_nil]; omega⟩
          rw [show (i + (fo + 1)).toNat = i.toNat + 1 + fo.toNat by omega, List.append_assoc, ← hP, decAt_good hib e0]; rfl
        · dsimp only; omega
  · (repeat' (first | (k_unfold; (try dsimp only)) | ((fail_if_success (with_reducible show wpAny _ _ (pyIter _) _ _ _)); (fail_if_success (with_reducible show InvEndN _ _ _ _ _ _ _)); (fail_if_success (with_reducible show KswEnd _ _ _ _ _ _ _ _ _ _ _ _)); (fail_if_success (with_reducible show wpAny _ _ (exec (Stmt.While _ _ _ _) _) _ _ _)); first | ((k_here; (with_reducible show wpAny _ _ (call (Value.ref 42) [Value.bytes _ _, Value.int _ _, Value.ref _]) _ _ _); first | (k_dflt (refine' Cl.use (code_none _ _ _ _ _ _ _ _ _ _ _ _ _ ?p0 ?p1 ?p2 ?p3 ?p4) ?k1 ?k2 ?k3 ?k4 ?k5 ?kK ?kd ?ku ?_; (case k4 => k_asm); (case p0 => assumption); (case p1 => omega); (case p2 => omega); (case p3 => omega); (case p4 => assumption); (((case k1 => k_asm); (case k2 => k_asm); (case k3 => k_asm); (case k5 => k_asm); (case kK => first | exact rfl | assumption); (case kd => ktr_room); (case ku => ktr_units); k_whole))); (intro v9 n9 h9 tk9 R9 F9 N9); (obtain ⟨e9, e8⟩ := R9); subst e9 e8; (try dsimp only); (try k_fold)) | (k_dflt (refine' Cl.use (code_some _ _ _ _ _ _ _ _ _ _ _ _ _ ?p0 ?p1 ?p2 ?p3 ?p4) ?k1 ?k2 ?k3 ?k4 ?k5 ?kK ?kd ?ku ?_; (case k4 => k_asm); (case p0 => assumption); (case p1 => omega); (case p2 => omega); (case p3 => omega); (case p4 => assumption); (((case k1 => k_asm); (case k2 => k_asm); (case k3 => k_asm); (case k5 => k_asm); (case kK => first | exact rfl | assumption); (case kd => ktr_room); (case ku => ktr_units); k_whole))); (intro v9 n9 h9 tk9 R9 F9 N9); (obtain ⟨t9, e9, e8⟩ := R9); subst e9 e8; (try dsimp only); (try k_fold)))) | ((k_here; (with_reducible show wpAny _ _ (call (Value.ref 28) [Value.int _ _]) _ _ _); first | (k_dflt (refine' Cl.use (lead_none _ _ _ _ ?p0 ?p1 ?p2) ?k1 ?k2 ?k3 ?k4 ?k5 ?kK ?kd ?ku ?_; (case p0 => assumption); (case p1 => assumption); (case p2 => assumption); (((case k1 => k_asm); (case k2 => k_asm); (case k3 => k_asm); (case k4 => k_asm); (case k5 => k_asm); (case kK => first | exact rfl | assumption); (case kd => ktr_room); (case ku => ktr_units); k_whole))); (intro v9 n9 h9 tk9 R9 F9 N9); (obtain ⟨e9, e8⟩ := R9); subst e9 e8; (try dsimp only); (try k_fold)) | (k_dflt (refine' Cl.use (lead_some _ _ _ _ ?p0 ?p1 ?p2) ?k1 ?k2 ?k3 ?k4 ?k5 ?kK ?kd ?ku ?_; (case p0 => assumption); (case p1 => assumption); (case p2 => assumption); (((case k1 => k_asm); (case k2 => k_asm); (case k3 => k_asm); (case k4 => k_asm); (case k5 => k_asm); (case kK => first | exact rfl | assumption); (case kd => ktr_room); (case ku => ktr_units); k_whole))); (intro v9 n9 h9 tk9 R9 F9 N9); (obtain ⟨ad9, t19, t29, t39, e9, e8, l9⟩ := R9); subst e9 e8; (try k_lt l9); (try dsimp only); (try k_fold)))) | (((with_reducible show wpAny _ _ (call (Value.builtin "str.join") _) _ _ _); (k_here; (refine join_sgn (by assumption) (by k_mem) (by assumption) (by omega) ?_); intro _ _; (try dsimp only)))) | ((k_here; (with_reducible show wpAny _ _ (subscriptTail _ _ (Value.bytes _ _) (Value.int _ _)) _ _ _); (refine item_b (by assumption) (by assumption) (by omega) ?_))) | walk1 | (dsimp only; walk1) | (leave1; (try dsimp only)))))
    refine hret _ _ _ _ ⟨rfl, ?_⟩ (by k_asm) (kst_newsOf (by k_asm) (fun p hp => List.mem_cons_of_mem _ hp))
    rw [decAt_end (by omega), List.append_nil] at hP
    rw [← hP]; exact ⟨_, rfl⟩
end Mine
end
section
open PySem PySem.W PyProof.Rows
namespace Mine
def readO (v : Value) (l : Led) (ol : Addr) (oo : Obj) (r : Option (Int × Nat)) : Prop :=
  match r with
  | none => v = .none ∧ l = [(ol, oo)]
  | some (c, k) => ∃ ad t1 t2 n, v = .ref ad ∧ l = [(ad, W.listOf #[.int c t1, .int ((k : Int) + 1) t2] n), (ol, oo)] ∧ ad ≠ ol
theorem readF_0 {os : List Int} {i : Nat} {o : Int} (ho : os[i]? = some o) (h : (128 ≤ o ∧ o < 192) ∨ 248 ≤ o) : readF os i = none := by
  unfold readF; rw [ho]; dsimp only
  have : leadF o = none := by unfold leadF; (repeat' split) <;> first | rfl | omega
  rw [this]
theorem readF_1 {os : List Int} {i : Nat} {o : Int} (ho : os[i]? = some o) (h : 0 ≤ o ∧ o < 128) : readF os i = (codeF os (i + 1) 0 (o - 0) 0).map fun c => (c, 0) := by
  unfold readF; rw [ho]; dsimp only
  have : leadF o = some (0, o, 0) := by unfold leadF; rw [if_pos h.2]
  rw [this, Int.sub_zero]; rfl
theorem foldC_ge {l : List Int} {c d : Int} (h : foldC l c = some d) : c * 64 ^ l.length ≤ d ∧ d < (c + 1) * 64 ^ l.length := by
  induction l generalizing c with
  | nil => simp [foldC] at h; subst h; simp; omega
  | cons a r ih =>
    simp only [foldC] at h
    split at h
    · rename_i q
      have := ih h
      have hp : (0 : Int) < 64 ^ r.length := Int.pow_pos (by decide)
      simp only [List.length_cons, Int.pow_succ]
      constructor
      · have h1 : c * 64 * 64 ^ r.length ≤ (64 * c + (a - 128)) * 64 ^ r.length := Int.mul_le_mul_of_nonneg_right (by omega) (by omega)
        have e1 : c * (64 ^ r.length * 64) = c * 64 * 64 ^ r.length := by rw [Int.mul_assoc, Int.mul_comm 64]
        omega
      · have h1 : (64 * c + (a - 128) + 1) * 64 ^ r.length ≤ (c + 1) * 64 * 64 ^ r.length := Int.mul_le_mul_of_nonneg_right (by omega) (by omega)
        have e1 : (c + 1) * (64 ^ r.length * 64) = (c + 1) * 64 * 64 ^ r.length := by rw [Int.mul_assoc, Int.mul_comm 64]
        omega
    · cases h
theorem codeF_none_of {os : List Int} {i : Nat} {fo co le : Int} (h : ∀ d, foldC ((os.drop i).take fo.toNat) co = some d → (i : Int) + fo ≤ os.length → d < le ∨ d > 1114111) : codeF os i fo co le = none := by
  unfold codeF
  split
  · rfl
  · rename_i q
    cases e : foldC ((os.drop i).take fo.toNat) co with
    | none => rfl
    | some d => simp only [Option.bind_some]; rw [if_pos (h d e (by omega))]
theorem readF_2 {os : List Int} {i : Nat} {o : Int} (ho : os[i]? = some o) (h : 192 ≤ o ∧ o < 224) : readF os i = (codeF os (i + 1) 1 (o - 192) 128).map fun c => (c, 1) := by
  unfold readF; rw [ho]; dsimp only
  by_cases q : 194 ≤ o
  · have : leadF o = some (1, o % 32, 128) := by unfold leadF; rw [if_neg (by omega), if_pos (by omega)]
    rw [this, show o % 32 = o - 192 by omega]; rfl
  · have : leadF o = none := by unfold leadF; (repeat' split) <;> first | rfl | omega
    rw [this, codeF_none_of]; · rfl
    intro d hd hl
    have := (foldC_ge hd).2
    rw [List.length_take, List.length_drop, show min (Int.toNat 1) (os.length - (i + 1)) = 1 by omega] at this
    omega
theorem readF_3 {os : List Int} {i : Nat} {o : Int} (ho : os[i]? = some o) (h : 224 ≤ o ∧ o < 240) : readF os i = (codeF os (i + 1) 2 (o - 224) 2048).map fun c => (c, 2) := by
  unfold readF; rw [ho]; dsimp only
  have : leadF o = some (2, o % 16, 2048) := by unfold leadF; rw [if_neg (by omega), if_neg (by omega), if_pos (by omega)]
  rw [this, show o % 16 = o - 224 by omega]; rfl
theorem readF_4 {os : List Int} {i : Nat} {o : Int} (ho : os[i]? = some o) (h : 240 ≤ o ∧ o < 248) : readF os i = (codeF os (i + 1) 3 (o - 240) 65536).map fun c => (c, 3) := by
  unfold readF; rw [ho]; dsimp only
  by_cases q : o < 245
  · have : leadF o = some (3, o % 8, 65536) := by unfold leadF; rw [if_neg (by omega), if_neg (by omega), if_neg (by omega), if_pos (by omega)]
    rw [this, show o % 8 = o - 240 by omega]; rfl
  · have : leadF o = none := by unfold leadF; (repeat' split) <;> first | rfl | omega
    rw [this, codeF_none_of]; · rfl
    intro d hd hl
    have := (foldC_ge hd).1
    rw [List.length_take, List.length_drop, show min (Int.toNat 3) (os.length - (i + 1)) = 3 by omega] at this
    omega
/-- the loop's list is the part behind the first octet -/
theorem readSl {os pre post : List Int} {x at' : Int} {fo : Nat} {k : Int} (hk1 : (os.drop (at' + 1).toNat).take (min (at' + k).toNat os.length - (at' + 1).toNat) = pre ++ x :: post) (h : 0 ≤ at' ∧ k = fo + 1 ∧ at' + k ≤ os.length) :
    (os.drop (at'.toNat + 1)).take fo = pre ++ x :: post := by
  rw [← hk1, show (at' + 1).toNat = at'.toNat + 1 by omega, show min (at' + k).toNat os.length - (at'.toNat + 1) = fo by omega]
theorem codeF_done {os : List Int} {at' : Int} {fo : Nat} {co le d k : Int} (h : 0 ≤ at' ∧ k = fo + 1 ∧ at' + k ≤ os.length) (hP : foldC ((os.drop (at' + 1).toNat).take (min (at' + k).toNat os.length - (at' + 1).toNat)) co = some d) :
    codeF os (at'.toNat + 1) fo co le = if d < le ∨ d > 1114111 then none else some d := by
  unfold codeF
  rw [show (at' + 1).toNat = at'.toNat + 1 by omega, show min (at' + k).toNat os.length - (at'.toNat + 1) = fo by omega] at hP
  rw [if_neg (by omega), Int.toNat_natCast, hP]; rfl
theorem news_two {h₀ h : Heap} {L : Addr} {x q : Addr × Obj} {l : Led} (N : News h₀ L h (x :: l)) (hq : q ∈ x :: l) : News h₀ L h [x, q] := by
  intro p hp
  rcases List.mem_cons.mp hp with rfl | hp
  · exact N _ (.head _)
  · rw [List.mem_singleton.mp hp]; exact N _ hq
theorem codeF_stop {os pre post : List Int} {i : Nat} {fo co le x d : Int} (hfit : (i : Int) + fo ≤ os.length) (hs : (os.drop i).take fo.toNat = pre ++ x :: post) (hP : foldC pre co = some d) (hx : ¬ (128 ≤ x ∧ x < 192)) : codeF os i fo co le = none := by
  unfold codeF
  rw [if_neg (by omega), hs, show pre ++ x :: post = (pre ++ [x]) ++ post by simp, foldC_none_more]
  · rfl
  · rw [foldC_snoc, hP]; simp [hx]
theorem kstB_sameR {m : Str → Option Value} : ∀ {ps : List (Str × Value)}, (∀ p ∈ ps, m p.1 = some p.2) → kstB m ps = m := by
  intro ps
  induction ps with
  | nil => intro _; rfl
  | cons p r ih =>
    intro h
    funext y
    have h1 := h p (.head _)
    have h2 := congrFun (ih fun q hq => h q (.tail _ hq)) y
    by_cases hy : y = p.1
    · subst hy; simp [kstB, h1]
    · simp [kstB, hy]; exact h2
theorem fr_kst {h₀ h : Heap} {L : Addr} {m : Str → Option Value} {ps : List (Str × Value)} (F : Fr h₀ L h m) (hk : ∀ p ∈ ps, m p.1 = some p.2) : Fr h₀ L h (kstB m ps) := by
  rw [kstB_sameR hk]; exact F
abbrev turnM (ol : Addr) (at' : Int) (ta : Tok) (K lo hi le : Int) (t1 t2 t3 t4 : Tok) : List (Str × Value) :=
  [(Str.ofString "least", .int le t4), (Str.ofString "high", .int hi t3), (Str.ofString "low", .int lo t2), (Str.ofString "many", .int K t1), (Str.ofString "at", .int at' ta), (Str.ofString "octets", .ref ol)]
/-- what one turn of the table's loop does where its row fits -/
def TurnR (w : World) (ol : Addr) (at' : Int) (ta : Tok) (vs : List Value) (os : List Int) (n : Nat) (o : Int) (g9 : Heap) (L9 : Addr) (A9 : Around) (st9 : Stmt) (env9 : Env) (E9 : Value → Shared → Prop) : Prop :=
  ∀ (K lo hi le : Int) (fo : Nat) (t1 t2 t3 t4 : Tok) (m : Str → Option Value) (s9 : Shared) (led' : Led) (Q9 : Flow → Shared → Prop), Fr g9 L9 s9.heap m → News g9 L9 s9.heap led' →
    (∀ p ∈ turnM ol at' ta K lo hi le t1 t2 t3 t4, m p.1 = some p.2) → (ol, W.listOf vs.toArray n) ∈ led' →
    K = fo + 1 ∧ fo ≤ 3 ∧ 0 ≤ lo ∧ lo ≤ 240 ∧ hi ≤ 248 ∧ lo ≤ o ∧ o < hi ∧ o - lo < 128 ∧ 0 ≤ le ∧ le ≤ 65536 ∧ at' + K ≤ os.length →
    readF os at'.toNat = (codeF os (at'.toNat + 1) fo (o - lo) le).map (fun c => (c, fo)) →
    (∀ u' h' tk', readF os at'.toNat = none → Fr g9 L9 h' u' → News g9 L9 h' [(ol, W.listOf vs.toArray n)] → Q9 (.ret .none) { s9 with heap := h', toks := tk' }) →
    (∀ c ad ta tb n9 u' h' tk', readF os at'.toNat = some (c, fo) → Fr g9 L9 h' u' → News g9 L9 h' [(ad, W.listOf #[.int c ta, .int K tb] n9), (ol, W.listOf vs.toArray n)] → ad ≠ ol → Q9 (.ret (.ref ad)) { s9 with heap := h', toks := tk' }) →
    wpAny (model PySem.Challenge.rw_nt0091_01.row.prog w) A9 (exec st9 env9) Q9 E9 s9
/-- what one turn does where its row does not fit -/
def TurnF (w : World) (ol : Addr) (at' : Int) (ta : Tok) (vs : List Value) (os : List Int) (n : Nat) (o : Int) (g9 : Heap) (L9 : Addr) (A9 : Around) (st9 : Stmt) (env9 : Env) (E9 : Value → Shared → Prop) : Prop :=
  ∀ (K lo hi le : Int) (t1 t2 t3 t4 : Tok) (m : Str → Option Value) (s9 : Shared) (led' : Led) (Q9 : Flow → Shared → Prop), Fr g9 L9 s9.heap m → News g9 L9 s9.heap led' →
    (∀ p ∈ turnM ol at' ta K lo hi le t1 t2 t3 t4, m p.1 = some p.2) → (ol, W.listOf vs.toArray n) ∈ led' →
    0 ≤ K ∧ K ≤ 4 ∧ 0 ≤ lo ∧ lo ≤ 240 ∧ 0 ≤ hi ∧ hi ≤ 248 → ¬ (lo ≤ o ∧ o < hi ∧ at' + K ≤ os.length) →
    (∀ h' tk', Fr g9 L9 h' m → News g9 L9 h' led' → Q9 .next { s9 with heap := h', toks := tk' }) →
    wpAny (model PySem.Challenge.rw_nt0091_01.row.prog w) A9 (exec st9 env9) Q9 E9 s9
theorem TurnR.cut {w : World} (ol : Addr) (at' : Int) (ta : Tok) (vs : List Value) (os : List Int) (n : Nat) (o : Int) {g9 : Heap} {L9 : Addr} {m : Str → Option Value} {A9 : Around} {st9 : Stmt} {env9 : Env} {Q9 : Flow → Shared → Prop} {E9 : Value → Shared → Prop} {s9 : Shared}
    (_F : Fr g9 L9 s9.heap m) (hk : TurnR w ol at' ta vs os n o g9 L9 A9 st9 env9 E9) (hf : TurnF w ol at' ta vs os n o g9 L9 A9 st9 env9 E9) (hm : TurnR w ol at' ta vs os n o g9 L9 A9 st9 env9 E9 → TurnF w ol at' ta vs os n o g9 L9 A9 st9 env9 E9 → wpAny (model PySem.Challenge.rw_nt0091_01.row.prog w) A9 (exec st9 env9) Q9 E9 s9) :
    wpAny (model PySem.Challenge.rw_nt0091_01.row.prog w) A9 (exec st9 env9) Q9 E9 s9 := hm hk hf
theorem readF_no {os : List Int} {at' o : Int} (h0 : 0 ≤ at') (ho : os[at'.toNat]? = some o) (ho0 : 0 ≤ o) (ho1 : o < 256) (hl : at' < os.length) (h1 : ¬ ((0 : Int) ≤ o ∧ o < 128 ∧ at' + 1 ≤ os.length)) (h2 : ¬ (192 ≤ o ∧ o < 224 ∧ at' + 2 ≤ os.length))
    (h3 : ¬ (224 ≤ o ∧ o < 240 ∧ at' + 3 ≤ os.length)) (h4 : ¬ (240 ≤ o ∧ o < 248 ∧ at' + 4 ≤ os.length)) : readF os at'.toNat = none := by
  have cut : ∀ (fo co le : Int), ¬ at' + (fo + 1) ≤ os.length → codeF os (at'.toNat + 1) fo co le = none := by
    intro fo co le h; unfold codeF; rw [if_pos (by omega)]
  by_cases c1 : o < 192
  · exact readF_0 ho (by omega)
  by_cases c2 : o < 224
  · rw [readF_2 ho (by omega), cut 1 _ _ (by omega)]; rfl
  by_cases c3 : o < 240
  · rw [readF_3 ho (by omega), cut 2 _ _ (by omega)]; rfl
  by_cases c4 : o < 248
  · rw [readF_4 ho (by omega), cut 3 _ _ (by omega)]; rfl
  exact readF_0 ho (by omega)
theorem read_cl (w : World) (ol : Addr) (at' : Int) (ta : Tok) (vs : List Value) (os : List Int) (n : Nat) (hv : IntsAre vs os) (hlen : os.length ≤ 100) (h0 : 0 ≤ at') (h1 : at' < os.length) (hr : ∀ o ∈ os, 0 ≤ o ∧ o < 256) :
   ClS w 98 4 100 [.ref ol, .int at' ta] [(ol, W.listOf vs.toArray n)] (fun v l => readO v l ol (W.listOf vs.toArray n) (readF os at'.toNat)) := by
  unfold ClS; k_fill
  intro loose mean mg mb dp un gd cn cs a ccd cl outer A₀ base h₀ L m s Q E B F X N T hk hd hu hret
  refine wpAny_call ?_
  k_dflt (refine' code_defG (binds := [(Str.ofString "octets", Value.ref ol), (Str.ofString "at", Value.int at' ta)]) ?k1 ?k2 ?k3 ?k4 ?k5 ?kA ?kF ?kK ?k6 ?k7 ?k8 ?k9 ?kB ?_ ?c2 ?c3 ?c4 ?c5; (((case kA => exact rfl); (case kF => exact rfl); (case kK => assumption); (case k1 => k_asm); (case k2 => k_asm); (case k3 => k_asm); (case k4 => k_asm); (case k5 => k_asm); (case k6 => k_is); (case k7 => k_is); (case k8 => ktr_room); (case k9 => exact BindsTo.of_eq rfl); (case c5 => decide); (case kB => exact locs rfl); (case c2 => exact rfl); (case c3 => exact rfl); (case c4 => exact rfl); k_whole; intro g' L' h' FG' F' N' B' X' T' kG'; (try dsimp only); (try k_lift B'); (try dsimp only [List.length_cons, List.length_nil, List.reverse_cons, List.reverse_nil, List.nil_append, List.cons_append] at F' ⊢); (try k_fold))))
  (rename GSub _ _ _ => kG')
  obtain ⟨o, ho⟩ : ∃ o, os[at'.toNat]? = some o := ⟨_, List.getElem?_eq_getElem (by omega)⟩
  obtain ⟨ho0, ho1⟩ := hr o (List.mem_of_getElem? ho)
  (repeat' (first | (k_unfold; (try dsimp only)) | ((fail_if_success (with_reducible show wpAny _ _ (exec (Stmt.For (Expr.Name _ _) _ _ _ _) _) _ _ _)); (fail_if_success (with_reducible show wpAny _ _ (exec (Stmt.If (Expr.BoolOp _ _ _) _ _ _) _) _ _ _)); (fail_if_success (with_reducible show wpAny _ _ (pyIter _) _ _ _)); (fail_if_success (with_reducible show InvEndN _ _ _ _ _ _ _)); (fail_if_success (with_reducible show wpAny _ _ (exec (Stmt.For (Expr.Tuple _ _ _) _ _ _ _) _) _ _ _)); (fail_if_success (with_reducible show KswEnd _ _ _ _ _ _ _ _ _ _ _ _)); (fail_if_success (with_reducible show wpAny _ _ (exec (Stmt.While _ _ _ _) _) _ _ _)); first | ((k_here; (with_reducible show wpAny _ _ (subscriptTail _ _ (Value.ref _) (Value.int _ _)) _ _ _); (k_dflt (refine' item_l ?q1 ?q2 ?q3 ?q4 ?q5 ?q6 ?_; (case q1 => k_asm); (case q2 => k_mem); (case q3 => assumption); (case q4 => assumption); (case q5 => assumption); (case q6 => omega))); intro _)) | walk1 | (dsimp only; walk1) | (leave1; (try dsimp only)))))
  ((refine' For_turns ?F ?_ ?hs ?hE; (case F => k_asm); (case hs => intro _; rfl); (case hE => exact PassesOwn.leaving)))
  (repeat' (first | (k_unfold; (try dsimp only)) | ((fail_if_success (with_reducible show wpAny _ _ (exec (Stmt.For (Expr.Name _ _) _ _ _ _) _) _ _ _)); (fail_if_success (with_reducible show wpAny _ _ (exec (Stmt.If (Expr.BoolOp _ _ _) _ _ _) _) _ _ _)); (fail_if_success (with_reducible show wpAny _ _ (pyIter _) _ _ _)); (fail_if_success (with_reducible show InvEndN _ _ _ _ _ _ _)); (fail_if_success (with_reducible show wpAny _ _ (exec (Stmt.For (Expr.Tuple _ _ _) _ _ _ _) _) _ _ _)); (fail_if_success (with_reducible show KswEnd _ _ _ _ _ _ _ _ _ _ _ _)); (fail_if_success (with_reducible show wpAny _ _ (exec (Stmt.While _ _ _ _) _) _ _ _)); first | ((k_here; (with_reducible show wpAny _ _ (subscriptTail _ _ (Value.ref _) (Value.int _ _)) _ _ _); (k_dflt (refine' item_l ?q1 ?q2 ?q3 ?q4 ?q5 ?q6 ?_; (case q1 => k_asm); (case q2 => k_mem); (case q3 => assumption); (case q4 => assumption); (case q5 => assumption); (case q6 => omega))); intro _)) | walk1 | (dsimp only; walk1) | (leave1; (try dsimp only)))))
  walk1
  (repeat' (first | (k_unfold; (try dsimp only)) | ((fail_if_success (with_reducible show wpAny _ _ (exec (Stmt.For (Expr.Name _ _) _ _ _ _) _) _ _ _)); (fail_if_success (with_reducible show wpAny _ _ (exec (Stmt.If (Expr.BoolOp _ _ _) _ _ _) _) _ _ _)); (fail_if_success (with_reducible show wpAny _ _ (pyIter _) _ _ _)); (fail_if_success (with_reducible show InvEndN _ _ _ _ _ _ _)); (fail_if_success (with_reducible show wpAny _ _ (exec (Stmt.For (Expr.Tuple _ _ _) _ _ _ _) _) _ _ _)); (fail_if_success (with_reducible show KswEnd _ _ _ _ _ _ _ _ _ _ _ _)); (fail_if_success (with_reducible show wpAny _ _ (exec (Stmt.While _ _ _ _) _) _ _ _)); first | ((k_here; (with_reducible show wpAny _ _ (subscriptTail _ _ (Value.ref _) (Value.int _ _)) _ _ _); (k_dflt (refine' item_l ?q1 ?q2 ?q3 ?q4 ?q5 ?q6 ?_; (case q1 => k_asm); (case q2 => k_mem); (case q3 => assumption); (case q4 => assumption); (case q5 => assumption); (case q6 => omega))); intro _)) | walk1 | (dsimp only; walk1) | (leave1; (try dsimp only)))))
  (rename Fr _ _ _ _ => F8); (rename News _ _ _ _ => N8)
  refine TurnR.cut ol at' ta vs os n o F8 ?key9 ?keyF (fun key keyF => ?main9)
  case key9 =>
    intro K lo hi le fo t1 t2 t3 t4 m9 s9 led' Q9 F9 N9 hm9 hmem ⟨hK, hfo, hlo0, hlo1, hhi0, hlo, hhi, hlt, hle0, hle1, hf⟩ hcls ret0 ret1
    clear hret
    (try clear F8 N8)
    replace F9 := fr_kst F9 hm9
    replace N9 : News _ _ s9.heap [(ol, W.listOf vs.toArray n)] := news_of N9 (by simpa using hmem)
    clear hmem hm9
    dsimp only [turnM, kstB] at F9
    walk1
    (repeat' (first | (k_unfold; (try dsimp only)) | ((fail_if_success (with_reducible show wpAny _ _ (exec (Stmt.For (Expr.Name _ _) _ _ _ _) _) _ _ _)); (fail_if_success (with_reducible show wpAny _ _ (exec (Stmt.If (Expr.BoolOp _ _ _) _ _ _) _) _ _ _)); (fail_if_success (with_reducible show wpAny _ _ (pyIter _) _ _ _)); (fail_if_success (with_reducible show InvEndN _ _ _ _ _ _ _)); (fail_if_success (with_reducible show wpAny _ _ (exec (Stmt.For (Expr.Tuple _ _ _) _ _ _ _) _) _ _ _)); (fail_if_success (with_reducible show KswEnd _ _ _ _ _ _ _ _ _ _ _ _)); (fail_if_success (with_reducible show wpAny _ _ (exec (Stmt.While _ _ _ _) _) _ _ _)); first | ((k_here; (with_reducible show wpAny _ _ (subscriptTail _ _ (Value.ref _) (Value.int _ _)) _ _ _); (k_dflt (refine' item_l ?q1 ?q2 ?q3 ?q4 ?q5 ?q6 ?_; (case q1 => k_asm); (case q2 => k_mem); (case q3 => assumption); (case q4 => assumption); (case q5 => assumption); (case q6 => omega))); intro _)) | walk1 | (dsimp only; walk1) | (leave1; (try dsimp only)))))
    (((rename Fr _ _ _ _ => lF'); (with_unfolding_all refine' For_invVF lF' ?k1 ?k2 ?_; (case k1 => exact rfl); (case k2 => exact rfl))))
    (repeat' (first | (k_unfold; (try dsimp only)) | ((fail_if_success (with_reducible show wpAny _ _ (exec (Stmt.For (Expr.Name _ _) _ _ _ _) _) _ _ _)); (fail_if_success (with_reducible show wpAny _ _ (exec (Stmt.If (Expr.BoolOp _ _ _) _ _ _) _) _ _ _)); (fail_if_success (with_reducible show wpAny _ _ (pyIter _) _ _ _)); (fail_if_success (with_reducible show InvEndN _ _ _ _ _ _ _)); (fail_if_success (with_reducible show wpAny _ _ (exec (Stmt.For (Expr.Tuple _ _ _) _ _ _ _) _) _ _ _)); (fail_if_success (with_reducible show KswEnd _ _ _ _ _ _ _ _ _ _ _ _)); (fail_if_success (with_reducible show wpAny _ _ (exec (Stmt.While _ _ _ _) _) _ _ _)); first | ((k_here; (with_reducible show wpAny _ _ (subscriptTail _ _ (Value.ref _) (Value.int _ _)) _ _ _); (k_dflt (refine' item_l ?q1 ?q2 ?q3 ?q4 ?q5 ?q6 ?_; (case q1 => k_asm); (case q2 => k_mem); (case q3 => assumption); (case q4 => assumption); (case q5 => assumption); (case q6 => omega))); intro _)) | walk1 | (dsimp only; walk1) | (leave1; (try dsimp only)))))
    (rename Fr _ _ _ _ => lF'); (rename News _ _ _ _ => lN'); (rename IntsAre _ (List.take _ _) => iL')
    with_unfolding_all refine' kst_listL (nn := 0) (σ := Int × Tok) (fun _ => _) (fun c => [(Str.ofString "code", .int c.1 c.2)]) (fun _ => True) [] (fun pre c => foldC pre (o - lo) = some c.1 ∧ 0 ≤ c.1 ∧ c.1 < 128 * 64 ^ pre.length) (_, _) (by rfl) ?hl iL' lF' ?kn ?kf ?kk ?kp ?_ ?_
    case kn => exact lN'
    case hl => intro _; (try dsimp only); first | exact List.mem_cons_self | kst_mem | kst_in | kst_inAny
    case kf => trivial
    case kk => kst_all
    case kp => exact ⟨by simp [foldC], by dsimp only; omega, by dsimp only; simp; omega⟩
    all_goals (try clear lF' lN')
    · intro ⟨code, tc⟩ pre post x tk1 u h tk own hk1 hx0 hoff _ ⟨hP, hc0, hc1⟩ F1 N1
      dsimp only [kstB] at F1 hP hc0 hc1 N1
      have kMark := kstMark
      obtain ⟨hx1, hx2⟩ := hr x (List.mem_of_mem_drop (List.mem_of_mem_take hx0))
      have hpl := congrArg List.length hk1
      simp only [List.length_append, List.length_cons, List.length_take, List.length_drop] at hpl
      have hc2 : code < 100000000 := by
        have : pre.length = 0 ∨ pre.length = 1 ∨ pre.length = 2 := by omega
        rcases this with e | e | e <;> rw [e] at hc1 <;> omega
      (try k_unmd); (try k_fold)
      by_cases hx : 128 ≤ x ∧ x < 192
      · obtain ⟨hxl, hxh⟩ := hx
        (repeat' (first | (k_unfold; (try dsimp only)) | ((fail_if_success (with_reducible show wpAny _ _ (exec (Stmt.For (Expr.Name _ _) _ _ _ _) _) _ _ _)); (fail_if_success (with_reducible show wpAny _ _ (exec (Stmt.If (Expr.BoolOp _ _ _) _ _ _) _) _ _ _)); (fail_if_success (with_reducible show wpAny _ _ (pyIter _) _ _ _)); (fail_if_success (with_reducible show InvEndN _ _ _ _ _ _ _)); (fail_if_success (with_reducible show wpAny _ _ (exec (Stmt.For (Expr.Tuple _ _ _) _ _ _ _) _) _ _ _)); (fail_if_success (with_reducible show KswEnd _ _ _ _ _ _ _ _ _ _ _ _)); (fail_if_success (with_reducible show wpAny _ _ (exec (Stmt.While _ _ _ _) _) _ _ _)); first | ((k_here; (with_reducible show wpAny _ _ (subscriptTail _ _ (Value.ref _) (Value.int _ _)) _ _ _); (k_dflt (refine' item_l ?q1 ?q2 ?q3 ?q4 ?q5 ?q6 ?_; (case q1 => k_asm); (case q2 => k_mem); (case q3 => assumption); (case q4 => assumption); (case q5 => assumption); (case q6 => omega))); intro _)) | walk1 | (dsimp only; walk1) | (leave1; (try dsimp only)))))
        (((rename News _ _ _ _ => nE'); (refine kst_end (_, _) (by assumption) nE' (by first | kst_in | kst_inAny) (by first | (intro p hp; kst_mem) | kst_anyIn) (by rfl) (by kst_facts) (by kst_all) (by kst_same) ?_); (try dsimp only)))
        refine ⟨?_, ?_, ?_⟩
        · rw [foldC_snoc, hP]; simp [hxl, hxh]; omega
        · omega
        · simp only [List.length_append, List.length_cons, List.length_nil, Int.pow_succ]; omega
      · (repeat' (first | (k_unfold; (try dsimp only)) | ((fail_if_success (with_reducible show wpAny _ _ (exec (Stmt.For (Expr.Name _ _) _ _ _ _) _) _ _ _)); (fail_if_success (with_reducible show wpAny _ _ (exec (Stmt.If (Expr.BoolOp _ _ _) _ _ _) _) _ _ _)); (fail_if_success (with_reducible show wpAny _ _ (pyIter _) _ _ _)); (fail_if_success (with_reducible show InvEndN _ _ _ _ _ _ _)); (fail_if_success (with_reducible show wpAny _ _ (exec (Stmt.For (Expr.Tuple _ _ _) _ _ _ _) _) _ _ _)); (fail_if_success (with_reducible show KswEnd _ _ _ _ _ _ _ _ _ _ _ _)); (fail_if_success (with_reducible show wpAny _ _ (exec (Stmt.While _ _ _ _) _) _ _ _)); first | ((k_here; (with_reducible show wpAny _ _ (subscriptTail _ _ (Value.ref _) (Value.int _ _)) _ _ _); (k_dflt (refine' item_l ?q1 ?q2 ?q3 ?q4 ?q5 ?q6 ?_; (case q1 => k_asm); (case q2 => k_mem); (case q3 => assumption); (case q4 => assumption); (case q5 => assumption); (case q6 => omega))); intro _)) | walk1 | (dsimp only; walk1) | (leave1; (try dsimp only)))))
        all_goals (refine ret0 _ _ _ (by rw [hcls, codeF_stop (by omega) (by rw [Int.toNat_natCast]; exact readSl hk1 ⟨h0, hK, hf⟩) hP hx]; rfl) (by assumption) (news_of (by assumption) (by first | kst_in | kst_inAny)))
    · intro ⟨code, tc⟩ u h tk _ ⟨hP, hc0, hc1⟩ F1 N1
      dsimp only [kstB] at F1 hP hc0 hc1 N1
      have kMark := kstMark
      (try k_unmd); (try k_fold)
      have hD : codeF os (at'.toNat + 1) fo (o - lo) le = if code < le ∨ code > 1114111 then none else some code := codeF_done (le := le) (fo := fo) ⟨h0, hK, hf⟩ hP
      (repeat' (first | (k_unfold; (try dsimp only)) | ((fail_if_success (with_reducible show wpAny _ _ (exec (Stmt.For (Expr.Name _ _) _ _ _ _) _) _ _ _)); (fail_if_success (with_reducible show wpAny _ _ (exec (Stmt.If (Expr.BoolOp _ _ _) _ _ _) _) _ _ _)); (fail_if_success (with_reducible show wpAny _ _ (pyIter _) _ _ _)); (fail_if_success (with_reducible show InvEndN _ _ _ _ _ _ _)); (fail_if_success (with_reducible show wpAny _ _ (exec (Stmt.For (Expr.Tuple _ _ _) _ _ _ _) _) _ _ _)); (fail_if_success (with_reducible show KswEnd _ _ _ _ _ _ _ _ _ _ _ _)); (fail_if_success (with_reducible show wpAny _ _ (exec (Stmt.While _ _ _ _) _) _ _ _)); first | ((k_here; (with_reducible show wpAny _ _ (subscriptTail _ _ (Value.ref _) (Value.int _ _)) _ _ _); (k_dflt (refine' item_l ?q1 ?q2 ?q3 ?q4 ?q5 ?q6 ?_; (case q1 => k_asm); (case q2 => k_mem); (case q3 => assumption); (case q4 => assumption); (case q5 => assumption); (case q6 => omega))); intro _)) | walk1 | (dsimp only; walk1) | (leave1; (try dsimp only)))))
      all_goals first
        | exact ret0 _ _ _ (by rw [hcls, hD, if_pos (by omega)]; rfl) (by assumption) (news_of (by assumption) (by first | kst_in | kst_inAny))
        | exact ret1 code _ _ _ _ _ _ _ (by rw [hcls, hD, if_neg (by omega)]; rfl) (by assumption) (news_two (q := (ol, W.listOf vs.toArray n)) (by assumption) (by (repeat (first | exact List.mem_cons_self | refine List.mem_cons_of_mem _ ?_)))) (by (first | exact Nat.ne_of_gt (by assumption) | exact Nat.ne_of_gt (And.right (by assumption)) | exact Nat.ne_of_gt (And.right (And.right (by assumption))) | exact Nat.ne_of_gt (And.right (And.right (And.right (by assumption)))) | exact Nat.ne_of_gt (And.right (And.right (And.right (And.right (by assumption))))) | exact Nat.ne_of_gt (And.right (And.right (And.right (And.right (And.right (by assumption)))))) | exact Nat.ne_of_gt (And.right (And.right (And.right (And.right (And.right (And.right (by assumption))))))) | exact Nat.ne_of_gt (And.right (And.right (And.right (And.right (And.right (And.right (And.right (by assumption)))))))) | exact Nat.ne_of_gt (And.right (And.right (And.right (And.right (And.right (And.right (And.right (And.right (by assumption))))))))) | exact Nat.ne_of_gt (And.right (And.right (And.right (And.right (And.right (And.right (And.right (And.right (And.right (by assumption))))))))))))
  case keyF =>
    intro K lo hi le t1 t2 t3 t4 m9 s9 led' Q9 F9 N9 hm9 hmem ⟨hK0, hK1, hlo0, hlo1, hhi0, hhi1⟩ hno ret0
    clear hret
    (try clear F8 N8)
    have F6 := F9
    have N6 := N9
    replace F9 := fr_kst F9 hm9
    replace N9 : News _ _ s9.heap [(ol, W.listOf vs.toArray n)] := news_of N9 (by simpa using hmem)
    clear hmem hm9
    dsimp only [turnM, kstB] at F9
    by_cases hc1 : lo ≤ o
    · by_cases hc2 : o < hi
      · have hc3 : ¬ at' + K ≤ os.length := fun h => hno ⟨hc1, hc2, h⟩
        clear hno
        walk1
        (repeat' (first | (k_unfold; (try dsimp only)) | ((fail_if_success (with_reducible show wpAny _ _ (exec (Stmt.For (Expr.Name _ _) _ _ _ _) _) _ _ _)); (fail_if_success (with_reducible show wpAny _ _ (exec (Stmt.If (Expr.BoolOp _ _ _) _ _ _) _) _ _ _)); (fail_if_success (with_reducible show wpAny _ _ (pyIter _) _ _ _)); (fail_if_success (with_reducible show InvEndN _ _ _ _ _ _ _)); (fail_if_success (with_reducible show wpAny _ _ (exec (Stmt.For (Expr.Tuple _ _ _) _ _ _ _) _) _ _ _)); (fail_if_success (with_reducible show KswEnd _ _ _ _ _ _ _ _ _ _ _ _)); (fail_if_success (with_reducible show wpAny _ _ (exec (Stmt.While _ _ _ _) _) _ _ _)); first | ((k_here; (with_reducible show wpAny _ _ (subscriptTail _ _ (Value.ref _) (Value.int _ _)) _ _ _); (k_dflt (refine' item_l ?q1 ?q2 ?q3 ?q4 ?q5 ?q6 ?_; (case q1 => k_asm); (case q2 => k_mem); (case q3 => assumption); (case q4 => assumption); (case q5 => assumption); (case q6 => omega))); intro _)) | walk1 | (dsimp only; walk1) | (leave1; (try dsimp only)))))
        exact ret0 _ _ F6 N6
      · clear hno
        walk1
        (repeat' (first | (k_unfold; (try dsimp only)) | ((fail_if_success (with_reducible show wpAny _ _ (exec (Stmt.For (Expr.Name _ _) _ _ _ _) _) _ _ _)); (fail_if_success (with_reducible show wpAny _ _ (exec (Stmt.If (Expr.BoolOp _ _ _) _ _ _) _) _ _ _)); (fail_if_success (with_reducible show wpAny _ _ (pyIter _) _ _ _)); (fail_if_success (with_reducible show InvEndN _ _ _ _ _ _ _)); (fail_if_success (with_reducible show wpAny _ _ (exec (Stmt.For (Expr.Tuple _ _ _) _ _ _ _) _) _ _ _)); (fail_if_success (with_reducible show KswEnd _ _ _ _ _ _ _ _ _ _ _ _)); (fail_if_success (with_reducible show wpAny _ _ (exec (Stmt.While _ _ _ _) _) _ _ _)); first | ((k_here; (with_reducible show wpAny _ _ (subscriptTail _ _ (Value.ref _) (Value.int _ _)) _ _ _); (k_dflt (refine' item_l ?q1 ?q2 ?q3 ?q4 ?q5 ?q6 ?_; (case q1 => k_asm); (case q2 => k_mem); (case q3 => assumption); (case q4 => assumption); (case q5 => assumption); (case q6 => omega))); intro _)) | walk1 | (dsimp only; walk1) | (leave1; (try dsimp only)))))
        exact ret0 _ _ F6 N6
    · clear hno
      walk1
      (repeat' (first | (k_unfold; (try dsimp only)) | ((fail_if_success (with_reducible show wpAny _ _ (exec (Stmt.For (Expr.Name _ _) _ _ _ _) _) _ _ _)); (fail_if_success (with_reducible show wpAny _ _ (exec (Stmt.If (Expr.BoolOp _ _ _) _ _ _) _) _ _ _)); (fail_if_success (with_reducible show wpAny _ _ (pyIter _) _ _ _)); (fail_if_success (with_reducible show InvEndN _ _ _ _ _ _ _)); (fail_if_success (with_reducible show wpAny _ _ (exec (Stmt.For (Expr.Tuple _ _ _) _ _ _ _) _) _ _ _)); (fail_if_success (with_reducible show KswEnd _ _ _ _ _ _ _ _ _ _ _ _)); (fail_if_success (with_reducible show wpAny _ _ (exec (Stmt.While _ _ _ _) _) _ _ _)); first | ((k_here; (with_reducible show wpAny _ _ (subscriptTail _ _ (Value.ref _) (Value.int _ _)) _ _ _); (k_dflt (refine' item_l ?q1 ?q2 ?q3 ?q4 ?q5 ?q6 ?_; (case q1 => k_asm); (case q2 => k_mem); (case q3 => assumption); (case q4 => assumption); (case q5 => assumption); (case q6 => omega))); intro _)) | walk1 | (dsimp only; walk1) | (leave1; (try dsimp only)))))
      exact ret0 _ _ F6 N6
  case main9 =>
    by_cases f1 : (0 : Int) ≤ o ∧ o < 128 ∧ at' + 1 ≤ os.length
    · refine key 1 0 128 0 0 _ _ _ _ _ _ _ _ (by assumption) (by assumption) (by kst_all) (by (repeat (first | exact List.mem_cons_self | refine List.mem_cons_of_mem _ ?_))) ⟨by rfl, by omega, by omega, by omega, by omega, by omega, by omega, by omega, by omega, by omega, by omega⟩ (readF_1 ho (by omega)) ?_ ?_
      · (intro u' h' tk' e9 F7 N7; (repeat' (first | (k_unfold; (try dsimp only)) | ((fail_if_success (with_reducible show wpAny _ _ (exec (Stmt.For (Expr.Name _ _) _ _ _ _) _) _ _ _)); (fail_if_success (with_reducible show wpAny _ _ (exec (Stmt.If (Expr.BoolOp _ _ _) _ _ _) _) _ _ _)); (fail_if_success (with_reducible show wpAny _ _ (pyIter _) _ _ _)); (fail_if_success (with_reducible show InvEndN _ _ _ _ _ _ _)); (fail_if_success (with_reducible show wpAny _ _ (exec (Stmt.For (Expr.Tuple _ _ _) _ _ _ _) _) _ _ _)); (fail_if_success (with_reducible show KswEnd _ _ _ _ _ _ _ _ _ _ _ _)); (fail_if_success (with_reducible show wpAny _ _ (exec (Stmt.While _ _ _ _) _) _ _ _)); first | ((k_here; (with_reducible show wpAny _ _ (subscriptTail _ _ (Value.ref _) (Value.int _ _)) _ _ _); (k_dflt (refine' item_l ?q1 ?q2 ?q3 ?q4 ?q5 ?q6 ?_; (case q1 => k_asm); (case q2 => k_mem); (case q3 => assumption); (case q4 => assumption); (case q5 => assumption); (case q6 => omega))); intro _)) | walk1 | (dsimp only; walk1) | (leave1; (try dsimp only))))); (refine hret .none [(ol, W.listOf vs.toArray n)] _ _ _ _ _ ?_ kG' (by k_asm) (news_of (by k_asm) (by first | kst_in | kst_inAny)) (by k_asm) (news_of (by k_asm) (by first | kst_in | kst_inAny))); rw [e9]; exact ⟨rfl, rfl⟩)
      · (intro c9 ad9 ta9 tb9 n9 u' h' tk' e9 F7 N7 hne9; (repeat' (first | (k_unfold; (try dsimp only)) | ((fail_if_success (with_reducible show wpAny _ _ (exec (Stmt.For (Expr.Name _ _) _ _ _ _) _) _ _ _)); (fail_if_success (with_reducible show wpAny _ _ (exec (Stmt.If (Expr.BoolOp _ _ _) _ _ _) _) _ _ _)); (fail_if_success (with_reducible show wpAny _ _ (pyIter _) _ _ _)); (fail_if_success (with_reducible show InvEndN _ _ _ _ _ _ _)); (fail_if_success (with_reducible show wpAny _ _ (exec (Stmt.For (Expr.Tuple _ _ _) _ _ _ _) _) _ _ _)); (fail_if_success (with_reducible show KswEnd _ _ _ _ _ _ _ _ _ _ _ _)); (fail_if_success (with_reducible show wpAny _ _ (exec (Stmt.While _ _ _ _) _) _ _ _)); first | ((k_here; (with_reducible show wpAny _ _ (subscriptTail _ _ (Value.ref _) (Value.int _ _)) _ _ _); (k_dflt (refine' item_l ?q1 ?q2 ?q3 ?q4 ?q5 ?q6 ?_; (case q1 => k_asm); (case q2 => k_mem); (case q3 => assumption); (case q4 => assumption); (case q5 => assumption); (case q6 => omega))); intro _)) | walk1 | (dsimp only; walk1) | (leave1; (try dsimp only))))); (refine hret (.ref ad9) [(ad9, _), (ol, W.listOf vs.toArray n)] _ _ _ _ _ ?_ kG' (by k_asm) (news_of (by k_asm) (by first | kst_in | kst_inAny)) (by k_asm) (news_of (by k_asm) (by first | kst_in | kst_inAny))); rw [e9]; exact ⟨ad9, _, _, _, rfl, rfl, hne9⟩)
    refine keyF 1 0 128 0 _ _ _ _ _ _ _ _ (by assumption) (by assumption) (by kst_all) (by (repeat (first | exact List.mem_cons_self | refine List.mem_cons_of_mem _ ?_))) ⟨by decide, by decide, by decide, by decide, by decide, by decide⟩ f1 ?_
    intro hh1 tk1 G1 H1
    (repeat' (first | (k_unfold; (try dsimp only)) | ((fail_if_success (with_reducible show wpAny _ _ (exec (Stmt.For (Expr.Name _ _) _ _ _ _) _) _ _ _)); (fail_if_success (with_reducible show wpAny _ _ (exec (Stmt.If (Expr.BoolOp _ _ _) _ _ _) _) _ _ _)); (fail_if_success (with_reducible show wpAny _ _ (pyIter _) _ _ _)); (fail_if_success (with_reducible show InvEndN _ _ _ _ _ _ _)); (fail_if_success (with_reducible show wpAny _ _ (exec (Stmt.For (Expr.Tuple _ _ _) _ _ _ _) _) _ _ _)); (fail_if_success (with_reducible show KswEnd _ _ _ _ _ _ _ _ _ _ _ _)); (fail_if_success (with_reducible show wpAny _ _ (exec (Stmt.While _ _ _ _) _) _ _ _)); first | ((k_here; (with_reducible show wpAny _ _ (subscriptTail _ _ (Value.ref _) (Value.int _ _)) _ _ _); (k_dflt (refine' item_l ?q1 ?q2 ?q3 ?q4 ?q5 ?q6 ?_; (case q1 => k_asm); (case q2 => k_mem); (case q3 => assumption); (case q4 => assumption); (case q5 => assumption); (case q6 => omega))); intro _)) | walk1 | (dsimp only; walk1) | (leave1; (try dsimp only)))))
    by_cases f2 : (192 : Int) ≤ o ∧ o < 224 ∧ at' + 2 ≤ os.length
    · refine key 2 192 224 128 1 _ _ _ _ _ _ _ _ (by assumption) (by assumption) (by kst_all) (by (repeat (first | exact List.mem_cons_self | refine List.mem_cons_of_mem _ ?_))) ⟨by rfl, by omega, by omega, by omega, by omega, by omega, by omega, by omega, by omega, by omega, by omega⟩ (readF_2 ho (by omega)) ?_ ?_
      · (intro u' h' tk' e9 F7 N7; (repeat' (first | (k_unfold; (try dsimp only)) | ((fail_if_success (with_reducible show wpAny _ _ (exec (Stmt.For (Expr.Name _ _) _ _ _ _) _) _ _ _)); (fail_if_success (with_reducible show wpAny _ _ (exec (Stmt.If (Expr.BoolOp _ _ _) _ _ _) _) _ _ _)); (fail_if_success (with_reducible show wpAny _ _ (pyIter _) _ _ _)); (fail_if_success (with_reducible show InvEndN _ _ _ _ _ _ _)); (fail_if_success (with_reducible show wpAny _ _ (exec (Stmt.For (Expr.Tuple _ _ _) _ _ _ _) _) _ _ _)); (fail_if_success (with_reducible show KswEnd _ _ _ _ _ _ _ _ _ _ _ _)); (fail_if_success (with_reducible show wpAny _ _ (exec (Stmt.While _ _ _ _) _) _ _ _)); first | ((k_here; (with_reducible show wpAny _ _ (subscriptTail _ _ (Value.ref _) (Value.int _ _)) _ _ _); (k_dflt (refine' item_l ?q1 ?q2 ?q3 ?q4 ?q5 ?q6 ?_; (case q1 => k_asm); (case q2 => k_mem); (case q3 => assumption); (case q4 => assumption); (case q5 => assumption); (case q6 => omega))); intro _)) | walk1 | (dsimp only; walk1) | (leave1; (try dsimp only))))); (refine hret .none [(ol, W.listOf vs.toArray n)] _ _ _ _ _ ?_ kG' (by k_asm) (news_of (by k_asm) (by first | kst_in | kst_inAny)) (by k_asm) (news_of (by k_asm) (by first | kst_in | kst_inAny))); rw [e9]; exact ⟨rfl, rfl⟩)
      · (intro c9 ad9 ta9 tb9 n9 u' h' tk' e9 F7 N7 hne9; (repeat' (first | (k_unfold; (try dsimp only)) | ((fail_if_success (with_reducible show wpAny _ _ (exec (Stmt.For (Expr.Name _ _) _ _ _ _) _) _ _ _)); (fail_if_success (with_reducible show wpAny _ _ (exec (Stmt.If (Expr.BoolOp _ _ _) _ _ _) _) _ _ _)); (fail_if_success (with_reducible show wpAny _ _ (pyIter _) _ _ _)); (fail_if_success (with_reducible show InvEndN _ _ _ _ _ _ _)); (fail_if_success (with_reducible show wpAny _ _ (exec (Stmt.For (Expr.Tuple _ _ _) _ _ _ _) _) _ _ _)); (fail_if_success (with_reducible show KswEnd _ _ _ _ _ _ _ _ _ _ _ _)); (fail_if_success (with_reducible show wpAny _ _ (exec (Stmt.While _ _ _ _) _) _ _ _)); first | ((k_here; (with_reducible show wpAny _ _ (subscriptTail _ _ (Value.ref _) (Value.int _ _)) _ _ _); (k_dflt (refine' item_l ?q1 ?q2 ?q3 ?q4 ?q5 ?q6 ?_; (case q1 => k_asm); (case q2 => k_mem); (case q3 => assumption); (case q4 => assumption); (case q5 => assumption); (case q6 => omega))); intro _)) | walk1 | (dsimp only; walk1) | (leave1; (try dsimp only))))); (refine hret (.ref ad9) [(ad9, _), (ol, W.listOf vs.toArray n)] _ _ _ _ _ ?_ kG' (by k_asm) (news_of (by k_asm) (by first | kst_in | kst_inAny)) (by k_asm) (news_of (by k_asm) (by first | kst_in | kst_inAny))); rw [e9]; exact ⟨ad9, _, _, _, rfl, rfl, hne9⟩)
    refine keyF 2 192 224 128 _ _ _ _ _ _ _ _ (by assumption) (by assumption) (by kst_all) (by (repeat (first | exact List.mem_cons_self | refine List.mem_cons_of_mem _ ?_))) ⟨by decide, by decide, by decide, by decide, by decide, by decide⟩ f2 ?_
    intro hh2 tk2 G2 H2
    (repeat' (first | (k_unfold; (try dsimp only)) | ((fail_if_success (with_reducible show wpAny _ _ (exec (Stmt.For (Expr.Name _ _) _ _ _ _) _) _ _ _)); (fail_if_success (with_reducible show wpAny _ _ (exec (Stmt.If (Expr.BoolOp _ _ _) _ _ _) _) _ _ _)); (fail_if_success (with_reducible show wpAny _ _ (pyIter _) _ _ _)); (fail_if_success (with_reducible show InvEndN _ _ _ _ _ _ _)); (fail_if_success (with_reducible show wpAny _ _ (exec (Stmt.For (Expr.Tuple _ _ _) _ _ _ _) _) _ _ _)); (fail_if_success (with_reducible show KswEnd _ _ _ _ _ _ _ _ _ _ _ _)); (fail_if_success (with_reducible show wpAny _ _ (exec (Stmt.While _ _ _ _) _) _ _ _)); first | ((k_here; (with_reducible show wpAny _ _ (subscriptTail _ _ (Value.ref _) (Value.int _ _)) _ _ _); (k_dflt (refine' item_l ?q1 ?q2 ?q3 ?q4 ?q5 ?q6 ?_; (case q1 => k_asm); (case q2 => k_mem); (case q3 => assumption); (case q4 => assumption); (case q5 => assumption); (case q6 => omega))); intro _)) | walk1 | (dsimp only; walk1) | (leave1; (try dsimp only)))))
    by_cases f3 : (224 : Int) ≤ o ∧ o < 240 ∧ at' + 3 ≤ os.length
    · refine key 3 224 240 2048 2 _ _ _ _ _ _ _ _ (by assumption) (by assumption) (by kst_all) (by (repeat (first | exact List.mem_cons_self | refine List.mem_cons_of_mem _ ?_))) ⟨by rfl, by omega, by omega, by omega, by omega, by omega, by omega, by omega, by omega, by omega, by omega⟩ (readF_3 ho (by omega)) ?_ ?_
      · (intro u' h' tk' e9 F7 N7; (repeat' (first | (k_unfold; (try dsimp only)) | ((fail_if_success (with_reducible show wpAny _ _ (exec (Stmt.For (Expr.Name _ _) _ _ _ _) _) _ _ _)); (fail_if_success (with_reducible show wpAny _ _ (exec (Stmt.If (Expr.BoolOp _ _ _) _ _ _) _) _ _ _)); (fail_if_success (with_reducible show wpAny _ _ (pyIter _) _ _ _)); (fail_if_success (with_reducible show InvEndN _ _ _ _ _ _ _)); (fail_if_success (with_reducible show wpAny _ _ (exec (Stmt.For (Expr.Tuple _ _ _) _ _ _ _) _) _ _ _)); (fail_if_success (with_reducible show KswEnd _ _ _ _ _ _ _ _ _ _ _ _)); (fail_if_success (with_reducible show wpAny _ _ (exec (Stmt.While _ _ _ _) _) _ _ _)); first | ((k_here; (with_reducible show wpAny _ _ (subscriptTail _ _ (Value.ref _) (Value.int _ _)) _ _ _); (k_dflt (refine' item_l ?q1 ?q2 ?q3 ?q4 ?q5 ?q6 ?_; (case q1 => k_asm); (case q2 => k_mem); (case q3 => assumption); (case q4 => assumption); (case q5 => assumption); (case q6 => omega))); intro _)) | walk1 | (dsimp only; walk1) | (leave1; (try dsimp only))))); (refine hret .none [(ol, W.listOf vs.toArray n)] _ _ _ _ _ ?_ kG' (by k_asm) (news_of (by k_asm) (by first | kst_in | kst_inAny)) (by k_asm) (news_of (by k_asm) (by first | kst_in | kst_inAny))); rw [e9]; exact ⟨rfl, rfl⟩)
      · (intro c9 ad9 ta9 tb9 n9 u' h' tk' e9 F7 N7 hne9; (repeat' (first | (k_unfold; (try dsimp only)) | ((fail_if_success (with_reducible show wpAny _ _ (exec (Stmt.For (Expr.Name _ _) _ _ _ _) _) _ _ _)); (fail_if_success (with_reducible show wpAny _ _ (exec (Stmt.If (Expr.BoolOp _ _ _) _ _ _) _) _ _ _)); (fail_if_success (with_reducible show wpAny _ _ (pyIter _) _ _ _)); (fail_if_success (with_reducible show InvEndN _ _ _ _ _ _ _)); (fail_if_success (with_reducible show wpAny _ _ (exec (Stmt.For (Expr.Tuple _ _ _) _ _ _ _) _) _ _ _)); (fail_if_success (with_reducible show KswEnd _ _ _ _ _ _ _ _ _ _ _ _)); (fail_if_success (with_reducible show wpAny _ _ (exec (Stmt.While _ _ _ _) _) _ _ _)); first | ((k_here; (with_reducible show wpAny _ _ (subscriptTail _ _ (Value.ref _) (Value.int _ _)) _ _ _); (k_dflt (refine' item_l ?q1 ?q2 ?q3 ?q4 ?q5 ?q6 ?_; (case q1 => k_asm); (case q2 => k_mem); (case q3 => assumption); (case q4 => assumption); (case q5 => assumption); (case q6 => omega))); intro _)) | walk1 | (dsimp only; walk1) | (leave1; (try dsimp only))))); (refine hret (.ref ad9) [(ad9, _), (ol, W.listOf vs.toArray n)] _ _ _ _ _ ?_ kG' (by k_asm) (news_of (by k_asm) (by first | kst_in | kst_inAny)) (by k_asm) (news_of (by k_asm) (by first | kst_in | kst_inAny))); rw [e9]; exact ⟨ad9, _, _, _, rfl, rfl, hne9⟩)
    refine keyF 3 224 240 2048 _ _ _ _ _ _ _ _ (by assumption) (by assumption) (by kst_all) (by (repeat (first | exact List.mem_cons_self | refine List.mem_cons_of_mem _ ?_))) ⟨by decide, by decide, by decide, by decide, by decide, by decide⟩ f3 ?_
    intro hh3 tk3 G3 H3
    (repeat' (first | (k_unfold; (try dsimp only)) | ((fail_if_success (with_reducible show wpAny _ _ (exec (Stmt.For (Expr.Name _ _) _ _ _ _) _) _ _ _)); (fail_if_success (with_reducible show wpAny _ _ (exec (Stmt.If (Expr.BoolOp _ _ _) _ _ _) _) _ _ _)); (fail_if_success (with_reducible show wpAny _ _ (pyIter _) _ _ _)); (fail_if_success (with_reducible show InvEndN _ _ _ _ _ _ _)); (fail_if_success (with_reducible show wpAny _ _ (exec (Stmt.For (Expr.Tuple _ _ _) _ _ _ _) _) _ _ _)); (fail_if_success (with_reducible show KswEnd _ _ _ _ _ _ _ _ _ _ _ _)); (fail_if_success (with_reducible show wpAny _ _ (exec (Stmt.While _ _ _ _) _) _ _ _)); first | ((k_here; (with_reducible show wpAny _ _ (subscriptTail _ _ (Value.ref _) (Value.int _ _)) _ _ _); (k_dflt (refine' item_l ?q1 ?q2 ?q3 ?q4 ?q5 ?q6 ?_; (case q1 => k_asm); (case q2 => k_mem); (case q3 => assumption); (case q4 => assumption); (case q5 => assumption); (case q6 => omega))); intro _)) | walk1 | (dsimp only; walk1) | (leave1; (try dsimp only)))))
    by_cases f4 : (240 : Int) ≤ o ∧ o < 248 ∧ at' + 4 ≤ os.length
    · refine key 4 240 248 65536 3 _ _ _ _ _ _ _ _ (by assumption) (by assumption) (by kst_all) (by (repeat (first | exact List.mem_cons_self | refine List.mem_cons_of_mem _ ?_))) ⟨by rfl, by omega, by omega, by omega, by omega, by omega, by omega, by omega, by omega, by omega, by omega⟩ (readF_4 ho (by omega)) ?_ ?_
      · (intro u' h' tk' e9 F7 N7; (repeat' (first | (k_unfold; (try dsimp only)) | ((fail_if_success (with_reducible show wpAny _ _ (exec (Stmt.For (Expr.Name _ _) _ _ _ _) _) _ _ _)); (fail_if_success (with_reducible show wpAny _ _ (exec (Stmt.If (Expr.BoolOp _ _ _) _ _ _) _) _ _ _)); (fail_if_success (with_reducible show wpAny _ _ (pyIter _) _ _ _)); (fail_if_success (with_reducible show InvEndN _ _ _ _ _ _ _)); (fail_if_success (with_reducible show wpAny _ _ (exec (Stmt.For (Expr.Tuple _ _ _) _ _ _ _) _) _ _ _)); (fail_if_success (with_reducible show KswEnd _ _ _ _ _ _ _ _ _ _ _ _)); (fail_if_success (with_reducible show wpAny _ _ (exec (Stmt.While _ _ _ _) _) _ _ _)); first | ((k_here; (with_reducible show wpAny _ _ (subscriptTail _ _ (Value.ref _) (Value.int _ _)) _ _ _); (k_dflt (refine' item_l ?q1 ?q2 ?q3 ?q4 ?q5 ?q6 ?_; (case q1 => k_asm); (case q2 => k_mem); (case q3 => assumption); (case q4 => assumption); (case q5 => assumption); (case q6 => omega))); intro _)) | walk1 | (dsimp only; walk1) | (leave1; (try dsimp only))))); (refine hret .none [(ol, W.listOf vs.toArray n)] _ _ _ _ _ ?_ kG' (by k_asm) (news_of (by k_asm) (by first | kst_in | kst_inAny)) (by k_asm) (news_of (by k_asm) (by first | kst_in | kst_inAny))); rw [e9]; exact ⟨rfl, rfl⟩)
      · (intro c9 ad9 ta9 tb9 n9 u' h' tk' e9 F7 N7 hne9; (repeat' (first | (k_unfold; (try dsimp only)) | ((fail_if_success (with_reducible show wpAny _ _ (exec (Stmt.For (Expr.Name _ _) _ _ _ _) _) _ _ _)); (fail_if_success (with_reducible show wpAny _ _ (exec (Stmt.If (Expr.BoolOp _ _ _) _ _ _) _) _ _ _)); (fail_if_success (with_reducible show wpAny _ _ (pyIter _) _ _ _)); (fail_if_success (with_reducible show InvEndN _ _ _ _ _ _ _)); (fail_if_success (with_reducible show wpAny _ _ (exec (Stmt.For (Expr.Tuple _ _ _) _ _ _ _) _) _ _ _)); (fail_if_success (with_reducible show KswEnd _ _ _ _ _ _ _ _ _ _ _ _)); (fail_if_success (with_reducible show wpAny _ _ (exec (Stmt.While _ _ _ _) _) _ _ _)); first | ((k_here; (with_reducible show wpAny _ _ (subscriptTail _ _ (Value.ref _) (Value.int _ _)) _ _ _); (k_dflt (refine' item_l ?q1 ?q2 ?q3 ?q4 ?q5 ?q6 ?_; (case q1 => k_asm); (case q2 => k_mem); (case q3 => assumption); (case q4 => assumption); (case q5 => assumption); (case q6 => omega))); intro _)) | walk1 | (dsimp only; walk1) | (leave1; (try dsimp only))))); (refine hret (.ref ad9) [(ad9, _), (ol, W.listOf vs.toArray n)] _ _ _ _ _ ?_ kG' (by k_asm) (news_of (by k_asm) (by first | kst_in | kst_inAny)) (by k_asm) (news_of (by k_asm) (by first | kst_in | kst_inAny))); rw [e9]; exact ⟨ad9, _, _, _, rfl, rfl, hne9⟩)
    refine keyF 4 240 248 65536 _ _ _ _ _ _ _ _ (by assumption) (by assumption) (by kst_all) (by (repeat (first | exact List.mem_cons_self | refine List.mem_cons_of_mem _ ?_))) ⟨by decide, by decide, by decide, by decide, by decide, by decide⟩ f4 ?_
    intro hh4 tk4 G4 H4
    (repeat' (first | (k_unfold; (try dsimp only)) | ((fail_if_success (with_reducible show wpAny _ _ (exec (Stmt.For (Expr.Name _ _) _ _ _ _) _) _ _ _)); (fail_if_success (with_reducible show wpAny _ _ (exec (Stmt.If (Expr.BoolOp _ _ _) _ _ _) _) _ _ _)); (fail_if_success (with_reducible show wpAny _ _ (pyIter _) _ _ _)); (fail_if_success (with_reducible show InvEndN _ _ _ _ _ _ _)); (fail_if_success (with_reducible show wpAny _ _ (exec (Stmt.For (Expr.Tuple _ _ _) _ _ _ _) _) _ _ _)); (fail_if_success (with_reducible show KswEnd _ _ _ _ _ _ _ _ _ _ _ _)); (fail_if_success (with_reducible show wpAny _ _ (exec (Stmt.While _ _ _ _) _) _ _ _)); first | ((k_here; (with_reducible show wpAny _ _ (subscriptTail _ _ (Value.ref _) (Value.int _ _)) _ _ _); (k_dflt (refine' item_l ?q1 ?q2 ?q3 ?q4 ?q5 ?q6 ?_; (case q1 => k_asm); (case q2 => k_mem); (case q3 => assumption); (case q4 => assumption); (case q5 => assumption); (case q6 => omega))); intro _)) | walk1 | (dsimp only; walk1) | (leave1; (try dsimp only)))))
    refine hret .none [(ol, W.listOf vs.toArray n)] _ _ _ _ _ ?_ kG' (by k_asm) (news_of (by k_asm) (by first | kst_in | kst_inAny)) (by k_asm) (news_of (by k_asm) (by first | kst_in | kst_inAny))
    rw [readF_no h0 ho ho0 ho1 h1 f1 f2 f3 f4]; exact ⟨rfl, rfl⟩
end Mine
end
section
open PySem PySem.W PyProof.Rows
namespace Mine
theorem lt_nq {l ad : Addr} (h : l < ad) : ad ≠ l := fun e => Nat.lt_irrefl _ (e ▸ h)
theorem read_none (w : World) (ol : Addr) (at' : Int) (ta : Tok) (vs : List Value) (os : List Int) (n : Nat) (rest : Led) (h : readF os at'.toNat = none) (hoff : ∀ p ∈ rest, p.1 ≠ ol) (hv : IntsAre vs os) (hlen : os.length ≤ 100) (h0 : 0 ≤ at') (h1 : at' < os.length) (hr : ∀ o ∈ os, 0 ≤ o ∧ o < 256) :
   Cl w 98 4 100 [.ref ol, .int at' ta] ((ol, W.listOf vs.toArray n) :: rest) (fun v l => v = .none ∧ l = (ol, W.listOf vs.toArray n) :: rest) := by
  refine ((read_cl w ol at' ta vs os n hv hlen h0 h1 hr).frame (rest := rest) (by simpa using hoff)).mono ?_
  rintro v n' ⟨n1, hR, rfl, _⟩
  rw [h] at hR
  obtain ⟨rfl, rfl⟩ := hR
  exact ⟨rfl, rfl⟩
theorem read_some (w : World) (ol : Addr) (at' : Int) (ta : Tok) (vs : List Value) (os : List Int) (n : Nat) (rest : Led) {c : Int} {k : Nat} (h : readF os at'.toNat = some (c, k)) (hoff : ∀ p ∈ rest, p.1 ≠ ol) (hv : IntsAre vs os) (hlen : os.length ≤ 100) (h0 : 0 ≤ at') (h1 : at' < os.length) (hr : ∀ o ∈ os, 0 ≤ o ∧ o < 256) :
   Cl w 98 4 100 [.ref ol, .int at' ta] ((ol, W.listOf vs.toArray n) :: rest) (fun v l => ∃ ad t1 t2 nn, v = .ref ad ∧ l = (ad, W.listOf #[.int c t1, .int ((k : Int) + 1) t2] nn) :: (ol, W.listOf vs.toArray n) :: rest ∧ ad ≠ ol ∧ ∀ p ∈ rest, p.1 ≠ ad) := by
  refine ((read_cl w ol at' ta vs os n hv hlen h0 h1 hr).frame (rest := rest) (by simpa using hoff)).mono ?_
  rintro v n' ⟨n1, hR, rfl, hq⟩
  rw [h] at hR
  obtain ⟨ad, t1, t2, nn, rfl, rfl, hne⟩ := hR
  exact ⟨ad, t1, t2, nn, rfl, rfl, hne, fun p hp => hq p hp (ad, _) (.head _) (by simpa using hne)⟩
theorem ints_snoc {vs : List Value} {ns : List Int} {n : Int} {t : Tok} (h : IntsAre vs ns) : IntsAre (vs ++ [.int n t]) (ns ++ [n]) := by
  induction h with
  | nil => exact .cons _ _ .nil
  | cons a b _ ih => exact .cons a b ih
theorem readF_fit {os : List Int} {i : Nat} {c : Int} {k : Nat} (hr : ∀ o ∈ os, 0 ≤ o ∧ o < 256) (h : readF os i = some (c, k)) : i + 1 + k ≤ os.length ∧ 0 ≤ c ∧ c ≤ 1114111 := by
  unfold readF at h
  split at h
  · cases h
  · rename_i o ho
    have hil : i < os.length := (List.getElem?_eq_some_iff.mp ho).1
    split at h
    · cases h
    · rename_i fo co le hl
      have hf := leadF_facts (hr o (List.mem_of_getElem? ho)).1 hl
      cases q : codeF os (i + 1) fo co le with
      | none => rw [q] at h; cases h
      | some d =>
        rw [q] at h
        cases h
        refine ⟨?_, codeF_range q hf.2.2.2.2.1⟩
        unfold codeF at q
        split at q
        · cases q
        · omega
theorem ltext_cl (w : World) (ol : Addr) (vs : List Value) (os : List Int) (n : Nat) (rest : Led) (hv : IntsAre vs os) (hlen : os.length ≤ 100) (hr : ∀ o ∈ os, 0 ≤ o ∧ o < 256) (hoff : ∀ p ∈ rest, p.1 ≠ ol) :
   Cl w 105 8 200 [.ref ol] ((ol, W.listOf vs.toArray n) :: rest) (fun v l => ∃ ad ws nn, v = .ref ad ∧ IntsAre ws (decAt os 0) ∧ l = (ad, W.listOf ws.toArray nn) :: (ol, W.listOf vs.toArray n) :: rest ∧ ol < ad ∧ ∀ p ∈ rest, p.1 < ad) := by
  unfold Cl; k_fill
  intro loose mean mg mb dp un gd cn cs a ccd cl outer A₀ base h₀ L m s Q E B F X N T hk hd hu hret
  refine wpAny_call ?_
  k_dflt (refine' code_def (binds := [(Str.ofString "octets", Value.ref ol)]) ?k1 ?k2 ?k3 ?k4 ?k5 ?kA ?kF ?kK ?k6 ?k7 ?k8 ?k9 ?kB ?_ ?c2 ?c3 ?c4 ?c5; (((case kA => exact rfl); (case kF => exact rfl); (case kK => assumption); (case k1 => k_asm); (case k2 => k_asm); (case k3 => k_asm); (case k4 => k_asm); (case k5 => k_asm); (case k6 => k_is); (case k7 => k_is); (case k8 => ktr_room); (case k9 => exact BindsTo.of_eq rfl); (case c5 => decide); (case kB => exact locs rfl); (case c2 => exact rfl); (case c3 => exact rfl); (case c4 => exact rfl); k_whole; intro g' L' h' FG' F' N' B' X' T'; (try dsimp only); (try k_lift B'); (try dsimp only [List.length_cons, List.length_nil, List.reverse_cons, List.reverse_nil, List.nil_append, List.cons_append] at F' ⊢); (try k_fold))))
  (repeat' (first | (k_unfold; (try dsimp only)) | ((fail_if_success (with_reducible show wpAny _ _ (pyIter _) _ _ _)); (fail_if_success (with_reducible show InvEndN _ _ _ _ _ _ _)); (fail_if_success (with_reducible show wpAny _ _ (exec (Stmt.For (Expr.Tuple _ _ _) _ _ _ _) _) _ _ _)); (fail_if_success (with_reducible show KswEnd _ _ _ _ _ _ _ _ _ _ _ _)); (fail_if_success (with_reducible show wpAny _ _ (exec (Stmt.While _ _ _ _) _) _ _ _)); first | ((k_here; (with_reducible show wpAny _ _ (call (Value.ref 98) [Value.ref _, Value.int _ _]) _ _ _); first | (k_dflt (refine' Cl.use (read_none _ _ _ _ _ _ _ _ ?p0 ?p1 ?p2 ?p3 ?p4 ?p5 ?p6) ?k1 ?k2 ?k3 ?k4 ?k5 ?kK ?kd ?ku ?_; (case k4 => exact news_swap (by assumption)); (case p0 => assumption); (case p1 => (first | assumption | exact List.forall_mem_nil _ | (refine cons_ne ?_ ?_; (focus (first | assumption | exact lt_nq (by assumption) | omega | (exact Ne.symm (by assumption)) | exact And.left (by assumption))); (first | assumption | exact List.forall_mem_nil _ | (refine cons_ne ?_ ?_; (focus (first | assumption | exact lt_nq (by assumption) | omega | (exact Ne.symm (by assumption)) | exact And.left (by assumption))); (first | assumption | exact List.forall_mem_nil _ | (refine cons_ne ?_ ?_; (focus (first | assumption | exact lt_nq (by assumption) | omega | (exact Ne.symm (by assumption)) | exact And.left (by assumption))); (first | assumption | exact List.forall_mem_nil _ | (refine cons_ne ?_ ?_; (focus (first | assumption | exact lt_nq (by assumption) | omega | (exact Ne.symm (by assumption)) | exact And.left (by assumption))); (first | assumption | exact List.forall_mem_nil _ | (refine cons_ne ?_ ?_; (focus (first | assumption | exact lt_nq (by assumption) | omega | (exact Ne.symm (by assumption)) | exact And.left (by assumption))); (first | assumption | exact List.forall_mem_nil _ | (refine cons_ne ?_ ?_; (focus (first | assumption | exact lt_nq (by assumption) | omega | (exact Ne.symm (by assumption)) | exact And.left (by assumption))); (first | assumption | exact List.forall_mem_nil _ | (refine cons_ne ?_ ?_; (focus (first | assumption | exact lt_nq (by assumption) | omega | (exact Ne.symm (by assumption)) | exact And.left (by assumption))); (first | assumption | exact List.forall_mem_nil _ | (refine cons_ne ?_ ?_; (focus (first | assumption | exact lt_nq (by assumption) | omega | (exact Ne.symm (by assumption)) | exact And.left (by assumption))); (first | assumption | exact List.forall_mem_nil _ | (refine cons_ne ?_ ?_; (focus (first | assumption | exact lt_nq (by assumption) | omega | (exact Ne.symm (by assumption)) | exact And.left (by assumption))); (fail)))))))))))))))))))); (case p2 => assumption); (case p3 => assumption); (case p4 => assumption); (case p5 => assumption); (case p6 => assumption); (((case k1 => k_asm); (case k2 => k_asm); (case k3 => k_asm); (case k5 => k_asm); (case kK => first | exact rfl | assumption); (case kd => ktr_room); (case ku => ktr_units); k_whole))); (intro v9 n9 h9 tk9 R9 F9 N9); (obtain ⟨e9, e8⟩ := R9); subst e9 e8; (try dsimp only); (try k_fold)) | (k_dflt (refine' Cl.use (read_some _ _ _ _ _ _ _ _ ?p0 ?p1 ?p2 ?p3 ?p4 ?p5 ?p6) ?k1 ?k2 ?k3 ?k4 ?k5 ?kK ?kd ?ku ?_; (case k4 => exact news_swap (by assumption)); (case p0 => assumption); (case p1 => (first | assumption | exact List.forall_mem_nil _ | (refine cons_ne ?_ ?_; (focus (first | assumption | exact lt_nq (by assumption) | omega | (exact Ne.symm (by assumption)) | exact And.left (by assumption))); (first | assumption | exact List.forall_mem_nil _ | (refine cons_ne ?_ ?_; (focus (first | assumption | exact lt_nq (by assumption) | omega | (exact Ne.symm (by assumption)) | exact And.left (by assumption))); (first | assumption | exact List.forall_mem_nil _ | (refine cons_ne ?_ ?_; (focus (first | assumption | exact lt_nq (by assumption) | omega | (exact Ne.symm (by assumption)) | exact And.left (by assumption))); (first | assumption | exact List.forall_mem_nil _ | (refine cons_ne ?_ ?_; (focus (first | assumption | exact lt_nq (by assumption) | omega | (exact Ne.symm (by assumption)) | exact And.left (by assumption))); (first | assumption | exact List.forall_mem_nil _ | (refine cons_ne ?_ ?_; (focus (first | assumption | exact lt_nq (by assumption) | omega | (exact Ne.symm (by assumption)) | exact And.left (by assumption))); (first | assumption | exact List.forall_mem_nil _ | (refine cons_ne ?_ ?_; (focus (first | assumption | exact lt_nq (by assumption) | omega | (exact Ne.symm (by assumption)) | exact And.left (by assumption))); (first | assumption | exact List.forall_mem_nil _ | (refine cons_ne ?_ ?_; (focus (first | assumption | exact lt_nq (by assumption) | omega | (exact Ne.symm (by assumption)) | exact And.left (by assumption))); (first | assumption | exact List.forall_mem_nil _ | (refine cons_ne ?_ ?_; (focus (first | assumption | exact lt_nq (by assumption) | omega | (exact Ne.symm (by assumption)) | exact And.left (by assumption))); (first | assumption | exact List.forall_mem_nil _ | (refine cons_ne ?_ ?_; (focus (first | assumption | exact lt_nq (by assumption) | omega | (exact Ne.symm (by assumption)) | exact And.left (by assumption))); (fail)))))))))))))))))))); (case p2 => assumption); (case p3 => assumption); (case p4 => assumption); (case p5 => assumption); (case p6 => assumption); (((case k1 => k_asm); (case k2 => k_asm); (case k3 => k_asm); (case k5 => k_asm); (case kK => first | exact rfl | assumption); (case kd => ktr_room); (case ku => ktr_units); k_whole))); (intro v9 n9 h9 tk9 R9 F9 N9); (obtain ⟨ad9, t19, t29, nn9, e9, e8, l9, l8⟩ := R9); subst e9 e8; (have l7 := neN l9); (have l6 := neN (l8 _ (List.mem_cons_self))); (try dsimp only at l6); (try dsimp only); (try k_fold)))) | walk1 | (dsimp only; walk1) | (leave1; (try dsimp only)))))
  (rename Fr _ _ _ _ => lF'); (rename News _ _ _ _ => lN'); rename_i sg _ hl1 _ _ _ _ _ _
  obtain ⟨hsg, hrs⟩ := hl1
  have hrs := kst_ltOf hrs
  with_unfolding_all refine' ksw_while (σ := Int × Tok × List Value × List Int × Nat) (fun c => (sg, W.listOf c.2.2.1.toArray c.2.2.2.2) :: (ol, W.listOf vs.toArray n) :: rest) (fun c => [(Str.ofString "at", .int c.1 c.2.1)]) (fun c => IntsAre c.2.2.1 c.2.2.2.1) [Str.ofString "told"] (fun c => 0 ≤ c.1 ∧ c.1 ≤ os.length ∧ c.2.2.2.1 ++ decAt os c.1.toNat = decAt os 0 ∧ (c.2.2.2.1.length : Int) ≤ c.1) (fun c => os.length - c.1.toNat) (0, _, [], [], 0) lF' (news_tail lN') ?kf ?kk ?kp ?_
  case kf => exact .nil
  case kk => kst_all
  case kp => exact ⟨Int.le_refl _, by dsimp only; omega, by simp, by simp⟩
  all_goals (try clear lF' lN')
  intro ⟨i, ti, ws, dn, nn⟩ u h tk hS ⟨hi0, hi1, hP, hdl⟩ F1 N1
  dsimp only [kstB] at F1 hP hi0 hi1 N1 hS hdl
  have kMark := kstMark
  (try k_unmd); (try k_fold)
  by_cases hlt : i < os.length
  · have hwl := hS.length
    rcases hrd : readF os i.toNat with _ | ⟨c, k⟩
    · (repeat' (first | (k_unfold; (try dsimp only)) | ((fail_if_success (with_reducible show wpAny _ _ (pyIter _) _ _ _)); (fail_if_success (with_reducible show InvEndN _ _ _ _ _ _ _)); (fail_if_success (with_reducible show wpAny _ _ (exec (Stmt.For (Expr.Tuple _ _ _) _ _ _ _) _) _ _ _)); (fail_if_success (with_reducible show KswEnd _ _ _ _ _ _ _ _ _ _ _ _)); (fail_if_success (with_reducible show wpAny _ _ (exec (Stmt.While _ _ _ _) _) _ _ _)); first | ((k_here; (with_reducible show wpAny _ _ (call (Value.ref 98) [Value.ref _, Value.int _ _]) _ _ _); first | (k_dflt (refine' Cl.use (read_none _ _ _ _ _ _ _ _ ?p0 ?p1 ?p2 ?p3 ?p4 ?p5 ?p6) ?k1 ?k2 ?k3 ?k4 ?k5 ?kK ?kd ?ku ?_; (case k4 => exact news_swap (by assumption)); (case p0 => assumption); (case p1 => (first | assumption | exact List.forall_mem_nil _ | (refine cons_ne ?_ ?_; (focus (first | assumption | exact lt_nq (by assumption) | omega | (exact Ne.symm (by assumption)) | exact And.left (by assumption))); (first | assumption | exact List.forall_mem_nil _ | (refine cons_ne ?_ ?_; (focus (first | assumption | exact lt_nq (by assumption) | omega | (exact Ne.symm (by assumption)) | exact And.left (by assumption))); (first | assumption | exact List.forall_mem_nil _ | (refine cons_ne ?_ ?_; (focus (first | assumption | exact lt_nq (by assumption) | omega | (exact Ne.symm (by assumption)) | exact And.left (by assumption))); (first | assumption | exact List.forall_mem_nil _ | (refine cons_ne ?_ ?_; (focus (first | assumption | exact lt_nq (by assumption) | omega | (exact Ne.symm (by assumption)) | exact And.left (by assumption))); (first | assumption | exact List.forall_mem_nil _ | (refine cons_ne ?_ ?_; (focus (first | assumption | exact lt_nq (by assumption) | omega | (exact Ne.symm (by assumption)) | exact And.left (by assumption))); (first | assumption | exact List.forall_mem_nil _ | (refine cons_ne ?_ ?_; (focus (first | assumption | exact lt_nq (by assumption) | omega | (exact Ne.symm (by assumption)) | exact And.left (by assumption))); (first | assumption | exact List.forall_mem_nil _ | (refine cons_ne ?_ ?_; (focus (first | assumption | exact lt_nq (by assumption) | omega | (exact Ne.symm (by assumption)) | exact And.left (by assumption))); (first | assumption | exact List.forall_mem_nil _ | (refine cons_ne ?_ ?_; (focus (first | assumption | exact lt_nq (by assumption) | omega | (exact Ne.symm (by assumption)) | exact And.left (by assumption))); (first | assumption | exact List.forall_mem_nil _ | (refine cons_ne ?_ ?_; (focus (first | assumption | exact lt_nq (by assumption) | omega | (exact Ne.symm (by assumption)) | exact And.left (by assumption))); (fail)))))))))))))))))))); (case p2 => assumption); (case p3 => assumption); (case p4 => assumption); (case p5 => assumption); (case p6 => assumption); (((case k1 => k_asm); (case k2 => k_asm); (case k3 => k_asm); (case k5 => k_asm); (case kK => first | exact rfl | assumption); (case kd => ktr_room); (case ku => ktr_units); k_whole))); (intro v9 n9 h9 tk9 R9 F9 N9); (obtain ⟨e9, e8⟩ := R9); subst e9 e8; (try dsimp only); (try k_fold)) | (k_dflt (refine' Cl.use (read_some _ _ _ _ _ _ _ _ ?p0 ?p1 ?p2 ?p3 ?p4 ?p5 ?p6) ?k1 ?k2 ?k3 ?k4 ?k5 ?kK ?kd ?ku ?_; (case k4 => exact news_swap (by assumption)); (case p0 => assumption); (case p1 => (first | assumption | exact List.forall_mem_nil _ | (refine cons_ne ?_ ?_; (focus (first | assumption | exact lt_nq (by assumption) | omega | (exact Ne.symm (by assumption)) | exact And.left (by assumption))); (first | assumption | exact List.forall_mem_nil _ | (refine cons_ne ?_ ?_; (focus (first | assumption | exact lt_nq (by assumption) | omega | (exact Ne.symm (by assumption)) | exact And.left (by assumption))); (first | assumption | exact List.forall_mem_nil _ | (refine cons_ne ?_ ?_; (focus (first | assumption | exact lt_nq (by assumption) | omega | (exact Ne.symm (by assumption)) | exact And.left (by assumption))); (first | assumption | exact List.forall_mem_nil _ | (refine cons_ne ?_ ?_; (focus (first | assumption | exact lt_nq (by assumption) | omega | (exact Ne.symm (by assumption)) | exact And.left (by assumption))); (first | assumption | exact List.forall_mem_nil _ | (refine cons_ne ?_ ?_; (focus (first | assumption | exact lt_nq (by assumption) | omega | (exact Ne.symm (by assumption)) | exact And.left (by assumption))); (first | assumption | exact List.forall_mem_nil _ | (refine cons_ne ?_ ?_; (focus (first | assumption | exact lt_nq (by assumption) | omega | (exact Ne.symm (by assumption)) | exact And.left (by assumption))); (first | assumption | exact List.forall_mem_nil _ | (refine cons_ne ?_ ?_; (focus (first | assumption | exact lt_nq (by assumption) | omega | (exact Ne.symm (by assumption)) | exact And.left (by assumption))); (first | assumption | exact List.forall_mem_nil _ | (refine cons_ne ?_ ?_; (focus (first | assumption | exact lt_nq (by assumption) | omega | (exact Ne.symm (by assumption)) | exact And.left (by assumption))); (first | assumption | exact List.forall_mem_nil _ | (refine cons_ne ?_ ?_; (focus (first | assumption | exact lt_nq (by assumption) | omega | (exact Ne.symm (by assumption)) | exact And.left (by assumption))); (fail)))))))))))))))))))); (case p2 => assumption); (case p3 => assumption); (case p4 => assumption); (case p5 => assumption); (case p6 => assumption); (((case k1 => k_asm); (case k2 => k_asm); (case k3 => k_asm); (case k5 => k_asm); (case kK => first | exact rfl | assumption); (case kd => ktr_room); (case ku => ktr_units); k_whole))); (intro v9 n9 h9 tk9 R9 F9 N9); (obtain ⟨ad9, t19, t29, nn9, e9, e8, l9, l8⟩ := R9); subst e9 e8; (have l7 := neN l9); (have l6 := neN (l8 _ (List.mem_cons_self))); (try dsimp only at l6); (try dsimp only); (try k_fold)))) | walk1 | (dsimp only; walk1) | (leave1; (try dsimp only)))))
      (rename News _ _ _ _ => nE'); (try simp only [List.push_toArray] at nE')
      refine ksw_end (_, _, ws ++ [_], dn ++ [65533], _) (by assumption) nE' (by first | kst_in | kst_inAny) (ints_snoc hS) (by kst_all) (by ksw_same) ?_ ?_
      · dsimp only; rw [show ([(65533 : Int), 1]).getD (Int.toNat 1) 0 = 1 from rfl]
        refine ⟨by omega, by omega, ?_, by simp only [List.length_append, List.length_cons, List.length_nil]; omega⟩
        rw [show (i + 1).toNat = i.toNat + 1 by omega, List.append_assoc, ← hP, decAt_bad (by omega) hrd]; rfl
      · dsimp only; rw [show ([(65533 : Int), 1]).getD (Int.toNat 1) 0 = 1 from rfl]; omega
    · obtain ⟨hfit, hc0, hc1⟩ := readF_fit hr hrd
      (repeat' (first | (k_unfold; (try dsimp only)) | ((fail_if_success (with_reducible show wpAny _ _ (pyIter _) _ _ _)); (fail_if_success (with_reducible show InvEndN _ _ _ _ _ _ _)); (fail_if_success (with_reducible show wpAny _ _ (exec (Stmt.For (Expr.Tuple _ _ _) _ _ _ _) _) _ _ _)); (fail_if_success (with_reducible show KswEnd _ _ _ _ _ _ _ _ _ _ _ _)); (fail_if_success (with_reducible show wpAny _ _ (exec (Stmt.While _ _ _ _) _) _ _ _)); first | ((k_here; (with_reducible show wpAny _ _ (call (Value.ref 98) [Value.ref _, Value.int _ _]) _ _ _); first | (k_dflt (refine' Cl.use (read_none _ _ _ _ _ _ _ _ ?p0 ?p1 ?p2 ?p3 ?p4 ?p5 ?p6) ?k1 ?k2 ?k3 ?k4 ?k5 ?kK ?kd ?ku ?_; (case k4 => exact news_swap (by assumption)); (case p0 => assumption); (case p1 => (first | assumption | exact List.forall_mem_nil _ | (refine cons_ne ?_ ?_; (focus (first | assumption | exact lt_nq (by assumption) | omega | (exact Ne.symm (by assumption)) | exact And.left (by assumption))); (first | assumption | exact List.forall_mem_nil _ | (refine cons_ne ?_ ?_; (focus (first | assumption | exact lt_nq (by assumption) | omega | (exact Ne.symm (by assumption)) | exact And.left (by assumption))); (first | assumption | exact List.forall_mem_nil _ | (refine cons_ne ?_ ?_; (focus (first | assumption | exact lt_nq (by assumption) | omega | (exact Ne.symm (by assumption)) | exact And.left (by assumption))); (first | assumption | exact List.forall_mem_nil _ | (refine cons_ne ?_ ?_; (focus (first | assumption | exact lt_nq (by assumption) | omega | (exact Ne.symm (by assumption)) | exact And.left (by assumption))); (first | assumption | exact List.forall_mem_nil _ | (refine cons_ne ?_ ?_; (focus (first | assumption | exact lt_nq (by assumption) | omega | (exact Ne.symm (by assumption)) | exact And.left (by assumption))); (first | assumption | exact List.forall_mem_nil _ | (refine cons_ne ?_ ?_; (focus (first | assumption | exact lt_nq (by assumption) | omega | (exact Ne.symm (by assumption)) | exact And.left (by assumption))); (first | assumption | exact List.forall_mem_nil _ | (refine cons_ne ?_ ?_; (focus (first | assumption | exact lt_nq (by assumption) | omega | (exact Ne.symm (by assumption)) | exact And.left (by assumption))); (first | assumption | exact List.forall_mem_nil _ | (refine cons_ne ?_ ?_; (focus (first | assumption | exact lt_nq (by assumption) | omega | (exact Ne.symm (by assumption)) | exact And.left (by assumption))); (first | assumption | exact List.forall_mem_nil _ | (refine cons_ne ?_ ?_; (focus (first | assumption | exact lt_nq (by assumption) | omega | (exact Ne.symm (by assumption)) | exact And.left (by assumption))); (fail)))))))))))))))))))); (case p2 => assumption); (case p3 => assumption); (case p4 => assumption); (case p5 => assumption); (case p6 => assumption); (((case k1 => k_asm); (case k2 => k_asm); (case k3 => k_asm); (case k5 => k_asm); (case kK => first | exact rfl | assumption); (case kd => ktr_room); (case ku => ktr_units); k_whole))); (intro v9 n9 h9 tk9 R9 F9 N9); (obtain ⟨e9, e8⟩ := R9); subst e9 e8; (try dsimp only); (try k_fold)) | (k_dflt (refine' Cl.use (read_some _ _ _ _ _ _ _ _ ?p0 ?p1 ?p2 ?p3 ?p4 ?p5 ?p6) ?k1 ?k2 ?k3 ?k4 ?k5 ?kK ?kd ?ku ?_; (case k4 => exact news_swap (by assumption)); (case p0 => assumption); (case p1 => (first | assumption | exact List.forall_mem_nil _ | (refine cons_ne ?_ ?_; (focus (first | assumption | exact lt_nq (by assumption) | omega | (exact Ne.symm (by assumption)) | exact And.left (by assumption))); (first | assumption | exact List.forall_mem_nil _ | (refine cons_ne ?_ ?_; (focus (first | assumption | exact lt_nq (by assumption) | omega | (exact Ne.symm (by assumption)) | exact And.left (by assumption))); (first | assumption | exact List.forall_mem_nil _ | (refine cons_ne ?_ ?_; (focus (first | assumption | exact lt_nq (by assumption) | omega | (exact Ne.symm (by assumption)) | exact And.left (by assumption))); (first | assumption | exact List.forall_mem_nil _ | (refine cons_ne ?_ ?_; (focus (first | assumption | exact lt_nq (by assumption) | omega | (exact Ne.symm (by assumption)) | exact And.left (by assumption))); (first | assumption | exact List.forall_mem_nil _ | (refine cons_ne ?_ ?_; (focus (first | assumption | exact lt_nq (by assumption) | omega | (exact Ne.symm (by assumption)) | exact And.left (by assumption))); (first | assumption | exact List.forall_mem_nil _ | (refine cons_ne ?_ ?_; (focus (first | assumption | exact lt_nq (by assumption) | omega | (exact Ne.symm (by assumption)) | exact And.left (by assumption))); (first | assumption | exact List.forall_mem_nil _ | (refine cons_ne ?_ ?_; (focus (first | assumption | exact lt_nq (by assumption) | omega | (exact Ne.symm (by assumption)) | exact And.left (by assumption))); (first | assumption | exact List.forall_mem_nil _ | (refine cons_ne ?_ ?_; (focus (first | assumption | exact lt_nq (by assumption) | omega | (exact Ne.symm (by assumption)) | exact And.left (by assumption))); (first | assumption | exact List.forall_mem_nil _ | (refine cons_ne ?_ ?_; (focus (first | assumption | exact lt_nq (by assumption) | omega | (exact Ne.symm (by assumption)) | exact And.left (by assumption))); (fail)))))))))))))))))))); (case p2 => assumption); (case p3 => assumption); (case p4 => assumption); (case p5 => assumption); (case p6 => assumption); (((case k1 => k_asm); (case k2 => k_asm); (case k3 => k_asm); (case k5 => k_asm); (case kK => first | exact rfl | assumption); (case kd => ktr_room); (case ku => ktr_units); k_whole))); (intro v9 n9 h9 tk9 R9 F9 N9); (obtain ⟨ad9, t19, t29, nn9, e9, e8, l9, l8⟩ := R9); subst e9 e8; (have l7 := neN l9); (have l6 := neN (l8 _ (List.mem_cons_self))); (try dsimp only at l6); (try dsimp only); (try k_fold)))) | walk1 | (dsimp only; walk1) | (leave1; (try dsimp only)))))
      (rename News _ _ _ _ => nE'); (try simp only [List.push_toArray] at nE')
      refine ksw_end (_, _, ws ++ [_], dn ++ [c], _) (by assumption) nE' (by first | kst_in | kst_inAny) (ints_snoc hS) (by kst_all) (by ksw_same) ?_ ?_
      · dsimp only; rw [show ([c, (k : Int) + 1]).getD (Int.toNat 1) 0 = (k : Int) + 1 from rfl]
        refine ⟨by omega, by omega, ?_, by simp only [List.length_append, List.length_cons, List.length_nil]; omega⟩
        rw [show (i + ((k : Int) + 1)).toNat = i.toNat + 1 + k by omega, List.append_assoc, ← hP, decAt_good (by omega) hrd]; rfl
      · dsimp only; rw [show ([c, (k : Int) + 1]).getD (Int.toNat 1) 0 = (k : Int) + 1 from rfl]; omega
  · (repeat' (first | (k_unfold; (try dsimp only)) | ((fail_if_success (with_reducible show wpAny _ _ (pyIter _) _ _ _)); (fail_if_success (with_reducible show InvEndN _ _ _ _ _ _ _)); (fail_if_success (with_reducible show wpAny _ _ (exec (Stmt.For (Expr.Tuple _ _ _) _ _ _ _) _) _ _ _)); (fail_if_success (with_reducible show KswEnd _ _ _ _ _ _ _ _ _ _ _ _)); (fail_if_success (with_reducible show wpAny _ _ (exec (Stmt.While _ _ _ _) _) _ _ _)); first | ((k_here; (with_reducible show wpAny _ _ (call (Value.ref 98) [Value.ref _, Value.int _ _]) _ _ _); first | (k_dflt (refine' Cl.use (read_none _ _ _ _ _ _ _ _ ?p0 ?p1 ?p2 ?p3 ?p4 ?p5 ?p6) ?k1 ?k2 ?k3 ?k4 ?k5 ?kK ?kd ?ku ?_; (case k4 => exact news_swap (by assumption)); (case p0 => assumption); (case p1 => (first | assumption | exact List.forall_mem_nil _ | (refine cons_ne ?_ ?_; (focus (first | assumption | exact lt_nq (by assumption) | omega | (exact Ne.symm (by assumption)) | exact And.left (by assumption))); (first | assumption | exact List.forall_mem_nil _ | (refine cons_ne ?_ ?_; (focus (first | assumption | exact lt_nq (by assumption) | omega | (exact Ne.symm (by assumption)) | exact And.left (by assumption))); (first | assumption | exact List.forall_mem_nil _ | (refine cons_ne ?_ ?_; (focus (first | assumption | exact lt_nq (by assumption) | omega | (exact Ne.symm (by assumption)) | exact And.left (by assumption))); (first | assumption | exact List.forall_mem_nil _ | (refine cons_ne ?_ ?_; (focus (first | assumption | exact lt_nq (by assumption) | omega | (exact Ne.symm (by assumption)) | exact And.left (by assumption))); (first | assumption | exact List.forall_mem_nil _ | (refine cons_ne ?_ ?_; (focus (first | assumption | exact lt_nq (by assumption) | omega | (exact Ne.symm (by assumption)) | exact And.left (by assumption))); (first | assumption | exact List.forall_mem_nil _ | (refine cons_ne ?_ ?_; (focus (first | assumption | exact lt_nq (by assumption) | omega | (exact Ne.symm (by assumption)) | exact And.left (by assumption))); (first | assumption | exact List.forall_mem_nil _ | (refine cons_ne ?_ ?_; (focus (first | assumption | exact lt_nq (by assumption) | omega | (exact Ne.symm (by assumption)) | exact And.left (by assumption))); (first | assumption | exact List.forall_mem_nil _ | (refine cons_ne ?_ ?_; (focus (first | assumption | exact lt_nq (by assumption) | omega | (exact Ne.symm (by assumption)) | exact And.left (by assumption))); (first | assumption | exact List.forall_mem_nil _ | (refine cons_ne ?_ ?_; (focus (first | assumption | exact lt_nq (by assumption) | omega | (exact Ne.symm (by assumption)) | exact And.left (by assumption))); (fail)))))))))))))))))))); (case p2 => assumption); (case p3 => assumption); (case p4 => assumption); (case p5 => assumption); (case p6 => assumption); (((case k1 => k_asm); (case k2 => k_asm); (case k3 => k_asm); (case k5 => k_asm); (case kK => first | exact rfl | assumption); (case kd => ktr_room); (case ku => ktr_units); k_whole))); (intro v9 n9 h9 tk9 R9 F9 N9); (obtain ⟨e9, e8⟩ := R9); subst e9 e8; (try dsimp only); (try k_fold)) | (k_dflt (refine' Cl.use (read_some _ _ _ _ _ _ _ _ ?p0 ?p1 ?p2 ?p3 ?p4 ?p5 ?p6) ?k1 ?k2 ?k3 ?k4 ?k5 ?kK ?kd ?ku ?_; (case k4 => exact news_swap (by assumption)); (case p0 => assumption); (case p1 => (first | assumption | exact List.forall_mem_nil _ | (refine cons_ne ?_ ?_; (focus (first | assumption | exact lt_nq (by assumption) | omega | (exact Ne.symm (by assumption)) | exact And.left (by assumption))); (first | assumption | exact List.forall_mem_nil _ | (refine cons_ne ?_ ?_; (focus (first | assumption | exact lt_nq (by assumption) | omega | (exact Ne.symm (by assumption)) | exact And.left (by assumption))); (first | assumption | exact List.forall_mem_nil _ | (refine cons_ne ?_ ?_; (focus (first | assumption | exact lt_nq (by assumption) | omega | (exact Ne.symm (by assumption)) | exact And.left (by assumption))); (first | assumption | exact List.forall_mem_nil _ | (refine cons_ne ?_ ?_; (focus (first | assumption | exact lt_nq (by assumption) | omega | (exact Ne.symm (by assumption)) | exact And.left (by assumption))); (first | assumption | exact List.forall_mem_nil _ | (refine cons_ne ?_ ?_; (focus (first | assumption | exact lt_nq (by assumption) | omega | (exact Ne.symm (by assumption)) | exact And.left (by assumption))); (first | assumption | exact List.forall_mem_nil _ | (refine cons_ne ?_ ?_; (focus (first | assumption | exact lt_nq (by assumption) | omega | (exact Ne.symm (by assumption)) | exact And.left (by assumption))); (first | assumption | exact List.forall_mem_nil _ | (refine cons_ne ?_ ?_; (focus (first | assumption | exact lt_nq (by assumption) | omega | (exact Ne.symm (by assumption)) | exact And.left (by assumption))); (first | assumption | exact List.forall_mem_nil _ | (refine cons_ne ?_ ?_; (focus (first | assumption | exact lt_nq (by assumption) | omega | (exact Ne.symm (by assumption)) | exact And.left (by assumption))); (first | assumption | exact List.forall_mem_nil _ | (refine cons_ne ?_ ?_; (focus (first | assumption | exact lt_nq (by assumption) | omega | (exact Ne.symm (by assumption)) | exact And.left (by assumption))); (fail)))))))))))))))))))); (case p2 => assumption); (case p3 => assumption); (case p4 => assumption); (case p5 => assumption); (case p6 => assumption); (((case k1 => k_asm); (case k2 => k_asm); (case k3 => k_asm); (case k5 => k_asm); (case kK => first | exact rfl | assumption); (case kd => ktr_room); (case ku => ktr_units); k_whole))); (intro v9 n9 h9 tk9 R9 F9 N9); (obtain ⟨ad9, t19, t29, nn9, e9, e8, l9, l8⟩ := R9); subst e9 e8; (have l7 := neN l9); (have l6 := neN (l8 _ (List.mem_cons_self))); (try dsimp only at l6); (try dsimp only); (try k_fold)))) | walk1 | (dsimp only; walk1) | (leave1; (try dsimp only)))))
    rw [decAt_end (by omega), List.append_nil] at hP
    exact hret _ _ _ _ ⟨sg, ws, nn, rfl, hP ▸ hS, rfl, hsg, hrs⟩ (by k_asm) (by k_asm)
end Mine
end
section
open PySem PySem.W PySem.Spec PySem.Calls PyProof.Rows PyProof.Rows.LCg
namespace Mine
section
variable {prog : Program} {w : World} {A : Around} {E : Value → Shared → Prop} {s : Shared} {h₀ : Heap} {L : Addr} {m : Str → Option Value} {env : Env}
theorem str_st {T : String} {xt : Str} {t : Tok} {I : Addr} {S : List (Addr × Obj) → Prop} : ∀ i (h h' : Heap) (o : Obj) (nw : List (Addr × Obj)), h.IsStrIter I T xt t i → h.get? I = some o → h'.get? I = some o → (∀ b o, h₀.get? b = some o → h'.get? b = some o) → News h₀ L h' nw → S nw → h'.IsStrIter I T xt t i :=
  fun i h h' o nw st e e' k N S => by obtain ⟨o', q, r⟩ := st; rw [e] at q; cases q; exact ⟨o, e', r⟩
def SrcS (prog : Program) (w : World) (A : Around) (h₀ : Heap) (L : Addr) (m : Str → Option Value) (env : Env) (elt : Expr) (x : Str) (scope : Scope) (cl : List (Str × Addr)) (Q : Value → Shared → Prop) (xv : Value) (s₁ : Shared) : Prop :=
  ∃ xt t news, xv = .str xt t ∧ A.handled = none ∧ Fr h₀ L s₁.heap m ∧ News h₀ L s₁.heap news ∧ xt.cps.size ≤ sizeLine ∧
    ∀ g : Heap, CompRest prog w A h₀ L m env elt x scope cl { s₁ with heap := g } (fun _ => True) (SignAt xt) (FinE h₀ L m { s₁ with heap := g } Q) xt.cps.size 0 [] news
theorem ListComp_S {elt iter : Expr} {x : Str} {px : Pos} {scope : Scope} {cl : List (Str × Addr)} {pos : Pos} {Q : Value → Shared → Prop} (F₀ : Fr h₀ L s.heap m)
    (hclos : closureFor scope env = pure cl) (hcell : ∀ y ∈ scope.names, y.2 ≠ .cell) (hkind : scope.kind = .function)
    (hnames : ∀ y ∈ scope.names, y.2 = .local → scope.names.lookup y.1 = some .local) (hx : scope.names.lookup x = some .local)
    (h : wpAny (model prog w) A (eval iter env) (SrcS prog w A h₀ L m env elt x scope cl Q) E s)
    (hs : ∀ x, foldedSetIterable iter env x = pure x := by intro _; rfl) :
    wpAny (model prog w) A (eval (.ListComp elt [⟨.Name x px, iter, [], 0⟩] scope pos) env) Q E s := by
  rw [eval_ListComp]
  refine wpAny_comprehension_free (use := none) rfl hs hclos hkind hnames (wpAny_mono h (fun xv s₁ h₁ => ?_) fun _ _ e => e)
  obtain ⟨xt, t, news, rfl, hh, F, N, hsz, R⟩ := h₁
  cases ha : xt.cps.all (· < 128)
  · refine wpAny_pyIter_wide ha ?_
    refine block_U (Walks.strWide hh s₁.heap.objs.size xt t) hsz (fun i h st => by obtain ⟨o, e, _⟩ := st; exact ⟨o, e⟩) str_st hcell hkind hx ⟨_, Heap.get?_push_size _ rfl, rfl, rfl⟩ (fun b hb => ?_)
      (F.keeps fun _ _ e => Heap.get?_push_of_some _ e) (N.grown fun _ _ e => Heap.get?_push_of_some _ e) (Nat.ne_of_lt F.ns.lt) (next_is_new F) (fun p hp => Nat.ne_of_lt (Heap.lt_size (N p hp).1)) trivial (R _) ?_
    · rw [List.mem_singleton.mp hb]
      show s₁.heap.objs.size < (s₁.heap.push _).objs.size
      rw [Heap.size_push]; exact Nat.lt_succ_self _
    · intro D C h tk m' ys news' F' N' o1 hn hC₀ hD₀ hCL hDL hCD offC fin
      refine ⟨m', hn, fun h'' hs'' => fin D h'' tk (F'.change hs'' hCL hC₀) (fun p hp => ?_) o1⟩
      refine ⟨hs''.extBut _ _ ?_ (N' p hp).1, (N' p hp).2⟩
      rcases List.mem_cons.mp hp with rfl | hp
      · exact Ne.symm hCD
      · exact offC p hp
  · refine wpAny_pyIter_ascii ha ?_
    refine block_U (Walks.strAscii hh s₁.heap.objs.size xt t) hsz (fun i h st => by obtain ⟨o, e, _⟩ := st; exact ⟨o, e⟩) str_st hcell hkind hx ⟨_, Heap.get?_push_size _ rfl, rfl, rfl⟩ (fun b hb => ?_)
      (F.keeps fun _ _ e => Heap.get?_push_of_some _ e) (N.grown fun _ _ e => Heap.get?_push_of_some _ e) (Nat.ne_of_lt F.ns.lt) (next_is_new F) (fun p hp => Nat.ne_of_lt (Heap.lt_size (N p hp).1)) trivial (R _) ?_
    · rw [List.mem_singleton.mp hb]
      show s₁.heap.objs.size < (s₁.heap.push _).objs.size
      rw [Heap.size_push]; exact Nat.lt_succ_self _
    · intro D C h tk m' ys news' F' N' o1 hn hC₀ hD₀ hCL hDL hCD offC fin
      refine ⟨m', hn, fun h'' hs'' => fin D h'' tk (F'.change hs'' hCL hC₀) (fun p hp => ?_) o1⟩
      refine ⟨hs''.extBut _ _ ?_ (N' p hp).1, (N' p hp).2⟩
      rcases List.mem_cons.mp hp with rfl | hp
      · exact Ne.symm hCD
      · exact offC p hp
variable {elt : Expr} {x : Str} {scope : Scope} {cl : List (Str × Addr)} {S : List (Addr × Obj) → Prop} {Fin : List Value → List (Addr × Obj) → Prop} {news : List (Addr × Obj)}
theorem kcs_rest {xt : Str} (g : Int → Int)
    (turn : ∀ (k : Nat) t I oI C oC D m₂ ys h tk (E' : Value → Shared → Prop), (k : Int) ∈ KStt.codes xt → NsObj oC m₂ → m₂ x = some (.str ⟨#[k]⟩ t) → Fr h₀ L h m → News h₀ L h ((I, oI) :: (C, oC) :: (D, lst ys) :: news) → Off3 I C D news → ((@Ne Nat I C) ∧ (@Ne Nat I D) ∧ (@Ne Nat C D)) → KPfMark →
      wpAny (model prog w) A (eval elt (compEnvC scope cl C env)) (CompEnd h₀ L m { s with heap := h, toks := tk } I oI C oC D (lst ys) S (fun y news' => KCfEl news (g k) y news')) E' { s with heap := h, toks := tk })
    (fin : ∀ ys, IntsAre ys ((KStt.codes xt).map g) → Fin ys news) : CompRest prog w A h₀ L m env elt x scope cl s S (SignAt xt) Fin xt.cps.size 0 [] news := by
  have hl : (KStt.codes xt).length = xt.cps.size := KStt.codes_length xt
  have key : ∀ (j i : Nat) (ys : List Value), i + j = xt.cps.size → IntsAre ys (((KStt.codes xt).take i).map g) → CompRest prog w A h₀ L m env elt x scope cl s S (SignAt xt) Fin j i ys news := by
    intro j
    induction j with
    | zero =>
      intro i ys hi hy
      have e : i = (KStt.codes xt).length := by omega
      subst e
      rw [List.take_length] at hy
      exact CompRest.zero (fin ys hy)
    | succ j ih =>
      intro i ys hi hy
      refine CompRest.succ ?_
      intro v I oI C oC D m₂ h tk E' hv hC hx F N off ne
      obtain ⟨c, u, hc, hv'⟩ := hv
      have hk : (KStt.codes xt)[i]? = some (c : Int) := by
        show (xt.cps.toList.map fun c => ((c : Nat) : Int))[i]? = some (c : Int)
        rw [List.getElem?_map, Array.getElem?_toList, hc]; rfl
      rw [hv'] at hx
      refine wpAny_mono (turn c u I oI C oC D m₂ ys h tk E' (List.mem_of_getElem? hk) hC hx F N off ne True.intro) (fun y s₂ hq => ?_) fun _ _ e => e
      obtain ⟨h', tk', nw, e, F', N', off', hS, hn, t', hy'⟩ := hq
      rw [hn] at N' off' hS
      refine ⟨h', tk', news, e, F', N', off', hS, ?_⟩
      rw [hy']
      refine ih (i + 1) _ (by omega) ?_
      rw [List.take_add_one, hk]
      simpa using IntsAre.append hy (.cons (g c) t' .nil)
  exact key xt.cps.size 0 [] (by omega) (by simp only [List.take_zero, List.map_nil]; exact .nil)
end
end Mine
namespace Mine
section
variable {prog : Program} {w : World} {A : Around} {E : Value → Shared → Prop} {s : Shared} {h₀ : Heap} {L : Addr} {m : Str → Option Value} {env : Env}
variable {elt : Expr} {x : Str} {scope : Scope} {cl : List (Str × Addr)} {S : List (Addr × Obj) → Prop} {P : Nat → Value → Prop} {Fin : List Value → List (Addr × Obj) → Prop}
/-- a comprehension whose element changes what stands in the ledger -/
theorem cst_rest {σ : Type} {n : Nat} (led : σ → Led) (R : Nat → σ → List Value → Prop) (c₀ : σ) (h0 : R 0 c₀ [])
    (turn : ∀ i c v I oI C oC D m₂ ys h tk (E' : Value → Shared → Prop), i < n → P i v → R i c ys → NsObj oC m₂ → m₂ x = some v → Fr h₀ L h m → News h₀ L h ((I, oI) :: (C, oC) :: (D, lst ys) :: led c) → Off3 I C D (led c) → ((@Ne Nat I C) ∧ (@Ne Nat I D) ∧ (@Ne Nat C D)) → KPfMark →
      wpAny (model prog w) A (eval elt (compEnvC scope cl C env)) (CompEnd h₀ L m { s with heap := h, toks := tk } I oI C oC D (lst ys) S (fun y news' => ∃ c', news' = led c' ∧ R (i + 1) c' (ys ++ [y]))) E' { s with heap := h, toks := tk })
    (fin : ∀ c ys, R n c ys → Fin ys (led c)) : CompRest prog w A h₀ L m env elt x scope cl s S P Fin n 0 [] (led c₀) := by
  have key : ∀ (j i : Nat) (c : σ) (ys : List Value), i + j = n → R i c ys → CompRest prog w A h₀ L m env elt x scope cl s S P Fin j i ys (led c) := by
    intro j
    induction j with
    | zero =>
      intro i c ys hi hy
      have e : i = n := by omega
      subst e
      exact CompRest.zero (fin c ys hy)
    | succ j ih =>
      intro i c ys hi hy
      refine CompRest.succ ?_
      intro v I oI C oC D m₂ h tk E' hv hC hx F N off ne
      refine wpAny_mono (turn i c v I oI C oC D m₂ ys h tk E' (by omega) hv hy hC hx F N off ne True.intro) (fun y s₂ hq => ?_) fun _ _ e => e
      obtain ⟨h', tk', nw, e, F', N', off', hS, c', hn, hR⟩ := hq
      subst hn
      exact ⟨h', tk', _, e, F', N', off', hS, ih (i + 1) c' _ (by omega) hR⟩
  exact key n 0 c₀ [] (by omega) h0
end
theorem news_perm7 {h₀ h : Heap} {L : Addr} {a b c d e f g : Addr × Obj} {r : Led} (N : News h₀ L h (a :: b :: c :: d :: e :: f :: g :: r)) : News h₀ L h (g :: d :: a :: b :: c :: e :: f :: r) := fun p hp => N p (by
  simp only [List.mem_cons] at hp ⊢
  rcases hp with h | h | h | h | h | h | h | h <;> simp [h])
theorem news_pull3 {h₀ h : Heap} {L : Addr} {a b c d : Addr × Obj} {r : Led} (N : News h₀ L h (a :: b :: c :: d :: r)) : News h₀ L h (d :: a :: b :: c :: r) := fun p hp => N p (by
  simp only [List.mem_cons] at hp ⊢
  rcases hp with h | h | h | h | h <;> simp [h])
end Mine
namespace Mine
theorem news_perm5 {h₀ h : Heap} {L : Addr} {a b c d e : Addr × Obj} {r : Led} (N : News h₀ L h (a :: b :: c :: d :: e :: r)) : News h₀ L h (d :: e :: a :: b :: c :: r) := fun p hp => N p (by
  simp only [List.mem_cons] at hp ⊢
  rcases hp with h | h | h | h | h | h <;> simp [h])
end Mine
end
section
open PySem PySem.W PyProof.Rows PyProof.Rows.LCg
namespace Mine
theorem text_os (w : World) (os : List Int) (tb : Tok) (news : Led) (hlen : os.length ≤ 100) (hr : ∀ o ∈ os, 0 ≤ o ∧ o < 256) :
   Cl w 35 8 200 [.bytes (byteArr os) tb] news (fun v news' => news' = news ∧ ∃ t, v = .str (KStt.txt (decAt os 0)) t) := by
  have h := text_cl w (byteArr os) tb news (by rw [byteArr_size]; exact hlen)
  rwa [KBa.ints_make hr] at h
theorem codes_len' (x : Str) : (KStt.codes x).length = x.cps.size := KStt.codes_length x
theorem codes_txt {l : List Int} (h : ∀ c ∈ l, 0 ≤ c) : KStt.codes (KStt.txt l) = l := by
  show ((l.map Int.toNat).toArray.toList.map fun c => ((c : Nat) : Int)) = l
  rw [List.map_map]
  refine (List.map_congr_left (g := _root_.id) fun c hc => ?_).trans (List.map_id _)
  have := h c hc
  show ((c.toNat : Nat) : Int) = c
  omega
theorem decAt_range {os : List Int} (hr : ∀ o ∈ os, 0 ≤ o ∧ o < 256) (i : Nat) : ∀ c ∈ decAt os i, 0 ≤ c ∧ c ≤ 1114111 := by
  intro c hc
  induction h : os.length - i using Nat.strongRecOn generalizing i with
  | ind n ih =>
    by_cases hi : i < os.length
    · rcases hrd : readF os i with _ | ⟨c', k⟩
      · rw [decAt_bad hi hrd] at hc
        rcases List.mem_cons.mp hc with rfl | hc
        · omega
        · exact ih _ (by omega) (i + 1) hc rfl
      · rw [decAt_good hi hrd] at hc
        rcases List.mem_cons.mp hc with rfl | hc
        · exact (readF_fit hr hrd).2
        · exact ih _ (by omega) (i + 1 + k) hc rfl
    · rw [decAt_end hi] at hc; cases hc
theorem decAt_len (os : List Int) (i : Nat) : (decAt os i).length ≤ os.length - i := by
  induction h : os.length - i using Nat.strongRecOn generalizing i with
  | ind n ih =>
    by_cases hi : i < os.length
    · rcases hrd : readF os i with _ | ⟨c', k⟩
      · rw [decAt_bad hi hrd, List.length_cons]
        have := ih _ (by omega) (i + 1) rfl
        omega
      · rw [decAt_good hi hrd, List.length_cons]
        have := ih _ (by omega) (i + 1 + k) rfl
        omega
    · rw [decAt_end hi]; simp
theorem right_cl (w : World) (ol : Addr) (vs : List Value) (os : List Int) (n : Nat) (rest : Led) (hv : IntsAre vs os) (hlen : os.length ≤ 100) (hr : ∀ o ∈ os, 0 ≤ o ∧ o < 256) (hoff : ∀ p ∈ rest, p.1 ≠ ol) :
   Cl w 122 12 400 [.ref ol] ((ol, W.listOf vs.toArray n) :: rest) (fun v l => v = .bool true ∧ l = (ol, W.listOf vs.toArray n) :: rest) := by
  unfold Cl; k_fill
  intro loose mean mg mb dp un gd cn cs a ccd cl outer A₀ base h₀ L m s Q E B F X N T hk hd hu hret
  refine wpAny_call ?_
  k_dflt (refine' code_def (binds := [(Str.ofString "octets", Value.ref ol)]) ?k1 ?k2 ?k3 ?k4 ?k5 ?kA ?kF ?kK ?k6 ?k7 ?k8 ?k9 ?kB ?_ ?c2 ?c3 ?c4 ?c5; (((case kA => exact rfl); (case kF => exact rfl); (case kK => assumption); (case k1 => k_asm); (case k2 => k_asm); (case k3 => k_asm); (case k4 => k_asm); (case k5 => k_asm); (case k6 => k_is); (case k7 => k_is); (case k8 => ktr_room); (case k9 => exact BindsTo.of_eq rfl); (case c5 => decide); (case kB => exact locs rfl); (case c2 => exact rfl); (case c3 => exact rfl); (case c4 => exact rfl); k_whole; intro g' L' h' FG' F' N' B' X' T'; (try dsimp only); (try k_lift B'); (try dsimp only [List.length_cons, List.length_nil, List.reverse_cons, List.reverse_nil, List.nil_append, List.cons_append] at F' ⊢); (try k_fold))))
  (repeat' (first | (k_unfold; (try dsimp only)) | ((fail_if_success (with_reducible show wpAny _ _ (pyIter _) _ _ _)); (fail_if_success (with_reducible show InvEndN _ _ _ _ _ _ _)); (fail_if_success (with_reducible show wpAny _ _ (eval (Expr.ListComp _ _ _ _) _) _ _ _)); (fail_if_success (with_reducible show SrcS _ _ _ _ _ _ _ _ _ _ _ _ _ _)); (fail_if_success (with_reducible show wpAny _ _ (exec (Stmt.For (Expr.Tuple _ _ _) _ _ _ _) _) _ _ _)); (fail_if_success (with_reducible show KswEnd _ _ _ _ _ _ _ _ _ _ _ _)); (fail_if_success (with_reducible show wpAny _ _ (exec (Stmt.While _ _ _ _) _) _ _ _)); first | ((k_here; (with_reducible show wpAny _ _ (call (Value.ref 105) [Value.ref _]) _ _ _); (k_dflt (refine' Cl.use (ltext_cl _ _ _ _ _ _ ?p0 ?p1 ?p2 ?p3) ?k1 ?k2 ?k3 ?k4 ?k5 ?kK ?kd ?ku ?_; (case k4 => exact news_swap (by assumption)); (case p0 => assumption); (case p1 => assumption); (case p2 => assumption); (case p3 => assumption); (((case k1 => k_asm); (case k2 => k_asm); (case k3 => k_asm); (case k5 => k_asm); (case kK => first | exact rfl | assumption); (case kd => ktr_room); (case ku => ktr_units); k_whole)))); (intro v9 n9 h9 tk9 R9 F9 N9); (obtain ⟨ad9, ws9, nn9, e9, hi9, e8, l9, l8⟩ := R9); subst e9 e8; (try dsimp only); (try k_fold))) | ((k_here; (with_reducible show wpAny _ _ (call (Value.ref 35) [Value.bytes (byteArr _) _]) _ _ _); (k_dflt (refine' Cl.use (text_os _ _ _ _ ?p0 ?p1) ?k1 ?k2 ?k3 ?k4 ?k5 ?kK ?kd ?ku ?_; (case k4 => k_asm); (case p0 => assumption); (case p1 => assumption); (((case k1 => k_asm); (case k2 => k_asm); (case k3 => k_asm); (case k5 => k_asm); (case kK => first | exact rfl | assumption); (case kd => ktr_room); (case ku => ktr_units); k_whole)))); (intro v9 n9 h9 tk9 R9 F9 N9); (obtain ⟨e8, t9, e9⟩ := R9); subst e9 e8; (try dsimp only); (try k_fold))) | walk1 | (dsimp only; walk1) | (leave1; (try dsimp only)))))
  k_dflt (refine ListComp_S (F₀ := by k_asm) (by with_unfolding_all rfl) (by decide) (by rfl) (by decide) (by rfl) ?_)
  (repeat' (first | (k_unfold; (try dsimp only)) | ((fail_if_success (with_reducible show wpAny _ _ (pyIter _) _ _ _)); (fail_if_success (with_reducible show InvEndN _ _ _ _ _ _ _)); (fail_if_success (with_reducible show wpAny _ _ (eval (Expr.ListComp _ _ _ _) _) _ _ _)); (fail_if_success (with_reducible show SrcS _ _ _ _ _ _ _ _ _ _ _ _ _ _)); (fail_if_success (with_reducible show wpAny _ _ (exec (Stmt.For (Expr.Tuple _ _ _) _ _ _ _) _) _ _ _)); (fail_if_success (with_reducible show KswEnd _ _ _ _ _ _ _ _ _ _ _ _)); (fail_if_success (with_reducible show wpAny _ _ (exec (Stmt.While _ _ _ _) _) _ _ _)); first | ((k_here; (with_reducible show wpAny _ _ (call (Value.ref 105) [Value.ref _]) _ _ _); (k_dflt (refine' Cl.use (ltext_cl _ _ _ _ _ _ ?p0 ?p1 ?p2 ?p3) ?k1 ?k2 ?k3 ?k4 ?k5 ?kK ?kd ?ku ?_; (case k4 => exact news_swap (by assumption)); (case p0 => assumption); (case p1 => assumption); (case p2 => assumption); (case p3 => assumption); (((case k1 => k_asm); (case k2 => k_asm); (case k3 => k_asm); (case k5 => k_asm); (case kK => first | exact rfl | assumption); (case kd => ktr_room); (case ku => ktr_units); k_whole)))); (intro v9 n9 h9 tk9 R9 F9 N9); (obtain ⟨ad9, ws9, nn9, e9, hi9, e8, l9, l8⟩ := R9); subst e9 e8; (try dsimp only); (try k_fold))) | ((k_here; (with_reducible show wpAny _ _ (call (Value.ref 35) [Value.bytes (byteArr _) _]) _ _ _); (k_dflt (refine' Cl.use (text_os _ _ _ _ ?p0 ?p1) ?k1 ?k2 ?k3 ?k4 ?k5 ?kK ?kd ?ku ?_; (case k4 => k_asm); (case p0 => assumption); (case p1 => assumption); (((case k1 => k_asm); (case k2 => k_asm); (case k3 => k_asm); (case k5 => k_asm); (case kK => first | exact rfl | assumption); (case kd => ktr_room); (case ku => ktr_units); k_whole)))); (intro v9 n9 h9 tk9 R9 F9 N9); (obtain ⟨e8, t9, e9⟩ := R9); subst e9 e8; (try dsimp only); (try k_fold))) | walk1 | (dsimp only; walk1) | (leave1; (try dsimp only)))))
  have hcl := decAt_len os 0
  refine ⟨_, _, _, rfl, by rfl, by k_asm, by assumption, ?_, fun g => kcs_rest (fun k => k) ?_ ?_⟩
  · show (KStt.txt (decAt os 0)).cps.size ≤ sizeLine
    rw [sizeLine_eq, ← codes_len', codes_txt (fun c hc => (decAt_range hr 0 c hc).1)]; omega
  · intro k t I oI C oC D m₂ ys h tk E' hk hC hx F1 N1 off ne mk
    (repeat' (first | (k_unfold; (try dsimp only)) | ((fail_if_success (with_reducible show wpAny _ _ (pyIter _) _ _ _)); (fail_if_success (with_reducible show InvEndN _ _ _ _ _ _ _)); (fail_if_success (with_reducible show wpAny _ _ (eval (Expr.ListComp _ _ _ _) _) _ _ _)); (fail_if_success (with_reducible show SrcS _ _ _ _ _ _ _ _ _ _ _ _ _ _)); (fail_if_success (with_reducible show wpAny _ _ (exec (Stmt.For (Expr.Tuple _ _ _) _ _ _ _) _) _ _ _)); (fail_if_success (with_reducible show KswEnd _ _ _ _ _ _ _ _ _ _ _ _)); (fail_if_success (with_reducible show wpAny _ _ (exec (Stmt.While _ _ _ _) _) _ _ _)); first | ((k_here; (with_reducible show wpAny _ _ (call (Value.ref 105) [Value.ref _]) _ _ _); (k_dflt (refine' Cl.use (ltext_cl _ _ _ _ _ _ ?p0 ?p1 ?p2 ?p3) ?k1 ?k2 ?k3 ?k4 ?k5 ?kK ?kd ?ku ?_; (case k4 => exact news_swap (by assumption)); (case p0 => assumption); (case p1 => assumption); (case p2 => assumption); (case p3 => assumption); (((case k1 => k_asm); (case k2 => k_asm); (case k3 => k_asm); (case k5 => k_asm); (case kK => first | exact rfl | assumption); (case kd => ktr_room); (case ku => ktr_units); k_whole)))); (intro v9 n9 h9 tk9 R9 F9 N9); (obtain ⟨ad9, ws9, nn9, e9, hi9, e8, l9, l8⟩ := R9); subst e9 e8; (try dsimp only); (try k_fold))) | ((k_here; (with_reducible show wpAny _ _ (call (Value.ref 35) [Value.bytes (byteArr _) _]) _ _ _); (k_dflt (refine' Cl.use (text_os _ _ _ _ ?p0 ?p1) ?k1 ?k2 ?k3 ?k4 ?k5 ?kK ?kd ?ku ?_; (case k4 => k_asm); (case p0 => assumption); (case p1 => assumption); (((case k1 => k_asm); (case k2 => k_asm); (case k3 => k_asm); (case k5 => k_asm); (case kK => first | exact rfl | assumption); (case kd => ktr_room); (case ku => ktr_units); k_whole)))); (intro v9 n9 h9 tk9 R9 F9 N9); (obtain ⟨e8, t9, e9⟩ := R9); subst e9 e8; (try dsimp only); (try k_fold))) | walk1 | (dsimp only; walk1) | (leave1; (try dsimp only)))))
  · intro ys hys
    rw [codes_txt (fun c hc => (decAt_range hr 0 c hc).1), List.map_id'] at hys
    intro D h tk F1 N1 hoD
    have hDl : D ≠ ol := fun e => hoD.1 e.symm
    have hoff2 : ∀ p ∈ (D, lst ys) :: rest, p.1 ≠ ol := by
      intro p hp
      rcases List.mem_cons.mp hp with rfl | hp
      · exact hDl
      · exact hoff p hp
    (repeat' (first | (k_unfold; (try dsimp only)) | ((fail_if_success (with_reducible show wpAny _ _ (pyIter _) _ _ _)); (fail_if_success (with_reducible show InvEndN _ _ _ _ _ _ _)); (fail_if_success (with_reducible show wpAny _ _ (eval (Expr.ListComp _ _ _ _) _) _ _ _)); (fail_if_success (with_reducible show SrcS _ _ _ _ _ _ _ _ _ _ _ _ _ _)); (fail_if_success (with_reducible show wpAny _ _ (exec (Stmt.For (Expr.Tuple _ _ _) _ _ _ _) _) _ _ _)); (fail_if_success (with_reducible show KswEnd _ _ _ _ _ _ _ _ _ _ _ _)); (fail_if_success (with_reducible show wpAny _ _ (exec (Stmt.While _ _ _ _) _) _ _ _)); first | ((k_here; (with_reducible show wpAny _ _ (call (Value.ref 105) [Value.ref _]) _ _ _); (k_dflt (refine' Cl.use (ltext_cl _ _ _ _ _ _ ?p0 ?p1 ?p2 ?p3) ?k1 ?k2 ?k3 ?k4 ?k5 ?kK ?kd ?ku ?_; (case k4 => exact news_swap (by assumption)); (case p0 => assumption); (case p1 => assumption); (case p2 => assumption); (case p3 => assumption); (((case k1 => k_asm); (case k2 => k_asm); (case k3 => k_asm); (case k5 => k_asm); (case kK => first | exact rfl | assumption); (case kd => ktr_room); (case ku => ktr_units); k_whole)))); (intro v9 n9 h9 tk9 R9 F9 N9); (obtain ⟨ad9, ws9, nn9, e9, hi9, e8, l9, l8⟩ := R9); subst e9 e8; (try dsimp only); (try k_fold))) | ((k_here; (with_reducible show wpAny _ _ (call (Value.ref 35) [Value.bytes (byteArr _) _]) _ _ _); (k_dflt (refine' Cl.use (text_os _ _ _ _ ?p0 ?p1) ?k1 ?k2 ?k3 ?k4 ?k5 ?kK ?kd ?ku ?_; (case k4 => k_asm); (case p0 => assumption); (case p1 => assumption); (((case k1 => k_asm); (case k2 => k_asm); (case k3 => k_asm); (case k5 => k_asm); (case kK => first | exact rfl | assumption); (case kd => ktr_room); (case ku => ktr_units); k_whole)))); (intro v9 n9 h9 tk9 R9 F9 N9); (obtain ⟨e8, t9, e9⟩ := R9); subst e9 e8; (try dsimp only); (try k_fold))) | walk1 | (dsimp only; walk1) | (leave1; (try dsimp only)))))
    refine hret _ _ _ _ ⟨rfl, rfl⟩ (by k_asm) (news_of (by k_asm) (by first | kst_in | kst_inAny))
end Mine
end
section
open PySem PySem.W PyProof.Rows
namespace Mine
theorem fd6 {c : Int} : c.fdiv (2 ^ Int.toNat 6) = c / 64 := fd (by decide)
theorem fd12 {c : Int} : c.fdiv (2 ^ Int.toNat 12) = c / 4096 := fd (by decide)
theorem fd18 {c : Int} : c.fdiv (2 ^ Int.toNat 18) = c / 262144 := fd (by decide)
theorem u1 {c : Int} (h0 : 0 ≤ c) (h1 : c < 2048) : Builtin.bitOr 192 (c.fdiv (2 ^ Int.toNat 6)) = 192 + c / 64 := by
  rw [fd6]; exact or_split 6 (by decide) (by decide) (by omega) (by omega)
theorem u2 {c : Int} : Builtin.bitOr 128 (Builtin.bitAnd c 63) = 128 + c % 64 := by
  rw [bitAnd_m6]; exact or_split 6 (by decide) (by decide) (by omega) (by omega)
theorem u3 {c : Int} (h0 : 0 ≤ c) (h1 : c < 65536) : Builtin.bitOr 224 (c.fdiv (2 ^ Int.toNat 12)) = 224 + c / 4096 := by
  rw [fd12]; exact or_split 5 (by decide) (by decide) (by omega) (by omega)
theorem u4 {c : Int} : Builtin.bitOr 128 (Builtin.bitAnd (c.fdiv (2 ^ Int.toNat 6)) 63) = 128 + c / 64 % 64 := by
  rw [fd6]; exact u2
theorem u5 {c : Int} (h0 : 0 ≤ c) (h1 : c ≤ 1114111) : Builtin.bitOr 240 (c.fdiv (2 ^ Int.toNat 18)) = 240 + c / 262144 := by
  rw [fd18]; exact or_split 4 (by decide) (by decide) (by omega) (by omega)
theorem u6 {c : Int} : Builtin.bitOr 128 (Builtin.bitAnd (c.fdiv (2 ^ Int.toNat 12)) 63) = 128 + c / 4096 % 64 := by
  rw [fd12]; exact u2
section
variable {prog : Program} {w : World} {A : Around} {s : Shared}
theorem append_baE {h₀ : Heap} {L a : Addr} {m : Str → Option Value} {rest : Led} {os : List Int} {n k : Int} {t : Tok} {Q : Value → Shared → Prop} (e : n = k) (F : Fr h₀ L s.heap m) (N : News h₀ L s.heap ((a, baO (byteArr os)) :: rest)) (hne : ∀ p ∈ rest, p.1 ≠ a)
    (h0 : 0 ≤ k) (h1 : k < 256) (hsz : os.length < 1000)
    (h : ∀ h', Fr h₀ L h' m → News h₀ L h' ((a, baO (byteArr (os ++ [k]))) :: rest) → Q .none { s with heap := h' }) : wpI (model prog w) A (call (.builtin "bytearray.append") [.ref a, .int n t]) Q s := by
  subst e; exact append_baF F N hne h0 h1 hsz h
end
theorem utf_len (l : List Int) : (l.flatMap encF).length ≤ 4 * l.length := by
  induction l with
  | nil => simp
  | cons a r ih =>
    have : (encF a).length ≤ 4 := by unfold encF; (repeat' split) <;> simp
    simp only [List.flatMap_cons, List.length_append, List.length_cons]; omega
theorem inA {x : Addr × Obj} {a b : Led} : ∀ p ∈ x :: a, p ∈ x :: (a ++ b) := fun p hp => (List.mem_cons.mp hp).elim (fun e => e ▸ .head _) fun h => .tail _ (List.mem_append.mpr (.inl h))
theorem inB {x : Addr × Obj} {a b : Led} : ∀ p ∈ b, p ∈ x :: (a ++ b) := fun p hp => .tail _ (List.mem_append.mpr (.inr hp))
theorem utf_cl (w : World) (xt : Str) (tx : Tok) (news : Led) (hl : (KStt.codes xt).length ≤ 100) (hr : ∀ c ∈ KStt.codes xt, 0 ≤ c ∧ c ≤ 1114111) :
   ClI w 21 8 200 [.str xt tx] news (fun v news' => ∃ t, v = .bytes (byteArr ((KStt.codes xt).flatMap encF)) t ∧ news' = news) := by
  unfold ClI; k_fill
  intro loose mean mg mb dp un gd cn cs a ccd cl outer A₀ base h₀ L m s Q B F X N T hk hd hu hret
  refine wpI_call ?_
  k_dflt (refine' code_defI (binds := [(Str.ofString "text", Value.str xt tx)]) ?k1 ?k2 ?k3 ?k4 ?k5 ?kA ?kF ?kK ?k6 ?k7 ?k8 ?k9 ?kB ?_ ?c2 ?c3 ?c4 ?c5; (((case kA => exact rfl); (case kF => exact rfl); (case kK => assumption); (case k1 => k_asm); (case k2 => k_asm); (case k3 => k_asm); (case k4 => k_asm); (case k5 => k_asm); (case k6 => k_is); (case k7 => k_is); (case k8 => ktr_room); (case k9 => exact BindsTo.of_eq rfl); (case c5 => decide); (case kB => exact locs rfl); (case c2 => exact rfl); (case c3 => exact rfl); (case c4 => exact rfl); k_whole; intro g' L' h' FG' F' N' B' X' T'; (try dsimp only); (try k_lift B'); (try dsimp only [List.length_cons, List.length_nil, List.reverse_cons, List.reverse_nil, List.nil_append, List.cons_append] at F' ⊢); (try k_fold))))
  refine wpI_execs_cons (wpI_Assign_Name (wpI_Call_Name ?_))
  (repeat' (first | (k_unfold; (try dsimp only)) | ((fail_if_success (with_reducible show wpAny _ _ (pyIter _) _ _ _)); (fail_if_success (with_reducible show InvEndN _ _ _ _ _ _ _)); (fail_if_success (with_reducible show wpAny _ _ (exec (Stmt.For (Expr.Tuple _ _ _) _ _ _ _) _) _ _ _)); (fail_if_success (with_reducible show KswEnd _ _ _ _ _ _ _ _ _ _ _ _)); (fail_if_success (with_reducible show wpAny _ _ (exec (Stmt.While _ _ _ _) _) _ _ _)); first | walk1 | (dsimp only; walk1) | (leave1; (try dsimp only)))))
  refine callWith_type_I rfl (evalArgs_nil_I (new_baF (by assumption) (by assumption) ?_))
  intro D h9 F9 N9 l9
  (repeat' (first | (k_unfold; (try dsimp only)) | ((fail_if_success (with_reducible show wpAny _ _ (pyIter _) _ _ _)); (fail_if_success (with_reducible show InvEndN _ _ _ _ _ _ _)); (fail_if_success (with_reducible show wpAny _ _ (exec (Stmt.For (Expr.Tuple _ _ _) _ _ _ _) _) _ _ _)); (fail_if_success (with_reducible show KswEnd _ _ _ _ _ _ _ _ _ _ _ _)); (fail_if_success (with_reducible show wpAny _ _ (exec (Stmt.While _ _ _ _) _) _ _ _)); first | walk1 | (dsimp only; walk1) | (leave1; (try dsimp only)))))
  refine wpI_execs_cons (wpI_For ?_ ?_)
  · (repeat' (first | (k_unfold; (try dsimp only)) | ((fail_if_success (with_reducible show wpAny _ _ (pyIter _) _ _ _)); (fail_if_success (with_reducible show InvEndN _ _ _ _ _ _ _)); (fail_if_success (with_reducible show wpAny _ _ (exec (Stmt.For (Expr.Tuple _ _ _) _ _ _ _) _) _ _ _)); (fail_if_success (with_reducible show KswEnd _ _ _ _ _ _ _ _ _ _ _ _)); (fail_if_success (with_reducible show wpAny _ _ (exec (Stmt.While _ _ _ _) _) _ _ _)); first | walk1 | (dsimp only; walk1) | (leave1; (try dsimp only)))))
    (rename Fr _ _ _ _ => lF'); (rename News _ _ _ _ => lN')
    with_unfolding_all refine' text_I (σ := List Int) (fun os => (D, baO (byteArr os)) :: news) (fun os => [(Str.ofString "found", .ref D)]) (fun os => os.length ≤ 400) [Str.ofString "code"] (fun pre os => os = pre.flatMap encF) [] ?kx ?ky ?kh lF' lN' ?kf ?kk ?kp ?_ ?_
    case kx => rfl
    case ky => rfl
    case kh => rfl
    case kf => simp
    case kk => kst_all
    case kp => rfl
    all_goals (try clear lF' lN')
    · intro os pre post c tc u h tk own hcs hoff hlen hP F1 N1
      dsimp only [kstB] at F1 N1 hlen hP
      have kMark := kstMark
      have hneD : ∀ p ∈ news ++ own, p.1 ≠ D := fun p hp => (List.mem_append.mp hp).elim (fun q => Nat.ne_of_lt (l9 p q)) fun q => hoff p q D (.head _)
      have hcm := hr c (by rw [hcs]; simp)
      (try k_unmd); (try k_fold)
      refine wpI_execs_any ?_
      (repeat' (first | (k_unfold; (try dsimp only)) | ((fail_if_success (with_reducible show wpAny _ _ (pyIter _) _ _ _)); (fail_if_success (with_reducible show InvEndN _ _ _ _ _ _ _)); (fail_if_success (with_reducible show wpAny _ _ (exec (Stmt.For (Expr.Tuple _ _ _) _ _ _ _) _) _ _ _)); (fail_if_success (with_reducible show KswEnd _ _ _ _ _ _ _ _ _ _ _ _)); (fail_if_success (with_reducible show wpAny _ _ (exec (Stmt.While _ _ _ _) _) _ _ _)); first | walk1 | (dsimp only; walk1) | (leave1; (try dsimp only)))))
      have hln : os.length + 4 ≤ 400 := by
        subst hP
        have h1 := utf_len pre
        have h2 : (KStt.codes xt).length = pre.length + (post.length + 1) := by rw [hcs]; simp
        omega
      refine wpI_execs_cons (wpI_If (wpI_of ?_))
      (repeat' (first | (k_unfold; (try dsimp only)) | ((fail_if_success (with_reducible show wpAny _ _ (pyIter _) _ _ _)); (fail_if_success (with_reducible show InvEndN _ _ _ _ _ _ _)); (fail_if_success (with_reducible show wpAny _ _ (exec (Stmt.For (Expr.Tuple _ _ _) _ _ _ _) _) _ _ _)); (fail_if_success (with_reducible show KswEnd _ _ _ _ _ _ _ _ _ _ _ _)); (fail_if_success (with_reducible show wpAny _ _ (exec (Stmt.While _ _ _ _) _) _ _ _)); first | walk1 | (dsimp only; walk1) | (leave1; (try dsimp only)))))
      · (((refine wpI_execs_cons (wpI_Expr (Call_append_I rfl rfl ?_))); (repeat' (first | (k_unfold; (try dsimp only)) | ((fail_if_success (with_reducible show wpAny _ _ (pyIter _) _ _ _)); (fail_if_success (with_reducible show InvEndN _ _ _ _ _ _ _)); (fail_if_success (with_reducible show wpAny _ _ (exec (Stmt.For (Expr.Tuple _ _ _) _ _ _ _) _) _ _ _)); (fail_if_success (with_reducible show KswEnd _ _ _ _ _ _ _ _ _ _ _ _)); (fail_if_success (with_reducible show wpAny _ _ (exec (Stmt.While _ _ _ _) _) _ _ _)); first | walk1 | (dsimp only; walk1) | (leave1; (try dsimp only))))); (refine ⟨_, _, rfl, (by (rename News _ _ _ _ => nE'); exact (nE' _ (.head _)).1), ?_⟩); (repeat' (first | (k_unfold; (try dsimp only)) | ((fail_if_success (with_reducible show wpAny _ _ (pyIter _) _ _ _)); (fail_if_success (with_reducible show InvEndN _ _ _ _ _ _ _)); (fail_if_success (with_reducible show wpAny _ _ (exec (Stmt.For (Expr.Tuple _ _ _) _ _ _ _) _) _ _ _)); (fail_if_success (with_reducible show KswEnd _ _ _ _ _ _ _ _ _ _ _ _)); (fail_if_success (with_reducible show wpAny _ _ (exec (Stmt.While _ _ _ _) _) _ _ _)); first | walk1 | (dsimp only; walk1) | (leave1; (try dsimp only))))); (refine append_baE (by first | with_reducible exact u1 (by omega) (by omega) | with_reducible exact u4 | with_reducible exact u6 | with_reducible exact u2 | with_reducible exact u3 (by omega) (by omega) | with_reducible exact u5 (by omega) (by omega) | with_reducible rfl) (by assumption) (by assumption) (by assumption) (by omega) (by omega) (by ((try simp only [List.length_append, List.length_cons, List.length_nil]); omega)) ?_); (intro _ _ _); dsimp only))
        refine wpI_execs_nil (wpI_execs_nil ?_)
        (((show InvEndN _ _ _ _ _ _ _); (refine kst_end (_) (by assumption) (by assumption) inA inB (by rfl) ?_ (by kst_all) (by kst_same) ?_); (try dsimp only)))
        · simp only [List.length_append, List.length_cons, List.length_nil]; omega
        · subst hP; rw [List.flatMap_append]; simp [encF, *]
      · refine wpI_execs_cons (wpI_If (wpI_of ?_))
        (repeat' (first | (k_unfold; (try dsimp only)) | ((fail_if_success (with_reducible show wpAny _ _ (pyIter _) _ _ _)); (fail_if_success (with_reducible show InvEndN _ _ _ _ _ _ _)); (fail_if_success (with_reducible show wpAny _ _ (exec (Stmt.For (Expr.Tuple _ _ _) _ _ _ _) _) _ _ _)); (fail_if_success (with_reducible show KswEnd _ _ _ _ _ _ _ _ _ _ _ _)); (fail_if_success (with_reducible show wpAny _ _ (exec (Stmt.While _ _ _ _) _) _ _ _)); first | walk1 | (dsimp only; walk1) | (leave1; (try dsimp only)))))
        · (((refine wpI_execs_cons (wpI_Expr (Call_append_I rfl rfl ?_))); (repeat' (first | (k_unfold; (try dsimp only)) | ((fail_if_success (with_reducible show wpAny _ _ (pyIter _) _ _ _)); (fail_if_success (with_reducible show InvEndN _ _ _ _ _ _ _)); (fail_if_success (with_reducible show wpAny _ _ (exec (Stmt.For (Expr.Tuple _ _ _) _ _ _ _) _) _ _ _)); (fail_if_success (with_reducible show KswEnd _ _ _ _ _ _ _ _ _ _ _ _)); (fail_if_success (with_reducible show wpAny _ _ (exec (Stmt.While _ _ _ _) _) _ _ _)); first | walk1 | (dsimp only; walk1) | (leave1; (try dsimp only))))); (refine ⟨_, _, rfl, (by (rename News _ _ _ _ => nE'); exact (nE' _ (.head _)).1), ?_⟩); (repeat' (first | (k_unfold; (try dsimp only)) | ((fail_if_success (with_reducible show wpAny _ _ (pyIter _) _ _ _)); (fail_if_success (with_reducible show InvEndN _ _ _ _ _ _ _)); (fail_if_success (with_reducible show wpAny _ _ (exec (Stmt.For (Expr.Tuple _ _ _) _ _ _ _) _) _ _ _)); (fail_if_success (with_reducible show KswEnd _ _ _ _ _ _ _ _ _ _ _ _)); (fail_if_success (with_reducible show wpAny _ _ (exec (Stmt.While _ _ _ _) _) _ _ _)); first | walk1 | (dsimp only; walk1) | (leave1; (try dsimp only))))); (refine append_baE (by first | with_reducible exact u1 (by omega) (by omega) | with_reducible exact u4 | with_reducible exact u6 | with_reducible exact u2 | with_reducible exact u3 (by omega) (by omega) | with_reducible exact u5 (by omega) (by omega) | with_reducible rfl) (by assumption) (by assumption) (by assumption) (by omega) (by omega) (by ((try simp only [List.length_append, List.length_cons, List.length_nil]); omega)) ?_); (intro _ _ _); dsimp only))
          (((refine wpI_execs_cons (wpI_Expr (Call_append_I rfl rfl ?_))); (repeat' (first | (k_unfold; (try dsimp only)) | ((fail_if_success (with_reducible show wpAny _ _ (pyIter _) _ _ _)); (fail_if_success (with_reducible show InvEndN _ _ _ _ _ _ _)); (fail_if_success (with_reducible show wpAny _ _ (exec (Stmt.For (Expr.Tuple _ _ _) _ _ _ _) _) _ _ _)); (fail_if_success (with_reducible show KswEnd _ _ _ _ _ _ _ _ _ _ _ _)); (fail_if_success (with_reducible show wpAny _ _ (exec (Stmt.While _ _ _ _) _) _ _ _)); first | walk1 | (dsimp only; walk1) | (leave1; (try dsimp only))))); (refine ⟨_, _, rfl, (by (rename News _ _ _ _ => nE'); exact (nE' _ (.head _)).1), ?_⟩); (repeat' (first | (k_unfold; (try dsimp only)) | ((fail_if_success (with_reducible show wpAny _ _ (pyIter _) _ _ _)); (fail_if_success (with_reducible show InvEndN _ _ _ _ _ _ _)); (fail_if_success (with_reducible show wpAny _ _ (exec (Stmt.For (Expr.Tuple _ _ _) _ _ _ _) _) _ _ _)); (fail_if_success (with_reducible show KswEnd _ _ _ _ _ _ _ _ _ _ _ _)); (fail_if_success (with_reducible show wpAny _ _ (exec (Stmt.While _ _ _ _) _) _ _ _)); first | walk1 | (dsimp only; walk1) | (leave1; (try dsimp only))))); (refine append_baE (by first | with_reducible exact u1 (by omega) (by omega) | with_reducible exact u4 | with_reducible exact u6 | with_reducible exact u2 | with_reducible exact u3 (by omega) (by omega) | with_reducible exact u5 (by omega) (by omega) | with_reducible rfl) (by assumption) (by assumption) (by assumption) (by omega) (by omega) (by ((try simp only [List.length_append, List.length_cons, List.length_nil]); omega)) ?_); (intro _ _ _); dsimp only))
          refine wpI_execs_nil (wpI_execs_nil (wpI_execs_nil ?_))
          (((show InvEndN _ _ _ _ _ _ _); (refine kst_end (_) (by assumption) (by assumption) inA inB (by rfl) ?_ (by kst_all) (by kst_same) ?_); (try dsimp only)))
          · simp only [List.length_append, List.length_cons, List.length_nil]; omega
          · subst hP; rw [List.flatMap_append]; simp [encF, *]
        · refine wpI_execs_cons (wpI_If (wpI_of ?_))
          (repeat' (first | (k_unfold; (try dsimp only)) | ((fail_if_success (with_reducible show wpAny _ _ (pyIter _) _ _ _)); (fail_if_success (with_reducible show InvEndN _ _ _ _ _ _ _)); (fail_if_success (with_reducible show wpAny _ _ (exec (Stmt.For (Expr.Tuple _ _ _) _ _ _ _) _) _ _ _)); (fail_if_success (with_reducible show KswEnd _ _ _ _ _ _ _ _ _ _ _ _)); (fail_if_success (with_reducible show wpAny _ _ (exec (Stmt.While _ _ _ _) _) _ _ _)); first | walk1 | (dsimp only; walk1) | (leave1; (try dsimp only)))))
          · (((refine wpI_execs_cons (wpI_Expr (Call_append_I rfl rfl ?_))); (repeat' (first | (k_unfold; (try dsimp only)) | ((fail_if_success (with_reducible show wpAny _ _ (pyIter _) _ _ _)); (fail_if_success (with_reducible show InvEndN _ _ _ _ _ _ _)); (fail_if_success (with_reducible show wpAny _ _ (exec (Stmt.For (Expr.Tuple _ _ _) _ _ _ _) _) _ _ _)); (fail_if_success (with_reducible show KswEnd _ _ _ _ _ _ _ _ _ _ _ _)); (fail_if_success (with_reducible show wpAny _ _ (exec (Stmt.While _ _ _ _) _) _ _ _)); first | walk1 | (dsimp only; walk1) | (leave1; (try dsimp only))))); (refine ⟨_, _, rfl, (by (rename News _ _ _ _ => nE'); exact (nE' _ (.head _)).1), ?_⟩); (repeat' (first | (k_unfold; (try dsimp only)) | ((fail_if_success (with_reducible show wpAny _ _ (pyIter _) _ _ _)); (fail_if_success (with_reducible show InvEndN _ _ _ _ _ _ _)); (fail_if_success (with_reducible show wpAny _ _ (exec (Stmt.For (Expr.Tuple _ _ _) _ _ _ _) _) _ _ _)); (fail_if_success (with_reducible show KswEnd _ _ _ _ _ _ _ _ _ _ _ _)); (fail_if_success (with_reducible show wpAny _ _ (exec (Stmt.While _ _ _ _) _) _ _ _)); first | walk1 | (dsimp only; walk1) | (leave1; (try dsimp only))))); (refine append_baE (by first | with_reducible exact u1 (by omega) (by omega) | with_reducible exact u4 | with_reducible exact u6 | with_reducible exact u2 | with_reducible exact u3 (by omega) (by omega) | with_reducible exact u5 (by omega) (by omega) | with_reducible rfl) (by assumption) (by assumption) (by assumption) (by omega) (by omega) (by ((try simp only [List.length_append, List.length_cons, List.length_nil]); omega)) ?_); (intro _ _ _); dsimp only))
            (((refine wpI_execs_cons (wpI_Expr (Call_append_I rfl rfl ?_))); (repeat' (first | (k_unfold; (try dsimp only)) | ((fail_if_success (with_reducible show wpAny _ _ (pyIter _) _ _ _)); (fail_if_success (with_reducible show InvEndN _ _ _ _ _ _ _)); (fail_if_success (with_reducible show wpAny _ _ (exec (Stmt.For (Expr.Tuple _ _ _) _ _ _ _) _) _ _ _)); (fail_if_success (with_reducible show KswEnd _ _ _ _ _ _ _ _ _ _ _ _)); (fail_if_success (with_reducible show wpAny _ _ (exec (Stmt.While _ _ _ _) _) _ _ _)); first | walk1 | (dsimp only; walk1) | (leave1; (try dsimp only))))); (refine ⟨_, _, rfl, (by (rename News _ _ _ _ => nE'); exact (nE' _ (.head _)).1), ?_⟩); (repeat' (first | (k_unfold; (try dsimp only)) | ((fail_if_success (with_reducible show wpAny _ _ (pyIter _) _ _ _)); (fail_if_success (with_reducible show InvEndN _ _ _ _ _ _ _)); (fail_if_success (with_reducible show wpAny _ _ (exec (Stmt.For (Expr.Tuple _ _ _) _ _ _ _) _) _ _ _)); (fail_if_success (with_reducible show KswEnd _ _ _ _ _ _ _ _ _ _ _ _)); (fail_if_success (with_reducible show wpAny _ _ (exec (Stmt.While _ _ _ _) _) _ _ _)); first | walk1 | (dsimp only; walk1) | (leave1; (try dsimp only))))); (refine append_baE (by first | with_reducible exact u1 (by omega) (by omega) | with_reducible exact u4 | with_reducible exact u6 | with_reducible exact u2 | with_reducible exact u3 (by omega) (by omega) | with_reducible exact u5 (by omega) (by omega) | with_reducible rfl) (by assumption) (by assumption) (by assumption) (by omega) (by omega) (by ((try simp only [List.length_append, List.length_cons, List.length_nil]); omega)) ?_); (intro _ _ _); dsimp only))
            (((refine wpI_execs_cons (wpI_Expr (Call_append_I rfl rfl ?_))); (repeat' (first | (k_unfold; (try dsimp only)) | ((fail_if_success (with_reducible show wpAny _ _ (pyIter _) _ _ _)); (fail_if_success (with_reducible show InvEndN _ _ _ _ _ _ _)); (fail_if_success (with_reducible show wpAny _ _ (exec (Stmt.For (Expr.Tuple _ _ _) _ _ _ _) _) _ _ _)); (fail_if_success (with_reducible show KswEnd _ _ _ _ _ _ _ _ _ _ _ _)); (fail_if_success (with_reducible show wpAny _ _ (exec (Stmt.While _ _ _ _) _) _ _ _)); first | walk1 | (dsimp only; walk1) | (leave1; (try dsimp only))))); (refine ⟨_, _, rfl, (by (rename News _ _ _ _ => nE'); exact (nE' _ (.head _)).1), ?_⟩); (repeat' (first | (k_unfold; (try dsimp only)) | ((fail_if_success (with_reducible show wpAny _ _ (pyIter _) _ _ _)); (fail_if_success (with_reducible show InvEndN _ _ _ _ _ _ _)); (fail_if_success (with_reducible show wpAny _ _ (exec (Stmt.For (Expr.Tuple _ _ _) _ _ _ _) _) _ _ _)); (fail_if_success (with_reducible show KswEnd _ _ _ _ _ _ _ _ _ _ _ _)); (fail_if_success (with_reducible show wpAny _ _ (exec (Stmt.While _ _ _ _) _) _ _ _)); first | walk1 | (dsimp only; walk1) | (leave1; (try dsimp only))))); (refine append_baE (by first | with_reducible exact u1 (by omega) (by omega) | with_reducible exact u4 | with_reducible exact u6 | with_reducible exact u2 | with_reducible exact u3 (by omega) (by omega) | with_reducible exact u5 (by omega) (by omega) | with_reducible rfl) (by assumption) (by assumption) (by assumption) (by omega) (by omega) (by ((try simp only [List.length_append, List.length_cons, List.length_nil]); omega)) ?_); (intro _ _ _); dsimp only))
            refine wpI_execs_nil (wpI_execs_nil (wpI_execs_nil (wpI_execs_nil ?_)))
            (((show InvEndN _ _ _ _ _ _ _); (refine kst_end (_) (by assumption) (by assumption) inA inB (by rfl) ?_ (by kst_all) (by kst_same) ?_); (try dsimp only)))
            · simp only [List.length_append, List.length_cons, List.length_nil]; omega
            · subst hP; rw [List.flatMap_append]; simp [encF, *]
          · (((refine wpI_execs_cons (wpI_Expr (Call_append_I rfl rfl ?_))); (repeat' (first | (k_unfold; (try dsimp only)) | ((fail_if_success (with_reducible show wpAny _ _ (pyIter _) _ _ _)); (fail_if_success (with_reducible show InvEndN _ _ _ _ _ _ _)); (fail_if_success (with_reducible show wpAny _ _ (exec (Stmt.For (Expr.Tuple _ _ _) _ _ _ _) _) _ _ _)); (fail_if_success (with_reducible show KswEnd _ _ _ _ _ _ _ _ _ _ _ _)); (fail_if_success (with_reducible show wpAny _ _ (exec (Stmt.While _ _ _ _) _) _ _ _)); first | walk1 | (dsimp only; walk1) | (leave1; (try dsimp only))))); (refine ⟨_, _, rfl, (by (rename News _ _ _ _ => nE'); exact (nE' _ (.head _)).1), ?_⟩); (repeat' (first | (k_unfold; (try dsimp only)) | ((fail_if_success (with_reducible show wpAny _ _ (pyIter _) _ _ _)); (fail_if_success (with_reducible show InvEndN _ _ _ _ _ _ _)); (fail_if_success (with_reducible show wpAny _ _ (exec (Stmt.For (Expr.Tuple _ _ _) _ _ _ _) _) _ _ _)); (fail_if_success (with_reducible show KswEnd _ _ _ _ _ _ _ _ _ _ _ _)); (fail_if_success (with_reducible show wpAny _ _ (exec (Stmt.While _ _ _ _) _) _ _ _)); first | walk1 | (dsimp only; walk1) | (leave1; (try dsimp only))))); (refine append_baE (by first | with_reducible exact u1 (by omega) (by omega) | with_reducible exact u4 | with_reducible exact u6 | with_reducible exact u2 | with_reducible exact u3 (by omega) (by omega) | with_reducible exact u5 (by omega) (by omega) | with_reducible rfl) (by assumption) (by assumption) (by assumption) (by omega) (by omega) (by ((try simp only [List.length_append, List.length_cons, List.length_nil]); omega)) ?_); (intro _ _ _); dsimp only))
            (((refine wpI_execs_cons (wpI_Expr (Call_append_I rfl rfl ?_))); (repeat' (first | (k_unfold; (try dsimp only)) | ((fail_if_success (with_reducible show wpAny _ _ (pyIter _) _ _ _)); (fail_if_success (with_reducible show InvEndN _ _ _ _ _ _ _)); (fail_if_success (with_reducible show wpAny _ _ (exec (Stmt.For (Expr.Tuple _ _ _) _ _ _ _) _) _ _ _)); (fail_if_success (with_reducible show KswEnd _ _ _ _ _ _ _ _ _ _ _ _)); (fail_if_success (with_reducible show wpAny _ _ (exec (Stmt.While _ _ _ _) _) _ _ _)); first | walk1 | (dsimp only; walk1) | (leave1; (try dsimp only))))); (refine ⟨_, _, rfl, (by (rename News _ _ _ _ => nE'); exact (nE' _ (.head _)).1), ?_⟩); (repeat' (first | (k_unfold; (try dsimp only)) | ((fail_if_success (with_reducible show wpAny _ _ (pyIter _) _ _ _)); (fail_if_success (with_reducible show InvEndN _ _ _ _ _ _ _)); (fail_if_success (with_reducible show wpAny _ _ (exec (Stmt.For (Expr.Tuple _ _ _) _ _ _ _) _) _ _ _)); (fail_if_success (with_reducible show KswEnd _ _ _ _ _ _ _ _ _ _ _ _)); (fail_if_success (with_reducible show wpAny _ _ (exec (Stmt.While _ _ _ _) _) _ _ _)); first | walk1 | (dsimp only; walk1) | (leave1; (try dsimp only))))); (refine append_baE (by first | with_reducible exact u1 (by omega) (by omega) | with_reducible exact u4 | with_reducible exact u6 | with_reducible exact u2 | with_reducible exact u3 (by omega) (by omega) | with_reducible exact u5 (by omega) (by omega) | with_reducible rfl) (by assumption) (by assumption) (by assumption) (by omega) (by omega) (by ((try simp only [List.length_append, List.length_cons, List.length_nil]); omega)) ?_); (intro _ _ _); dsimp only))
            (((refine wpI_execs_cons (wpI_Expr (Call_append_I rfl rfl ?_))); (repeat' (first | (k_unfold; (try dsimp only)) | ((fail_if_success (with_reducible show wpAny _ _ (pyIter _) _ _ _)); (fail_if_success (with_reducible show InvEndN _ _ _ _ _ _ _)); (fail_if_success (with_reducible show wpAny _ _ (exec (Stmt.For (Expr.Tuple _ _ _) _ _ _ _) _) _ _ _)); (fail_if_success (with_reducible show KswEnd _ _ _ _ _ _ _ _ _ _ _ _)); (fail_if_success (with_reducible show wpAny _ _ (exec (Stmt.While _ _ _ _) _) _ _ _)); first | walk1 | (dsimp only; walk1) | (leave1; (try dsimp only))))); (refine ⟨_, _, rfl, (by (rename News _ _ _ _ => nE'); exact (nE' _ (.head _)).1), ?_⟩); (repeat' (first | (k_unfold; (try dsimp only)) | ((fail_if_success (with_reducible show wpAny _ _ (pyIter _) _ _ _)); (fail_if_success (with_reducible show InvEndN _ _ _ _ _ _ _)); (fail_if_success (with_reducible show wpAny _ _ (exec (Stmt.For (Expr.Tuple _ _ _) _ _ _ _) _) _ _ _)); (fail_if_success (with_reducible show KswEnd _ _ _ _ _ _ _ _ _ _ _ _)); (fail_if_success (with_reducible show wpAny _ _ (exec (Stmt.While _ _ _ _) _) _ _ _)); first | walk1 | (dsimp only; walk1) | (leave1; (try dsimp only))))); (refine append_baE (by first | with_reducible exact u1 (by omega) (by omega) | with_reducible exact u4 | with_reducible exact u6 | with_reducible exact u2 | with_reducible exact u3 (by omega) (by omega) | with_reducible exact u5 (by omega) (by omega) | with_reducible rfl) (by assumption) (by assumption) (by assumption) (by omega) (by omega) (by ((try simp only [List.length_append, List.length_cons, List.length_nil]); omega)) ?_); (intro _ _ _); dsimp only))
            (((refine wpI_execs_cons (wpI_Expr (Call_append_I rfl rfl ?_))); (repeat' (first | (k_unfold; (try dsimp only)) | ((fail_if_success (with_reducible show wpAny _ _ (pyIter _) _ _ _)); (fail_if_success (with_reducible show InvEndN _ _ _ _ _ _ _)); (fail_if_success (with_reducible show wpAny _ _ (exec (Stmt.For (Expr.Tuple _ _ _) _ _ _ _) _) _ _ _)); (fail_if_success (with_reducible show KswEnd _ _ _ _ _ _ _ _ _ _ _ _)); (fail_if_success (with_reducible show wpAny _ _ (exec (Stmt.While _ _ _ _) _) _ _ _)); first | walk1 | (dsimp only; walk1) | (leave1; (try dsimp only))))); (refine ⟨_, _, rfl, (by (rename News _ _ _ _ => nE'); exact (nE' _ (.head _)).1), ?_⟩); (repeat' (first | (k_unfold; (try dsimp only)) | ((fail_if_success (with_reducible show wpAny _ _ (pyIter _) _ _ _)); (fail_if_success (with_reducible show InvEndN _ _ _ _ _ _ _)); (fail_if_success (with_reducible show wpAny _ _ (exec (Stmt.For (Expr.Tuple _ _ _) _ _ _ _) _) _ _ _)); (fail_if_success (with_reducible show KswEnd _ _ _ _ _ _ _ _ _ _ _ _)); (fail_if_success (with_reducible show wpAny _ _ (exec (Stmt.While _ _ _ _) _) _ _ _)); first | walk1 | (dsimp only; walk1) | (leave1; (try dsimp only))))); (refine append_baE (by first | with_reducible exact u1 (by omega) (by omega) | with_reducible exact u4 | with_reducible exact u6 | with_reducible exact u2 | with_reducible exact u3 (by omega) (by omega) | with_reducible exact u5 (by omega) (by omega) | with_reducible rfl) (by assumption) (by assumption) (by assumption) (by omega) (by omega) (by ((try simp only [List.length_append, List.length_cons, List.length_nil]); omega)) ?_); (intro _ _ _); dsimp only))
            refine wpI_execs_nil (wpI_execs_nil (wpI_execs_nil (wpI_execs_nil ?_)))
            (((show InvEndN _ _ _ _ _ _ _); (refine kst_end (_) (by assumption) (by assumption) inA inB (by rfl) ?_ (by kst_all) (by kst_same) ?_); (try dsimp only)))
            · simp only [List.length_append, List.length_cons, List.length_nil]; omega
            · subst hP; rw [List.flatMap_append]; simp [encF, *]
    · intro os u h tk hf hP F1 N1
      dsimp only [kstB] at F1 N1 hf hP
      have kMark := kstMark
      (try k_unmd); (try k_fold)
      refine wpI_execs_any ?_
      (repeat' (first | (k_unfold; (try dsimp only)) | ((fail_if_success (with_reducible show wpAny _ _ (pyIter _) _ _ _)); (fail_if_success (with_reducible show InvEndN _ _ _ _ _ _ _)); (fail_if_success (with_reducible show wpAny _ _ (exec (Stmt.For (Expr.Tuple _ _ _) _ _ _ _) _) _ _ _)); (fail_if_success (with_reducible show KswEnd _ _ _ _ _ _ _ _ _ _ _ _)); (fail_if_success (with_reducible show wpAny _ _ (exec (Stmt.While _ _ _ _) _) _ _ _)); first | walk1 | (dsimp only; walk1) | (leave1; (try dsimp only)))))
      (rename News _ _ _ _ => nE')
      refine call_bytes_ba (nE' _ (.head _)).1 (by rw [byteArr_size, sizeLine_eq]; omega) ?_
      intro t9 k9
      (repeat' (first | (k_unfold; (try dsimp only)) | ((fail_if_success (with_reducible show wpAny _ _ (pyIter _) _ _ _)); (fail_if_success (with_reducible show InvEndN _ _ _ _ _ _ _)); (fail_if_success (with_reducible show wpAny _ _ (exec (Stmt.For (Expr.Tuple _ _ _) _ _ _ _) _) _ _ _)); (fail_if_success (with_reducible show KswEnd _ _ _ _ _ _ _ _ _ _ _ _)); (fail_if_success (with_reducible show wpAny _ _ (exec (Stmt.While _ _ _ _) _) _ _ _)); first | walk1 | (dsimp only; walk1) | (leave1; (try dsimp only)))))
      refine hret _ _ _ _ ⟨_, by rw [← hP], rfl⟩ (by k_asm) (news_of (by k_asm) (by first | kst_in | kst_inAny))
  · intro _; rfl
end Mine
end
section
open PySem PySem.W PyProof.Rows
namespace Mine
def ClB (w : World) (f : Addr) (D U : Nat) (vs : List Value) (news : Led) (P : Heap → Prop) (R : Value → Led → Prop) : Prop :=
  ∀ (loose : List Str) (mean : ExcName → Option Value) (mg mb : Str → Option Value) (dp un : Nat) (gd : Option (List Code)) (cn : Str) (cs : Scope) (a : Addr) (ccd : Value) (cl : List (Str × Addr)) (outer : List Env)
    (A₀ : Around) (base h₀ : Heap) (L : Addr) (m : Str → Option Value) (s : Shared) (Q E : Value → Shared → Prop),
    P h₀ → Below A₀ base outer h₀ → Fr h₀ L s.heap m → (Mine.hd.heap_39 w.params).In h₀ → News h₀ L s.heap news → Top Mine.hd.view_39 loose mean mg mb h₀ → cs.kind = .function →
    dp + D < recursionLimit → un + U < cLine →
    (∀ v news' h' tk', R v news' → Fr h₀ L h' m → News h₀ L h' news' → Q v { s with heap := h', toks := tk' }) →
    wpAny (model PySem.Challenge.rw_nt0091_01.row.prog w) (ktrTop dp un gd cn cs L a ccd cl outer) (call (.ref f) vs) Q E s
theorem isList_keep {h g : Heap} {l : Addr} {its : Array Value} (x : h.IsList l its) (k : ∀ b o, h.get? b = some o → g.get? b = some o) : g.IsList l its := let ⟨o, ho, r⟩ := x; ⟨o, k _ _ ho, r⟩
theorem pool_cl (w : World) (l : Addr) (vs : List Value) (ns : List Int) (k : Int) (tk : Tok) (news : Led) (hv : IntsAre vs ns) (hlen : ns.length ≤ 63) (hk0 : 0 ≤ k) (hk1 : k < 3) :
   ClB w 63 6 200 [.ref l, .int k tk] news (fun h₀ => h₀.IsList l vs.toArray) (fun v n' => ∃ ad x y tx ty n, v = .ref ad ∧ 0 ≤ y ∧ y < 2147483648 ∧ n' = (ad, srcO x y tx ty n) :: news ∧ ∀ p ∈ news, p.1 < ad) := by
  unfold ClB; k_fill
  intro loose mean mg mb dp un gd cn cs a ccd cl outer A₀ base h₀ L m s Q E hP B F X N T hk hd hu hret
  refine wpAny_call ?_
  k_dflt (refine' code_def (binds := [(Str.ofString "script", Value.ref l), (Str.ofString "k", Value.int k tk)]) ?k1 ?k2 ?k3 ?k4 ?k5 ?kA ?kF ?kK ?k6 ?k7 ?k8 ?k9 ?kB ?_ ?c2 ?c3 ?c4 ?c5; (((case kA => exact rfl); (case kF => exact rfl); (case kK => assumption); (case k1 => k_asm); (case k2 => k_asm); (case k3 => k_asm); (case k4 => k_asm); (case k5 => k_asm); (case k6 => k_is); (case k7 => k_is); (case k8 => ktr_room); (case k9 => exact BindsTo.of_eq rfl); (case c5 => decide); (case kB => exact locs rfl); (case c2 => exact rfl); (case c3 => exact rfl); (case c4 => exact rfl); k_whole; intro g' L' h' FG' F' N' B' X' T'; (try dsimp only); (try k_lift B'); (try dsimp only [List.length_cons, List.length_nil, List.reverse_cons, List.reverse_nil, List.nil_append, List.cons_append] at F' ⊢); (try k_fold))))
  (rename (Fr h₀ _ _ _) => FG)
  have hL' := isList_keep hP FG.keep
  have hvl := hv.length
  by_cases hlt : k < ns.length
  · obtain ⟨c, hc⟩ : ∃ c, ns[k.toNat]? = some c := ⟨_, List.getElem?_eq_getElem (by omega)⟩
    (repeat' (first | (k_unfold; (try dsimp only)) | ((fail_if_success (with_reducible show wpAny _ _ (pyIter _) _ _ _)); (fail_if_success (with_reducible show InvEndN _ _ _ _ _ _ _)); (fail_if_success (with_reducible show wpAny _ _ (exec (Stmt.For (Expr.Tuple _ _ _) _ _ _ _) _) _ _ _)); (fail_if_success (with_reducible show KswEnd _ _ _ _ _ _ _ _ _ _ _ _)); (fail_if_success (with_reducible show wpAny _ _ (exec (Stmt.While _ _ _ _) _) _ _ _)); first | walk1 | (dsimp only; walk1) | (leave1; (try dsimp only)))))
    rename_i ll _ _ _ l1 _ kN _ _
    refine hret _ _ _ _ ⟨ll, _, _, _, _, _, rfl, ?_, ?_, rfl, l1⟩ (by k_asm) kN
    · rw [fm (by decide)]; omega
    · rw [fm (by decide)]; omega
  · (repeat' (first | (k_unfold; (try dsimp only)) | ((fail_if_success (with_reducible show wpAny _ _ (pyIter _) _ _ _)); (fail_if_success (with_reducible show InvEndN _ _ _ _ _ _ _)); (fail_if_success (with_reducible show wpAny _ _ (exec (Stmt.For (Expr.Tuple _ _ _) _ _ _ _) _) _ _ _)); (fail_if_success (with_reducible show KswEnd _ _ _ _ _ _ _ _ _ _ _ _)); (fail_if_success (with_reducible show wpAny _ _ (exec (Stmt.While _ _ _ _) _) _ _ _)); first | walk1 | (dsimp only; walk1) | (leave1; (try dsimp only)))))
    rename_i ll _ _ _ l1 _ kN _ _
    refine hret _ _ _ _ ⟨ll, _, _, _, _, _, rfl, ?_, ?_, rfl, l1⟩ (by k_asm) kN
    · rw [fm (by decide)]; omega
    · rw [fm (by decide)]; omega
end Mine
end
section
open PySem PySem.W PyProof.Rows
namespace Mine
theorem take_cl (w : World) (src : Addr) (x y : Int) (tx ty : Tok) (n : Nat) (top : Int) (tt : Tok) (news : Led) (h0 : 0 < top) (h1 : top < 1000) (hy0 : 0 ≤ y) (hy1 : y < 2147483648) (hne : ∀ p ∈ news, p.1 ≠ src) :
   Cl w 70 4 100 [.ref src, .int top tt] ((src, srcO x y tx ty n) :: news) (fun v news' => ∃ d td x' y' tx' ty' n', v = .int d td ∧ 0 ≤ d ∧ d < top ∧ 0 ≤ y' ∧ y' < 2147483648 ∧ news' = ((src, srcO x' y' tx' ty' n') :: news)) := by
  unfold Cl; k_fill
  intro loose mean mg mb dp un gd cn cs a ccd cl outer A₀ base h₀ L m s Q E B F X N T hk hd hu hret
  refine wpAny_call ?_
  k_dflt (refine' code_def (binds := [(Str.ofString "source", Value.ref src), (Str.ofString "top", Value.int top tt)]) ?k1 ?k2 ?k3 ?k4 ?k5 ?kA ?kF ?kK ?k6 ?k7 ?k8 ?k9 ?kB ?_ ?c2 ?c3 ?c4 ?c5; (((case kA => exact rfl); (case kF => exact rfl); (case kK => assumption); (case k1 => k_asm); (case k2 => k_asm); (case k3 => k_asm); (case k4 => k_asm); (case k5 => k_asm); (case k6 => k_is); (case k7 => k_is); (case k8 => ktr_room); (case k9 => exact BindsTo.of_eq rfl); (case c5 => decide); (case kB => exact locs rfl); (case c2 => exact rfl); (case c3 => exact rfl); (case c4 => exact rfl); k_whole; intro g' L' h' FG' F' N' B' X' T'; (try dsimp only); (try k_lift B'); (try dsimp only [List.length_cons, List.length_nil, List.reverse_cons, List.reverse_nil, List.nil_append, List.cons_append] at F' ⊢); (try k_fold))))
  (repeat' (first | (k_unfold; (try dsimp only)) | ((fail_if_success (with_reducible show wpAny _ _ (pyIter _) _ _ _)); (fail_if_success (with_reducible show InvEndN _ _ _ _ _ _ _)); (fail_if_success (with_reducible show KswEnd _ _ _ _ _ _ _ _ _ _ _ _)); (fail_if_success (with_reducible show wpAny _ _ (exec (Stmt.While _ _ _ _) _) _ _ _)); first | ((k_here; first | ((with_reducible show wpAny _ _ (subscriptTail _ _ (Value.ref _) (Value.int 0 _)) _ _ _); k_dflt (refine' get_src0 ?k1 ?k2 ?_; (case k1 => k_asm); (case k2 => k_mem); k_whole)) | ((with_reducible show wpAny _ _ (subscriptTail _ _ (Value.ref _) (Value.int 1 _)) _ _ _); k_dflt (refine' get_src1 ?k1 ?k2 ?_; (case k1 => k_asm); (case k2 => k_mem); k_whole)))) | ((k_here; first | ((with_reducible show wpAny _ _ (setItem (Value.ref _) (Value.int 0 _) (Value.int _ _)) _ _ _); k_dflt (refine' set_src0 ?k1 ?k2 ?k3 ?_; (case k1 => k_asm); (case k2 => k_asm); (case k3 => k_asm); k_whole); intro h' F' N') | ((with_reducible show wpAny _ _ (setItem (Value.ref _) (Value.int 1 _) (Value.int _ _)) _ _ _); k_dflt (refine' set_src1 ?k1 ?k2 ?k3 ?_; (case k1 => k_asm); (case k2 => k_asm); (case k3 => k_asm); k_whole); intro h' F' N'))) | walk1 | (dsimp only; walk1) | (leave1; (try dsimp only)))))
  · refine hret _ _ _ _ ⟨_, _, _, _, _, _, _, rfl, fmod_lo _ h0, fmod_hi _ h0, hy0, hy1, rfl⟩ (by k_asm) (by k_asm)
  · refine hret _ _ _ _ ⟨_, _, _, _, _, _, _, rfl, fmod_lo _ h0, fmod_hi _ h0, ?_, ?_, rfl⟩ (by k_asm) (by k_asm)
    · exact fmod_lo _ (by decide)
    · exact Int.lt_trans (fmod_hi _ (by decide)) (by decide)
theorem one_cl (w : World) (src th : Addr) (x y : Int) (tx ty : Tok) (n nt : Nat) (vs : List Value) (ns : List Int) (news : Led) (hv : IntsAre vs ns) (hn0 : 0 < ns.length) (hn1 : ns.length < 1000) (hy0 : 0 ≤ y) (hy1 : y < 2147483648) (hne : ∀ p ∈ (th, W.listOf vs.toArray nt) :: news, p.1 ≠ src) :
   Cl w 77 6 200 [.ref src, .ref th] ((src, srcO x y tx ty n) :: (th, W.listOf vs.toArray nt) :: news) (fun v news' => ∃ d td x' y' tx' ty' n', v = .int d td ∧ d ∈ ns ∧ 0 ≤ y' ∧ y' < 2147483648 ∧ news' = ((src, srcO x' y' tx' ty' n') :: (th, W.listOf vs.toArray nt) :: news)) := by
  unfold Cl; k_fill
  intro loose mean mg mb dp un gd cn cs a ccd cl outer A₀ base h₀ L m s Q E B F X N T hk hd hu hret
  have hl : vs.length = ns.length := hv.length
  refine wpAny_call ?_
  k_dflt (refine' code_def (binds := [(Str.ofString "source", Value.ref src), (Str.ofString "things", Value.ref th)]) ?k1 ?k2 ?k3 ?k4 ?k5 ?kA ?kF ?kK ?k6 ?k7 ?k8 ?k9 ?kB ?_ ?c2 ?c3 ?c4 ?c5; (((case kA => exact rfl); (case kF => exact rfl); (case kK => assumption); (case k1 => k_asm); (case k2 => k_asm); (case k3 => k_asm); (case k4 => k_asm); (case k5 => k_asm); (case k6 => k_is); (case k7 => k_is); (case k8 => ktr_room); (case k9 => exact BindsTo.of_eq rfl); (case c5 => decide); (case kB => exact locs rfl); (case c2 => exact rfl); (case c3 => exact rfl); (case c4 => exact rfl); k_whole; intro g' L' h' FG' F' N' B' X' T'; (try dsimp only); (try k_lift B'); (try dsimp only [List.length_cons, List.length_nil, List.reverse_cons, List.reverse_nil, List.nil_append, List.cons_append] at F' ⊢); (try k_fold))))
  (repeat' (first | (k_unfold; (try dsimp only)) | ((fail_if_success (with_reducible show wpAny _ _ (pyIter _) _ _ _)); (fail_if_success (with_reducible show InvEndN _ _ _ _ _ _ _)); (fail_if_success (with_reducible show KswEnd _ _ _ _ _ _ _ _ _ _ _ _)); (fail_if_success (with_reducible show wpAny _ _ (exec (Stmt.While _ _ _ _) _) _ _ _)); first | ((k_here; (with_reducible show wpAny _ _ (call (Value.ref 70) [Value.ref _, Value.int _ _]) _ _ _); (k_dflt (refine' Cl.use (take_cl _ _ _ _ _ _ _ _ _ _ ?p0 ?p1 ?p2 ?p3 ?p4) ?k1 ?k2 ?k3 ?k4 ?k5 ?kK ?kd ?ku ?_; (case k4 => first | k_asm | exact news_swap (by k_asm)); (case p0 => first | decide | omega); (case p1 => first | decide | omega); (case p2 => assumption); (case p3 => assumption); (case p4 => (first | assumption | exact lt_ne (by assumption) | exact List.forall_mem_nil _ | (refine cons_ne ?_ ?_; (focus (first | assumption | omega | exact And.left (by assumption))); (first | assumption | exact lt_ne (by assumption) | exact List.forall_mem_nil _ | (refine cons_ne ?_ ?_; (focus (first | assumption | omega | exact And.left (by assumption))); (first | assumption | exact lt_ne (by assumption) | exact List.forall_mem_nil _ | (refine cons_ne ?_ ?_; (focus (first | assumption | omega | exact And.left (by assumption))); (first | assumption | exact lt_ne (by assumption) | exact List.forall_mem_nil _ | (refine cons_ne ?_ ?_; (focus (first | assumption | omega | exact And.left (by assumption))); (first | assumption | exact lt_ne (by assumption) | exact List.forall_mem_nil _ | (refine cons_ne ?_ ?_; (focus (first | assumption | omega | exact And.left (by assumption))); (first | assumption | exact lt_ne (by assumption) | exact List.forall_mem_nil _ | (refine cons_ne ?_ ?_; (focus (first | assumption | omega | exact And.left (by assumption))); (first | assumption | exact lt_ne (by assumption) | exact List.forall_mem_nil _ | (refine cons_ne ?_ ?_; (focus (first | assumption | omega | exact And.left (by assumption))); (first | assumption | exact lt_ne (by assumption) | exact List.forall_mem_nil _ | (refine cons_ne ?_ ?_; (focus (first | assumption | omega | exact And.left (by assumption))); (first | assumption | exact lt_ne (by assumption) | exact List.forall_mem_nil _ | (refine cons_ne ?_ ?_; (focus (first | assumption | omega | exact And.left (by assumption))); (fail)))))))))))))))))))); (((case k1 => k_asm); (case k2 => k_asm); (case k3 => k_asm); (case k5 => k_asm); (case kK => first | exact rfl | assumption); (case kd => ktr_room); (case ku => ktr_units); k_whole)))); (intro v9 n9 h9 tk9 R9 F9 N9); (obtain ⟨d9, td9, x9, y9, tx9, ty9, m9, e9, l9, g9, yl9, yg9, e8⟩ := R9); subst e9 e8; (try dsimp only); (try k_fold))) | ((k_here; first | ((with_reducible show wpAny _ _ (subscriptTail _ _ (Value.ref _) (Value.int 0 _)) _ _ _); k_dflt (refine' get_src0 ?k1 ?k2 ?_; (case k1 => k_asm); (case k2 => k_mem); k_whole)) | ((with_reducible show wpAny _ _ (subscriptTail _ _ (Value.ref _) (Value.int 1 _)) _ _ _); k_dflt (refine' get_src1 ?k1 ?k2 ?_; (case k1 => k_asm); (case k2 => k_mem); k_whole)))) | ((k_here; first | ((with_reducible show wpAny _ _ (setItem (Value.ref _) (Value.int 0 _) (Value.int _ _)) _ _ _); k_dflt (refine' set_src0 ?k1 ?k2 ?k3 ?_; (case k1 => k_asm); (case k2 => k_asm); (case k3 => k_asm); k_whole); intro h' F' N') | ((with_reducible show wpAny _ _ (setItem (Value.ref _) (Value.int 1 _) (Value.int _ _)) _ _ _); k_dflt (refine' set_src1 ?k1 ?k2 ?k3 ?_; (case k1 => k_asm); (case k2 => k_asm); (case k3 => k_asm); k_whole); intro h' F' N'))) | walk1 | (dsimp only; walk1) | (leave1; (try dsimp only)))))
  exact hret _ _ _ _ ⟨_, _, _, _, _, _, _, rfl, getD_mem (by assumption) (by assumption), by assumption, by assumption, rfl⟩ (by k_asm) (by k_asm)
abbrev menuA : List Int := [0, 65, 91, 123, 128, 2048, 65536, 1114111]
theorem oneA (w : World) (src th : Addr) (x y : Int) (tx ty : Tok) (n nt : Nat) (news : Led) (t0 t1 t2 t3 t4 t5 t6 t7 : Tok) (hy0 : 0 ≤ y) (hy1 : y < 2147483648) (hne : ∀ p ∈ (th, W.listOf #[.int 0 t0, .int 65 t1, .int 91 t2, .int 123 t3, .int 128 t4, .int 2048 t5, .int 65536 t6, .int 1114111 t7] nt) :: news, p.1 ≠ src) :
   Cl w 77 6 200 [.ref src, .ref th] ((src, srcO x y tx ty n) :: (th, W.listOf #[.int 0 t0, .int 65 t1, .int 91 t2, .int 123 t3, .int 128 t4, .int 2048 t5, .int 65536 t6, .int 1114111 t7] nt) :: news) (fun v news' => ∃ d td x' y' tx' ty' n', v = .int d td ∧ d ∈ menuA ∧ 0 ≤ y' ∧ y' < 2147483648 ∧ news' = ((src, srcO x' y' tx' ty' n') :: (th, W.listOf #[.int 0 t0, .int 65 t1, .int 91 t2, .int 123 t3, .int 128 t4, .int 2048 t5, .int 65536 t6, .int 1114111 t7] nt) :: news)) :=
  one_cl w src th x y tx ty n nt _ menuA news (.cons _ _ (.cons _ _ (.cons _ _ (.cons _ _ (.cons _ _ (.cons _ _ (.cons _ _ (.cons _ _ .nil)))))))) (by simp) (by simp) hy0 hy1 hne
abbrev menuB : List Int := [128, 191, 192, 255]
theorem oneB (w : World) (src th : Addr) (x y : Int) (tx ty : Tok) (n nt : Nat) (news : Led) (t0 t1 t2 t3 : Tok) (hy0 : 0 ≤ y) (hy1 : y < 2147483648) (hne : ∀ p ∈ (th, W.listOf #[.int 128 t0, .int 191 t1, .int 192 t2, .int 255 t3] nt) :: news, p.1 ≠ src) :
   Cl w 77 6 200 [.ref src, .ref th] ((src, srcO x y tx ty n) :: (th, W.listOf #[.int 128 t0, .int 191 t1, .int 192 t2, .int 255 t3] nt) :: news) (fun v news' => ∃ d td x' y' tx' ty' n', v = .int d td ∧ d ∈ menuB ∧ 0 ≤ y' ∧ y' < 2147483648 ∧ news' = ((src, srcO x' y' tx' ty' n') :: (th, W.listOf #[.int 128 t0, .int 191 t1, .int 192 t2, .int 255 t3] nt) :: news)) :=
  one_cl w src th x y tx ty n nt _ menuB news (.cons _ _ (.cons _ _ (.cons _ _ (.cons _ _ .nil)))) (by simp) (by simp) hy0 hy1 hne
abbrev menuC : List Int := [0, 127, 128, 191, 192, 193, 194, 223, 224, 239, 240, 244, 245, 255]
theorem oneC (w : World) (src th : Addr) (x y : Int) (tx ty : Tok) (n nt : Nat) (news : Led) (t0 t1 t2 t3 t4 t5 t6 t7 t8 t9 t10 t11 t12 t13 : Tok) (hy0 : 0 ≤ y) (hy1 : y < 2147483648) (hne : ∀ p ∈ (th, W.listOf #[.int 0 t0, .int 127 t1, .int 128 t2, .int 191 t3, .int 192 t4, .int 193 t5, .int 194 t6, .int 223 t7, .int 224 t8, .int 239 t9, .int 240 t10, .int 244 t11, .int 245 t12, .int 255 t13] nt) :: news, p.1 ≠ src) :
   Cl w 77 6 200 [.ref src, .ref th] ((src, srcO x y tx ty n) :: (th, W.listOf #[.int 0 t0, .int 127 t1, .int 128 t2, .int 191 t3, .int 192 t4, .int 193 t5, .int 194 t6, .int 223 t7, .int 224 t8, .int 239 t9, .int 240 t10, .int 244 t11, .int 245 t12, .int 255 t13] nt) :: news) (fun v news' => ∃ d td x' y' tx' ty' n', v = .int d td ∧ d ∈ menuC ∧ 0 ≤ y' ∧ y' < 2147483648 ∧ news' = ((src, srcO x' y' tx' ty' n') :: (th, W.listOf #[.int 0 t0, .int 127 t1, .int 128 t2, .int 191 t3, .int 192 t4, .int 193 t5, .int 194 t6, .int 223 t7, .int 224 t8, .int 239 t9, .int 240 t10, .int 244 t11, .int 245 t12, .int 255 t13] nt) :: news)) :=
  one_cl w src th x y tx ty n nt _ menuC news (.cons _ _ (.cons _ _ (.cons _ _ (.cons _ _ (.cons _ _ (.cons _ _ (.cons _ _ (.cons _ _ (.cons _ _ (.cons _ _ (.cons _ _ (.cons _ _ (.cons _ _ (.cons _ _ .nil)))))))))))))) (by simp) (by simp) hy0 hy1 hne
abbrev menuD : List Int := [0, 65, 127, 128, 129, 191, 192, 193, 194, 223, 224, 225, 239, 240, 243, 244, 245, 247, 255, 144, 143, 160]
theorem oneD (w : World) (src th : Addr) (x y : Int) (tx ty : Tok) (n nt : Nat) (news : Led) (t0 t1 t2 t3 t4 t5 t6 t7 t8 t9 t10 t11 t12 t13 t14 t15 t16 t17 t18 t19 t20 t21 : Tok) (hy0 : 0 ≤ y) (hy1 : y < 2147483648) (hne : ∀ p ∈ (th, W.listOf #[.int 0 t0, .int 65 t1, .int 127 t2, .int 128 t3, .int 129 t4, .int 191 t5, .int 192 t6, .int 193 t7, .int 194 t8, .int 223 t9, .int 224 t10, .int 225 t11, .int 239 t12, .int 240 t13, .int 243 t14, .int 244 t15, .int 245 t16, .int 247 t17, .int 255 t18, .int 144 t19, .int 143 t20, .int 160 t21] nt) :: news, p.1 ≠ src) :
   Cl w 77 6 200 [.ref src, .ref th] ((src, srcO x y tx ty n) :: (th, W.listOf #[.int 0 t0, .int 65 t1, .int 127 t2, .int 128 t3, .int 129 t4, .int 191 t5, .int 192 t6, .int 193 t7, .int 194 t8, .int 223 t9, .int 224 t10, .int 225 t11, .int 239 t12, .int 240 t13, .int 243 t14, .int 244 t15, .int 245 t16, .int 247 t17, .int 255 t18, .int 144 t19, .int 143 t20, .int 160 t21] nt) :: news) (fun v news' => ∃ d td x' y' tx' ty' n', v = .int d td ∧ d ∈ menuD ∧ 0 ≤ y' ∧ y' < 2147483648 ∧ news' = ((src, srcO x' y' tx' ty' n') :: (th, W.listOf #[.int 0 t0, .int 65 t1, .int 127 t2, .int 128 t3, .int 129 t4, .int 191 t5, .int 192 t6, .int 193 t7, .int 194 t8, .int 223 t9, .int 224 t10, .int 225 t11, .int 239 t12, .int 240 t13, .int 243 t14, .int 244 t15, .int 245 t16, .int 247 t17, .int 255 t18, .int 144 t19, .int 143 t20, .int 160 t21] nt) :: news)) :=
  one_cl w src th x y tx ty n nt _ menuD news (.cons _ _ (.cons _ _ (.cons _ _ (.cons _ _ (.cons _ _ (.cons _ _ (.cons _ _ (.cons _ _ (.cons _ _ (.cons _ _ (.cons _ _ (.cons _ _ (.cons _ _ (.cons _ _ (.cons _ _ (.cons _ _ (.cons _ _ (.cons _ _ (.cons _ _ (.cons _ _ (.cons _ _ (.cons _ _ .nil)))))))))))))))))))))) (by simp) (by simp) hy0 hy1 hne
theorem code_in {c : Int} (h : c ∈ ([0, 65, 91, 123, 128, 2048, 65536, 1114111] : List Int)) : 0 ≤ c ∧ c ≤ 1114111 := by
  simp only [List.mem_cons, List.not_mem_nil, or_false] at h
  omega
theorem lcode_cl (w : World) (src : Addr) (x y : Int) (tx ty : Tok) (n : Nat) (news : Led) (hy0 : 0 ≤ y) (hy1 : y < 2147483648) (hne : ∀ p ∈ news, p.1 ≠ src) :
   Cl w 84 8 300 [.ref src] ((src, srcO x y tx ty n) :: news) (fun v news' => ∃ d td x' y' tx' ty' n', v = .int d td ∧ 0 ≤ d ∧ d ≤ 1114111 ∧ 0 ≤ y' ∧ y' < 2147483648 ∧ news' = ((src, srcO x' y' tx' ty' n') :: news)) := by
  unfold Cl; k_fill
  intro loose mean mg mb dp un gd cn cs a ccd cl outer A₀ base h₀ L m s Q E B F X N T hk hd hu hret
  refine wpAny_call ?_
  k_dflt (refine' code_def (binds := [(Str.ofString "source", Value.ref src)]) ?k1 ?k2 ?k3 ?k4 ?k5 ?kA ?kF ?kK ?k6 ?k7 ?k8 ?k9 ?kB ?_ ?c2 ?c3 ?c4 ?c5; (((case kA => exact rfl); (case kF => exact rfl); (case kK => assumption); (case k1 => k_asm); (case k2 => k_asm); (case k3 => k_asm); (case k4 => k_asm); (case k5 => k_asm); (case k6 => k_is); (case k7 => k_is); (case k8 => ktr_room); (case k9 => exact BindsTo.of_eq rfl); (case c5 => decide); (case kB => exact locs rfl); (case c2 => exact rfl); (case c3 => exact rfl); (case c4 => exact rfl); k_whole; intro g' L' h' FG' F' N' B' X' T'; (try dsimp only); (try k_lift B'); (try dsimp only [List.length_cons, List.length_nil, List.reverse_cons, List.reverse_nil, List.nil_append, List.cons_append] at F' ⊢); (try k_fold))))
  (repeat' (first | (k_unfold; (try dsimp only)) | ((fail_if_success (with_reducible show wpAny _ _ (pyIter _) _ _ _)); (fail_if_success (with_reducible show InvEndN _ _ _ _ _ _ _)); (fail_if_success (with_reducible show KswEnd _ _ _ _ _ _ _ _ _ _ _ _)); (fail_if_success (with_reducible show wpAny _ _ (exec (Stmt.While _ _ _ _) _) _ _ _)); first | ((k_here; (with_reducible show wpAny _ _ (call (Value.ref 77) [Value.ref _, Value.ref _]) _ _ _); (k_dflt (refine' Cl.use (oneD _ _ _ _ _ _ _ _ _ _ _ _ _ _ _ _ _ _ _ _ _ _ _ _ _ _ _ _ _ _ _ _ ?p3 ?p4 ?p5) ?k1 ?k2 ?k3 ?k4 ?k5 ?kK ?kd ?ku ?_; (case k4 => first | k_asm | exact news_swap (by k_asm)); (case p3 => assumption); (case p4 => assumption); (case p5 => (first | assumption | exact lt_ne (by assumption) | exact List.forall_mem_nil _ | (refine cons_ne ?_ ?_; (focus (first | assumption | omega | exact And.left (by assumption))); (first | assumption | exact lt_ne (by assumption) | exact List.forall_mem_nil _ | (refine cons_ne ?_ ?_; (focus (first | assumption | omega | exact And.left (by assumption))); (first | assumption | exact lt_ne (by assumption) | exact List.forall_mem_nil _ | (refine cons_ne ?_ ?_; (focus (first | assumption | omega | exact And.left (by assumption))); (first | assumption | exact lt_ne (by assumption) | exact List.forall_mem_nil _ | (refine cons_ne ?_ ?_; (focus (first | assumption | omega | exact And.left (by assumption))); (first | assumption | exact lt_ne (by assumption) | exact List.forall_mem_nil _ | (refine cons_ne ?_ ?_; (focus (first | assumption | omega | exact And.left (by assumption))); (first | assumption | exact lt_ne (by assumption) | exact List.forall_mem_nil _ | (refine cons_ne ?_ ?_; (focus (first | assumption | omega | exact And.left (by assumption))); (first | assumption | exact lt_ne (by assumption) | exact List.forall_mem_nil _ | (refine cons_ne ?_ ?_; (focus (first | assumption | omega | exact And.left (by assumption))); (first | assumption | exact lt_ne (by assumption) | exact List.forall_mem_nil _ | (refine cons_ne ?_ ?_; (focus (first | assumption | omega | exact And.left (by assumption))); (first | assumption | exact lt_ne (by assumption) | exact List.forall_mem_nil _ | (refine cons_ne ?_ ?_; (focus (first | assumption | omega | exact And.left (by assumption))); (fail)))))))))))))))))))); (((case k1 => k_asm); (case k2 => k_asm); (case k3 => k_asm); (case k5 => k_asm); (case kK => first | exact rfl | assumption); (case kd => ktr_room); (case ku => ktr_units); k_whole)))); (intro v9 n9 h9 tk9 R9 F9 N9); (obtain ⟨d9, td9, x9, y9, tx9, ty9, m9, e9, l9, yl9, yg9, e8⟩ := R9); subst e9 e8; (try dsimp only); (try k_fold))) | ((k_here; (with_reducible show wpAny _ _ (call (Value.ref 77) [Value.ref _, Value.ref _]) _ _ _); (k_dflt (refine' Cl.use (oneC _ _ _ _ _ _ _ _ _ _ _ _ _ _ _ _ _ _ _ _ _ _ _ _ ?p3 ?p4 ?p5) ?k1 ?k2 ?k3 ?k4 ?k5 ?kK ?kd ?ku ?_; (case k4 => first | k_asm | exact news_swap (by k_asm)); (case p3 => assumption); (case p4 => assumption); (case p5 => (first | assumption | exact lt_ne (by assumption) | exact List.forall_mem_nil _ | (refine cons_ne ?_ ?_; (focus (first | assumption | omega | exact And.left (by assumption))); (first | assumption | exact lt_ne (by assumption) | exact List.forall_mem_nil _ | (refine cons_ne ?_ ?_; (focus (first | assumption | omega | exact And.left (by assumption))); (first | assumption | exact lt_ne (by assumption) | exact List.forall_mem_nil _ | (refine cons_ne ?_ ?_; (focus (first | assumption | omega | exact And.left (by assumption))); (first | assumption | exact lt_ne (by assumption) | exact List.forall_mem_nil _ | (refine cons_ne ?_ ?_; (focus (first | assumption | omega | exact And.left (by assumption))); (first | assumption | exact lt_ne (by assumption) | exact List.forall_mem_nil _ | (refine cons_ne ?_ ?_; (focus (first | assumption | omega | exact And.left (by assumption))); (first | assumption | exact lt_ne (by assumption) | exact List.forall_mem_nil _ | (refine cons_ne ?_ ?_; (focus (first | assumption | omega | exact And.left (by assumption))); (first | assumption | exact lt_ne (by assumption) | exact List.forall_mem_nil _ | (refine cons_ne ?_ ?_; (focus (first | assumption | omega | exact And.left (by assumption))); (first | assumption | exact lt_ne (by assumption) | exact List.forall_mem_nil _ | (refine cons_ne ?_ ?_; (focus (first | assumption | omega | exact And.left (by assumption))); (first | assumption | exact lt_ne (by assumption) | exact List.forall_mem_nil _ | (refine cons_ne ?_ ?_; (focus (first | assumption | omega | exact And.left (by assumption))); (fail)))))))))))))))))))); (((case k1 => k_asm); (case k2 => k_asm); (case k3 => k_asm); (case k5 => k_asm); (case kK => first | exact rfl | assumption); (case kd => ktr_room); (case ku => ktr_units); k_whole)))); (intro v9 n9 h9 tk9 R9 F9 N9); (obtain ⟨d9, td9, x9, y9, tx9, ty9, m9, e9, l9, yl9, yg9, e8⟩ := R9); subst e9 e8; (try dsimp only); (try k_fold))) | ((k_here; (with_reducible show wpAny _ _ (call (Value.ref 77) [Value.ref _, Value.ref _]) _ _ _); (k_dflt (refine' Cl.use (oneB _ _ _ _ _ _ _ _ _ _ _ _ _ _ ?p3 ?p4 ?p5) ?k1 ?k2 ?k3 ?k4 ?k5 ?kK ?kd ?ku ?_; (case k4 => first | k_asm | exact news_swap (by k_asm)); (case p3 => assumption); (case p4 => assumption); (case p5 => (first | assumption | exact lt_ne (by assumption) | exact List.forall_mem_nil _ | (refine cons_ne ?_ ?_; (focus (first | assumption | omega | exact And.left (by assumption))); (first | assumption | exact lt_ne (by assumption) | exact List.forall_mem_nil _ | (refine cons_ne ?_ ?_; (focus (first | assumption | omega | exact And.left (by assumption))); (first | assumption | exact lt_ne (by assumption) | exact List.forall_mem_nil _ | (refine cons_ne ?_ ?_; (focus (first | assumption | omega | exact And.left (by assumption))); (first | assumption | exact lt_ne (by assumption) | exact List.forall_mem_nil _ | (refine cons_ne ?_ ?_; (focus (first | assumption | omega | exact And.left (by assumption))); (first | assumption | exact lt_ne (by assumption) | exact List.forall_mem_nil _ | (refine cons_ne ?_ ?_; (focus (first | assumption | omega | exact And.left (by assumption))); (first | assumption | exact lt_ne (by assumption) | exact List.forall_mem_nil _ | (refine cons_ne ?_ ?_; (focus (first | assumption | omega | exact And.left (by assumption))); (first | assumption | exact lt_ne (by assumption) | exact List.forall_mem_nil _ | (refine cons_ne ?_ ?_; (focus (first | assumption | omega | exact And.left (by assumption))); (first | assumption | exact lt_ne (by assumption) | exact List.forall_mem_nil _ | (refine cons_ne ?_ ?_; (focus (first | assumption | omega | exact And.left (by assumption))); (first | assumption | exact lt_ne (by assumption) | exact List.forall_mem_nil _ | (refine cons_ne ?_ ?_; (focus (first | assumption | omega | exact And.left (by assumption))); (fail)))))))))))))))))))); (((case k1 => k_asm); (case k2 => k_asm); (case k3 => k_asm); (case k5 => k_asm); (case kK => first | exact rfl | assumption); (case kd => ktr_room); (case ku => ktr_units); k_whole)))); (intro v9 n9 h9 tk9 R9 F9 N9); (obtain ⟨d9, td9, x9, y9, tx9, ty9, m9, e9, l9, yl9, yg9, e8⟩ := R9); subst e9 e8; (try dsimp only); (try k_fold))) | ((k_here; (with_reducible show wpAny _ _ (call (Value.ref 77) [Value.ref _, Value.ref _]) _ _ _); (k_dflt (refine' Cl.use (oneA _ _ _ _ _ _ _ _ _ _ _ _ _ _ _ _ _ _ ?p3 ?p4 ?p5) ?k1 ?k2 ?k3 ?k4 ?k5 ?kK ?kd ?ku ?_; (case k4 => first | k_asm | exact news_swap (by k_asm)); (case p3 => assumption); (case p4 => assumption); (case p5 => (first | assumption | exact lt_ne (by assumption) | exact List.forall_mem_nil _ | (refine cons_ne ?_ ?_; (focus (first | assumption | omega | exact And.left (by assumption))); (first | assumption | exact lt_ne (by assumption) | exact List.forall_mem_nil _ | (refine cons_ne ?_ ?_; (focus (first | assumption | omega | exact And.left (by assumption))); (first | assumption | exact lt_ne (by assumption) | exact List.forall_mem_nil _ | (refine cons_ne ?_ ?_; (focus (first | assumption | omega | exact And.left (by assumption))); (first | assumption | exact lt_ne (by assumption) | exact List.forall_mem_nil _ | (refine cons_ne ?_ ?_; (focus (first | assumption | omega | exact And.left (by assumption))); (first | assumption | exact lt_ne (by assumption) | exact List.forall_mem_nil _ | (refine cons_ne ?_ ?_; (focus (first | assumption | omega | exact And.left (by assumption))); (first | assumption | exact lt_ne (by assumption) | exact List.forall_mem_nil _ | (refine cons_ne ?_ ?_; (focus (first | assumption | omega | exact And.left (by assumption))); (first | assumption | exact lt_ne (by assumption) | exact List.forall_mem_nil _ | (refine cons_ne ?_ ?_; (focus (first | assumption | omega | exact And.left (by assumption))); (first | assumption | exact lt_ne (by assumption) | exact List.forall_mem_nil _ | (refine cons_ne ?_ ?_; (focus (first | assumption | omega | exact And.left (by assumption))); (first | assumption | exact lt_ne (by assumption) | exact List.forall_mem_nil _ | (refine cons_ne ?_ ?_; (focus (first | assumption | omega | exact And.left (by assumption))); (fail)))))))))))))))))))); (((case k1 => k_asm); (case k2 => k_asm); (case k3 => k_asm); (case k5 => k_asm); (case kK => first | exact rfl | assumption); (case kd => ktr_room); (case ku => ktr_units); k_whole)))); (intro v9 n9 h9 tk9 R9 F9 N9); (obtain ⟨d9, td9, x9, y9, tx9, ty9, m9, e9, l9, yl9, yg9, e8⟩ := R9); subst e9 e8; (try dsimp only); (try k_fold))) | ((k_here; (with_reducible show wpAny _ _ (call (Value.ref 70) [Value.ref _, Value.int _ _]) _ _ _); (k_dflt (refine' Cl.use (take_cl _ _ _ _ _ _ _ _ _ _ ?p0 ?p1 ?p2 ?p3 ?p4) ?k1 ?k2 ?k3 ?k4 ?k5 ?kK ?kd ?ku ?_; (case k4 => first | k_asm | exact news_swap (by k_asm)); (case p0 => first | decide | omega); (case p1 => first | decide | omega); (case p2 => assumption); (case p3 => assumption); (case p4 => (first | assumption | exact lt_ne (by assumption) | exact List.forall_mem_nil _ | (refine cons_ne ?_ ?_; (focus (first | assumption | omega | exact And.left (by assumption))); (first | assumption | exact lt_ne (by assumption) | exact List.forall_mem_nil _ | (refine cons_ne ?_ ?_; (focus (first | assumption | omega | exact And.left (by assumption))); (first | assumption | exact lt_ne (by assumption) | exact List.forall_mem_nil _ | (refine cons_ne ?_ ?_; (focus (first | assumption | omega | exact And.left (by assumption))); (first | assumption | exact lt_ne (by assumption) | exact List.forall_mem_nil _ | (refine cons_ne ?_ ?_; (focus (first | assumption | omega | exact And.left (by assumption))); (first | assumption | exact lt_ne (by assumption) | exact List.forall_mem_nil _ | (refine cons_ne ?_ ?_; (focus (first | assumption | omega | exact And.left (by assumption))); (first | assumption | exact lt_ne (by assumption) | exact List.forall_mem_nil _ | (refine cons_ne ?_ ?_; (focus (first | assumption | omega | exact And.left (by assumption))); (first | assumption | exact lt_ne (by assumption) | exact List.forall_mem_nil _ | (refine cons_ne ?_ ?_; (focus (first | assumption | omega | exact And.left (by assumption))); (first | assumption | exact lt_ne (by assumption) | exact List.forall_mem_nil _ | (refine cons_ne ?_ ?_; (focus (first | assumption | omega | exact And.left (by assumption))); (first | assumption | exact lt_ne (by assumption) | exact List.forall_mem_nil _ | (refine cons_ne ?_ ?_; (focus (first | assumption | omega | exact And.left (by assumption))); (fail)))))))))))))))))))); (((case k1 => k_asm); (case k2 => k_asm); (case k3 => k_asm); (case k5 => k_asm); (case kK => first | exact rfl | assumption); (case kd => ktr_room); (case ku => ktr_units); k_whole)))); (intro v9 n9 h9 tk9 R9 F9 N9); (obtain ⟨d9, td9, x9, y9, tx9, ty9, m9, e9, l9, g9, yl9, yg9, e8⟩ := R9); subst e9 e8; (try dsimp only); (try k_fold))) | ((k_here; first | ((with_reducible show wpAny _ _ (subscriptTail _ _ (Value.ref _) (Value.int 0 _)) _ _ _); k_dflt (refine' get_src0 ?k1 ?k2 ?_; (case k1 => k_asm); (case k2 => k_mem); k_whole)) | ((with_reducible show wpAny _ _ (subscriptTail _ _ (Value.ref _) (Value.int 1 _)) _ _ _); k_dflt (refine' get_src1 ?k1 ?k2 ?_; (case k1 => k_asm); (case k2 => k_mem); k_whole)))) | ((k_here; first | ((with_reducible show wpAny _ _ (setItem (Value.ref _) (Value.int 0 _) (Value.int _ _)) _ _ _); k_dflt (refine' set_src0 ?k1 ?k2 ?k3 ?_; (case k1 => k_asm); (case k2 => k_asm); (case k3 => k_asm); k_whole); intro h' F' N') | ((with_reducible show wpAny _ _ (setItem (Value.ref _) (Value.int 1 _) (Value.int _ _)) _ _ _); k_dflt (refine' set_src1 ?k1 ?k2 ?k3 ?_; (case k1 => k_asm); (case k2 => k_asm); (case k3 => k_asm); k_whole); intro h' F' N'))) | walk1 | (dsimp only; walk1) | (leave1; (try dsimp only)))))
  refine hret _ _ _ _ ⟨_, _, _, _, _, _, _, rfl, ?_, ?_, by assumption, by assumption, rfl⟩ (by k_asm) (news_drop2 (by k_asm))
  · (repeat' split) <;> omega
  · (repeat' split) <;> omega
end Mine
end
section
open PySem PySem.W PyProof.Rows PyProof.Rows.LCg
namespace Mine
theorem cons_nn {l : List (Addr × Obj)} {a d : Addr} {o : Obj} (h : a ≠ d) (h2 : ∀ p ∈ l, p.1 ≠ d) : ∀ p ∈ (a, o) :: l, p.1 ≠ d := by
  intro p hp
  rcases List.mem_cons.mp hp with rfl | hp
  · exact h
  · exact h2 p hp
theorem off1_all {D : Addr} : ∀ {l : Led}, Off1 D l → ∀ p ∈ l, p.1 ≠ D
  | [], _, _, hp => nomatch hp
  | q :: r, h, p, hp => by
    rcases List.mem_cons.mp hp with rfl | hp
    · exact h.1
    · exact off1_all h.2 p hp
theorem up1 {l : Led} {d : Addr} (h : ∀ p ∈ l, p.1 < d) : ∀ p ∈ l, p.1 < d + 1 := fun p hp => Nat.lt_succ_of_lt (h p hp)
theorem menuD_in {c : Int} (h : c ∈ menuD) : 0 ≤ c ∧ c < 256 := by
  simp only [menuD, List.mem_cons, List.not_mem_nil, or_false] at h; omega
theorem mem_perm5 {a b c d e : Addr × Obj} {r : Led} : ∀ p ∈ a :: b :: c :: d :: e :: r, p ∈ d :: e :: a :: b :: c :: r := by
  intro p hp
  simp only [List.mem_cons] at hp ⊢
  rcases hp with h | h | h | h | h | h <;> simp [h]
theorem any_cl (w : World) (src : Addr) (x y : Int) (tx ty : Tok) (n : Nat) (news : Led) (hy0 : 0 ≤ y) (hy1 : y < 2147483648) (hne : ∀ p ∈ news, p.1 ≠ src) :
   Cl w 117 10 400 [.ref src] ((src, srcO x y tx ty n) :: news) (fun v l => ∃ ad ws ns nn x' y' tx' ty' n', v = .ref ad ∧ IntsAre ws ns ∧ ns.length ≤ 6 ∧ (∀ o ∈ ns, 0 ≤ o ∧ o < 256) ∧ 0 ≤ y' ∧ y' < 2147483648 ∧ l = (ad, W.listOf ws.toArray nn) :: (src, srcO x' y' tx' ty' n') :: news ∧ src ≠ ad ∧ ∀ p ∈ news, p.1 ≠ ad) := by
  unfold Cl; k_fill
  intro loose mean mg mb dp un gd cn cs a ccd cl outer A₀ base h₀ L m s Q E B F X N T hk hd hu hret
  refine wpAny_call ?_
  k_dflt (refine' code_defC (binds := [(Str.ofString "source", Value.ref src)]) ?k1 ?k2 ?k3 ?k4 ?k5 ?kA ?kF ?kK ?k6 ?k7 ?k8 ?k9 ?kB ?kD ?_ ?c2 ?c3 ?c4; (((case kA => exact rfl); (case kF => exact rfl); (case kK => assumption); (case k1 => k_asm); (case k2 => k_asm); (case k3 => k_asm); (case k4 => k_asm); (case k5 => k_asm); (case k6 => k_is); (case k7 => k_is); (case k8 => ktr_room); (case k9 => exact BindsTo.of_eq rfl); (case kB => exact rfl); (case kD => decide +kernel); (case c2 => exact rfl); (case c3 => exact rfl); (case c4 => exact rfl); k_whole; intro g' L' h' tk' cells' FG' F' N' Y' B' X' T' l1; (try k_lt l1); k_cells Y'; (try simp only [List.cons_append, List.nil_append] at N'); (try dsimp only); (try k_lift B'); (try k_fold))))
  have kMark := kstMark
  (rename (_ ∧ AllLt _ news) => hl0)
  have hq0 := kst_ltOf hl0.2
  have hq1 := up1 hq0
  have hq2 := up1 hq1
  (repeat' (first | (k_unfold; (try dsimp only)) | ((fail_if_success (with_reducible show wpAny _ _ (pyIter _) _ _ _)); (fail_if_success (with_reducible show InvEndN _ _ _ _ _ _ _)); (fail_if_success (with_reducible show wpAny _ _ (eval (Expr.ListComp _ _ _ _) _) _ _ _)); (fail_if_success (with_reducible show LCg.CompSrc _ _ _ _ _ _ _ _ _ _ _ _ _ _)); (fail_if_success (with_reducible show wpAny _ _ (exec (Stmt.For (Expr.Tuple _ _ _) _ _ _ _) _) _ _ _)); (fail_if_success (with_reducible show KswEnd _ _ _ _ _ _ _ _ _ _ _ _)); (fail_if_success (with_reducible show wpAny _ _ (exec (Stmt.While _ _ _ _) _) _ _ _)); first | ((k_here; (with_reducible show wpAny _ _ (call (Value.ref 70) [Value.ref _, Value.int _ _]) _ _ _); (k_dflt (refine' Cl.use (take_cl _ _ _ _ _ _ _ _ _ _ ?p0 ?p1 ?p2 ?p3 ?p4) ?k1 ?k2 ?k3 ?k4 ?k5 ?kK ?kd ?ku ?_; (case k4 => first | k_asm | exact news_swap (by k_asm) | exact news_rot (by k_asm) | exact news_pull3 (by k_asm) | exact news_perm5 (by k_asm)); (case p0 => first | decide | omega); (case p1 => first | decide | omega); (case p2 => assumption); (case p3 => assumption); (case p4 => (first | (first | assumption | exact lt_ne (by assumption) | exact List.forall_mem_nil _ | (refine cons_nn ?_ ?_; (focus (first | assumption | (refine neN ?_; (try dsimp only); omega))); (first | assumption | exact lt_ne (by assumption) | exact List.forall_mem_nil _ | (refine cons_nn ?_ ?_; (focus (first | assumption | (refine neN ?_; (try dsimp only); omega))); (first | assumption | exact lt_ne (by assumption) | exact List.forall_mem_nil _ | (refine cons_nn ?_ ?_; (focus (first | assumption | (refine neN ?_; (try dsimp only); omega))); (first | assumption | exact lt_ne (by assumption) | exact List.forall_mem_nil _ | (refine cons_nn ?_ ?_; (focus (first | assumption | (refine neN ?_; (try dsimp only); omega))); (first | assumption | exact lt_ne (by assumption) | exact List.forall_mem_nil _ | (refine cons_nn ?_ ?_; (focus (first | assumption | (refine neN ?_; (try dsimp only); omega))); (first | assumption | exact lt_ne (by assumption) | exact List.forall_mem_nil _ | (refine cons_nn ?_ ?_; (focus (first | assumption | (refine neN ?_; (try dsimp only); omega))); (first | assumption | exact lt_ne (by assumption) | exact List.forall_mem_nil _ | (refine cons_nn ?_ ?_; (focus (first | assumption | (refine neN ?_; (try dsimp only); omega))); (first | assumption | exact lt_ne (by assumption) | exact List.forall_mem_nil _ | (refine cons_nn ?_ ?_; (focus (first | assumption | (refine neN ?_; (try dsimp only); omega))); (first | assumption | exact lt_ne (by assumption) | exact List.forall_mem_nil _ | (refine cons_nn ?_ ?_; (focus (first | assumption | (refine neN ?_; (try dsimp only); omega))); (fail))))))))))))))))))) | (first | assumption | exact lt_ne (by assumption) | exact List.forall_mem_nil _ | (refine cons_ne ?_ ?_; (focus (first | assumption | (refine ltN ?_; omega) | exact And.left (by assumption))); (first | assumption | exact lt_ne (by assumption) | exact List.forall_mem_nil _ | (refine cons_ne ?_ ?_; (focus (first | assumption | (refine ltN ?_; omega) | exact And.left (by assumption))); (first | assumption | exact lt_ne (by assumption) | exact List.forall_mem_nil _ | (refine cons_ne ?_ ?_; (focus (first | assumption | (refine ltN ?_; omega) | exact And.left (by assumption))); (first | assumption | exact lt_ne (by assumption) | exact List.forall_mem_nil _ | (refine cons_ne ?_ ?_; (focus (first | assumption | (refine ltN ?_; omega) | exact And.left (by assumption))); (first | assumption | exact lt_ne (by assumption) | exact List.forall_mem_nil _ | (refine cons_ne ?_ ?_; (focus (first | assumption | (refine ltN ?_; omega) | exact And.left (by assumption))); (first | assumption | exact lt_ne (by assumption) | exact List.forall_mem_nil _ | (refine cons_ne ?_ ?_; (focus (first | assumption | (refine ltN ?_; omega) | exact And.left (by assumption))); (first | assumption | exact lt_ne (by assumption) | exact List.forall_mem_nil _ | (refine cons_ne ?_ ?_; (focus (first | assumption | (refine ltN ?_; omega) | exact And.left (by assumption))); (first | assumption | exact lt_ne (by assumption) | exact List.forall_mem_nil _ | (refine cons_ne ?_ ?_; (focus (first | assumption | (refine ltN ?_; omega) | exact And.left (by assumption))); (first | assumption | exact lt_ne (by assumption) | exact List.forall_mem_nil _ | (refine cons_ne ?_ ?_; (focus (first | assumption | (refine ltN ?_; omega) | exact And.left (by assumption))); (fail))))))))))))))))))))); (((case k1 => k_asm); (case k2 => k_asm); (case k3 => k_asm); (case k5 => k_asm); (case kK => first | exact rfl | assumption); (case kd => ktr_room); (case ku => ktr_units); k_whole)))); (intro v9 n9 h9 tk9 R9 F9 N9); (obtain ⟨d9, td9, x9, y9, tx9, ty9, m9, e9, l9, g9, yl9, yg9, e8⟩ := R9); subst e9 e8; (try dsimp only); (try k_fold))) | ((k_here; (with_reducible show wpAny _ _ (call (Value.ref 77) [Value.ref _, Value.ref _]) _ _ _); (k_dflt (refine' Cl.use (oneD _ _ _ _ _ _ _ _ _ _ _ _ _ _ _ _ _ _ _ _ _ _ _ _ _ _ _ _ _ _ _ _ ?p3 ?p4 ?p5) ?k1 ?k2 ?k3 ?k4 ?k5 ?kK ?kd ?ku ?_; (case k4 => first | k_asm | exact news_swap (by k_asm) | exact news_rot (by k_asm) | exact news_pull3 (by k_asm) | exact news_perm5 (by k_asm)); (case p3 => assumption); (case p4 => assumption); (case p5 => (first | (first | assumption | exact lt_ne (by assumption) | exact List.forall_mem_nil _ | (refine cons_nn ?_ ?_; (focus (first | assumption | (refine neN ?_; (try dsimp only); omega))); (first | assumption | exact lt_ne (by assumption) | exact List.forall_mem_nil _ | (refine cons_nn ?_ ?_; (focus (first | assumption | (refine neN ?_; (try dsimp only); omega))); (first | assumption | exact lt_ne (by assumption) | exact List.forall_mem_nil _ | (refine cons_nn ?_ ?_; (focus (first | assumption | (refine neN ?_; (try dsimp only); omega))); (first | assumption | exact lt_ne (by assumption) | exact List.forall_mem_nil _ | (refine cons_nn ?_ ?_; (focus (first | assumption | (refine neN ?_; (try dsimp only); omega))); (first | assumption | exact lt_ne (by assumption) | exact List.forall_mem_nil _ | (refine cons_nn ?_ ?_; (focus (first | assumption | (refine neN ?_; (try dsimp only); omega))); (first | assumption | exact lt_ne (by assumption) | exact List.forall_mem_nil _ | (refine cons_nn ?_ ?_; (focus (first | assumption | (refine neN ?_; (try dsimp only); omega))); (first | assumption | exact lt_ne (by assumption) | exact List.forall_mem_nil _ | (refine cons_nn ?_ ?_; (focus (first | assumption | (refine neN ?_; (try dsimp only); omega))); (first | assumption | exact lt_ne (by assumption) | exact List.forall_mem_nil _ | (refine cons_nn ?_ ?_; (focus (first | assumption | (refine neN ?_; (try dsimp only); omega))); (first | assumption | exact lt_ne (by assumption) | exact List.forall_mem_nil _ | (refine cons_nn ?_ ?_; (focus (first | assumption | (refine neN ?_; (try dsimp only); omega))); (fail))))))))))))))))))) | (first | assumption | exact lt_ne (by assumption) | exact List.forall_mem_nil _ | (refine cons_ne ?_ ?_; (focus (first | assumption | (refine ltN ?_; omega) | exact And.left (by assumption))); (first | assumption | exact lt_ne (by assumption) | exact List.forall_mem_nil _ | (refine cons_ne ?_ ?_; (focus (first | assumption | (refine ltN ?_; omega) | exact And.left (by assumption))); (first | assumption | exact lt_ne (by assumption) | exact List.forall_mem_nil _ | (refine cons_ne ?_ ?_; (focus (first | assumption | (refine ltN ?_; omega) | exact And.left (by assumption))); (first | assumption | exact lt_ne (by assumption) | exact List.forall_mem_nil _ | (refine cons_ne ?_ ?_; (focus (first | assumption | (refine ltN ?_; omega) | exact And.left (by assumption))); (first | assumption | exact lt_ne (by assumption) | exact List.forall_mem_nil _ | (refine cons_ne ?_ ?_; (focus (first | assumption | (refine ltN ?_; omega) | exact And.left (by assumption))); (first | assumption | exact lt_ne (by assumption) | exact List.forall_mem_nil _ | (refine cons_ne ?_ ?_; (focus (first | assumption | (refine ltN ?_; omega) | exact And.left (by assumption))); (first | assumption | exact lt_ne (by assumption) | exact List.forall_mem_nil _ | (refine cons_ne ?_ ?_; (focus (first | assumption | (refine ltN ?_; omega) | exact And.left (by assumption))); (first | assumption | exact lt_ne (by assumption) | exact List.forall_mem_nil _ | (refine cons_ne ?_ ?_; (focus (first | assumption | (refine ltN ?_; omega) | exact And.left (by assumption))); (first | assumption | exact lt_ne (by assumption) | exact List.forall_mem_nil _ | (refine cons_ne ?_ ?_; (focus (first | assumption | (refine ltN ?_; omega) | exact And.left (by assumption))); (fail))))))))))))))))))))); (((case k1 => k_asm); (case k2 => k_asm); (case k3 => k_asm); (case k5 => k_asm); (case kK => first | exact rfl | assumption); (case kd => ktr_room); (case ku => ktr_units); k_whole)))); (intro v9 n9 h9 tk9 R9 F9 N9); (obtain ⟨d9, td9, x9, y9, tx9, ty9, m9, e9, l9, yl9, yg9, e8⟩ := R9); subst e9 e8; (try dsimp only); (try k_fold))) | walk1 | (dsimp only; walk1) | (leave1; (try dsimp only)))))
  k_dflt (refine LCg.ListComp_U (F₀ := by k_asm) (by with_unfolding_all rfl) (by decide) (by rfl) (by decide) (by rfl) ?_)
  (repeat' (first | (k_unfold; (try dsimp only)) | ((fail_if_success (with_reducible show wpAny _ _ (pyIter _) _ _ _)); (fail_if_success (with_reducible show InvEndN _ _ _ _ _ _ _)); (fail_if_success (with_reducible show wpAny _ _ (eval (Expr.ListComp _ _ _ _) _) _ _ _)); (fail_if_success (with_reducible show LCg.CompSrc _ _ _ _ _ _ _ _ _ _ _ _ _ _)); (fail_if_success (with_reducible show wpAny _ _ (exec (Stmt.For (Expr.Tuple _ _ _) _ _ _ _) _) _ _ _)); (fail_if_success (with_reducible show KswEnd _ _ _ _ _ _ _ _ _ _ _ _)); (fail_if_success (with_reducible show wpAny _ _ (exec (Stmt.While _ _ _ _) _) _ _ _)); first | ((k_here; (with_reducible show wpAny _ _ (call (Value.ref 70) [Value.ref _, Value.int _ _]) _ _ _); (k_dflt (refine' Cl.use (take_cl _ _ _ _ _ _ _ _ _ _ ?p0 ?p1 ?p2 ?p3 ?p4) ?k1 ?k2 ?k3 ?k4 ?k5 ?kK ?kd ?ku ?_; (case k4 => first | k_asm | exact news_swap (by k_asm) | exact news_rot (by k_asm) | exact news_pull3 (by k_asm) | exact news_perm5 (by k_asm)); (case p0 => first | decide | omega); (case p1 => first | decide | omega); (case p2 => assumption); (case p3 => assumption); (case p4 => (first | (first | assumption | exact lt_ne (by assumption) | exact List.forall_mem_nil _ | (refine cons_nn ?_ ?_; (focus (first | assumption | (refine neN ?_; (try dsimp only); omega))); (first | assumption | exact lt_ne (by assumption) | exact List.forall_mem_nil _ | (refine cons_nn ?_ ?_; (focus (first | assumption | (refine neN ?_; (try dsimp only); omega))); (first | assumption | exact lt_ne (by assumption) | exact List.forall_mem_nil _ | (refine cons_nn ?_ ?_; (focus (first | assumption | (refine neN ?_; (try dsimp only); omega))); (first | assumption | exact lt_ne (by assumption) | exact List.forall_mem_nil _ | (refine cons_nn ?_ ?_; (focus (first | assumption | (refine neN ?_; (try dsimp only); omega))); (first | assumption | exact lt_ne (by assumption) | exact List.forall_mem_nil _ | (refine cons_nn ?_ ?_; (focus (first | assumption | (refine neN ?_; (try dsimp only); omega))); (first | assumption | exact lt_ne (by assumption) | exact List.forall_mem_nil _ | (refine cons_nn ?_ ?_; (focus (first | assumption | (refine neN ?_; (try dsimp only); omega))); (first | assumption | exact lt_ne (by assumption) | exact List.forall_mem_nil _ | (refine cons_nn ?_ ?_; (focus (first | assumption | (refine neN ?_; (try dsimp only); omega))); (first | assumption | exact lt_ne (by assumption) | exact List.forall_mem_nil _ | (refine cons_nn ?_ ?_; (focus (first | assumption | (refine neN ?_; (try dsimp only); omega))); (first | assumption | exact lt_ne (by assumption) | exact List.forall_mem_nil _ | (refine cons_nn ?_ ?_; (focus (first | assumption | (refine neN ?_; (try dsimp only); omega))); (fail))))))))))))))))))) | (first | assumption | exact lt_ne (by assumption) | exact List.forall_mem_nil _ | (refine cons_ne ?_ ?_; (focus (first | assumption | (refine ltN ?_; omega) | exact And.left (by assumption))); (first | assumption | exact lt_ne (by assumption) | exact List.forall_mem_nil _ | (refine cons_ne ?_ ?_; (focus (first | assumption | (refine ltN ?_; omega) | exact And.left (by assumption))); (first | assumption | exact lt_ne (by assumption) | exact List.forall_mem_nil _ | (refine cons_ne ?_ ?_; (focus (first | assumption | (refine ltN ?_; omega) | exact And.left (by assumption))); (first | assumption | exact lt_ne (by assumption) | exact List.forall_mem_nil _ | (refine cons_ne ?_ ?_; (focus (first | assumption | (refine ltN ?_; omega) | exact And.left (by assumption))); (first | assumption | exact lt_ne (by assumption) | exact List.forall_mem_nil _ | (refine cons_ne ?_ ?_; (focus (first | assumption | (refine ltN ?_; omega) | exact And.left (by assumption))); (first | assumption | exact lt_ne (by assumption) | exact List.forall_mem_nil _ | (refine cons_ne ?_ ?_; (focus (first | assumption | (refine ltN ?_; omega) | exact And.left (by assumption))); (first | assumption | exact lt_ne (by assumption) | exact List.forall_mem_nil _ | (refine cons_ne ?_ ?_; (focus (first | assumption | (refine ltN ?_; omega) | exact And.left (by assumption))); (first | assumption | exact lt_ne (by assumption) | exact List.forall_mem_nil _ | (refine cons_ne ?_ ?_; (focus (first | assumption | (refine ltN ?_; omega) | exact And.left (by assumption))); (first | assumption | exact lt_ne (by assumption) | exact List.forall_mem_nil _ | (refine cons_ne ?_ ?_; (focus (first | assumption | (refine ltN ?_; omega) | exact And.left (by assumption))); (fail))))))))))))))))))))); (((case k1 => k_asm); (case k2 => k_asm); (case k3 => k_asm); (case k5 => k_asm); (case kK => first | exact rfl | assumption); (case kd => ktr_room); (case ku => ktr_units); k_whole)))); (intro v9 n9 h9 tk9 R9 F9 N9); (obtain ⟨d9, td9, x9, y9, tx9, ty9, m9, e9, l9, g9, yl9, yg9, e8⟩ := R9); subst e9 e8; (try dsimp only); (try k_fold))) | ((k_here; (with_reducible show wpAny _ _ (call (Value.ref 77) [Value.ref _, Value.ref _]) _ _ _); (k_dflt (refine' Cl.use (oneD _ _ _ _ _ _ _ _ _ _ _ _ _ _ _ _ _ _ _ _ _ _ _ _ _ _ _ _ _ _ _ _ ?p3 ?p4 ?p5) ?k1 ?k2 ?k3 ?k4 ?k5 ?kK ?kd ?ku ?_; (case k4 => first | k_asm | exact news_swap (by k_asm) | exact news_rot (by k_asm) | exact news_pull3 (by k_asm) | exact news_perm5 (by k_asm)); (case p3 => assumption); (case p4 => assumption); (case p5 => (first | (first | assumption | exact lt_ne (by assumption) | exact List.forall_mem_nil _ | (refine cons_nn ?_ ?_; (focus (first | assumption | (refine neN ?_; (try dsimp only); omega))); (first | assumption | exact lt_ne (by assumption) | exact List.forall_mem_nil _ | (refine cons_nn ?_ ?_; (focus (first | assumption | (refine neN ?_; (try dsimp only); omega))); (first | assumption | exact lt_ne (by assumption) | exact List.forall_mem_nil _ | (refine cons_nn ?_ ?_; (focus (first | assumption | (refine neN ?_; (try dsimp only); omega))); (first | assumption | exact lt_ne (by assumption) | exact List.forall_mem_nil _ | (refine cons_nn ?_ ?_; (focus (first | assumption | (refine neN ?_; (try dsimp only); omega))); (first | assumption | exact lt_ne (by assumption) | exact List.forall_mem_nil _ | (refine cons_nn ?_ ?_; (focus (first | assumption | (refine neN ?_; (try dsimp only); omega))); (first | assumption | exact lt_ne (by assumption) | exact List.forall_mem_nil _ | (refine cons_nn ?_ ?_; (focus (first | assumption | (refine neN ?_; (try dsimp only); omega))); (first | assumption | exact lt_ne (by assumption) | exact List.forall_mem_nil _ | (refine cons_nn ?_ ?_; (focus (first | assumption | (refine neN ?_; (try dsimp only); omega))); (first | assumption | exact lt_ne (by assumption) | exact List.forall_mem_nil _ | (refine cons_nn ?_ ?_; (focus (first | assumption | (refine neN ?_; (try dsimp only); omega))); (first | assumption | exact lt_ne (by assumption) | exact List.forall_mem_nil _ | (refine cons_nn ?_ ?_; (focus (first | assumption | (refine neN ?_; (try dsimp only); omega))); (fail))))))))))))))))))) | (first | assumption | exact lt_ne (by assumption) | exact List.forall_mem_nil _ | (refine cons_ne ?_ ?_; (focus (first | assumption | (refine ltN ?_; omega) | exact And.left (by assumption))); (first | assumption | exact lt_ne (by assumption) | exact List.forall_mem_nil _ | (refine cons_ne ?_ ?_; (focus (first | assumption | (refine ltN ?_; omega) | exact And.left (by assumption))); (first | assumption | exact lt_ne (by assumption) | exact List.forall_mem_nil _ | (refine cons_ne ?_ ?_; (focus (first | assumption | (refine ltN ?_; omega) | exact And.left (by assumption))); (first | assumption | exact lt_ne (by assumption) | exact List.forall_mem_nil _ | (refine cons_ne ?_ ?_; (focus (first | assumption | (refine ltN ?_; omega) | exact And.left (by assumption))); (first | assumption | exact lt_ne (by assumption) | exact List.forall_mem_nil _ | (refine cons_ne ?_ ?_; (focus (first | assumption | (refine ltN ?_; omega) | exact And.left (by assumption))); (first | assumption | exact lt_ne (by assumption) | exact List.forall_mem_nil _ | (refine cons_ne ?_ ?_; (focus (first | assumption | (refine ltN ?_; omega) | exact And.left (by assumption))); (first | assumption | exact lt_ne (by assumption) | exact List.forall_mem_nil _ | (refine cons_ne ?_ ?_; (focus (first | assumption | (refine ltN ?_; omega) | exact And.left (by assumption))); (first | assumption | exact lt_ne (by assumption) | exact List.forall_mem_nil _ | (refine cons_ne ?_ ?_; (focus (first | assumption | (refine ltN ?_; omega) | exact And.left (by assumption))); (first | assumption | exact lt_ne (by assumption) | exact List.forall_mem_nil _ | (refine cons_ne ?_ ?_; (focus (first | assumption | (refine ltN ?_; omega) | exact And.left (by assumption))); (fail))))))))))))))))))))); (((case k1 => k_asm); (case k2 => k_asm); (case k3 => k_asm); (case k5 => k_asm); (case kK => first | exact rfl | assumption); (case kd => ktr_room); (case ku => ktr_units); k_whole)))); (intro v9 n9 h9 tk9 R9 F9 N9); (obtain ⟨d9, td9, x9, y9, tx9, ty9, m9, e9, l9, yl9, yg9, e8⟩ := R9); subst e9 e8; (try dsimp only); (try k_fold))) | walk1 | (dsimp only; walk1) | (leave1; (try dsimp only)))))
  (rename Fr _ _ _ _ => lF'); (rename News _ _ _ _ => lN'); (rename IsRange _ _ _ _ _ _ _ _ => rgX)
  with_unfolding_all refine CompSrc.range (n := _) (by rfl) lF' lN' rgX (by first | exact small_one (by omega) (by omega) (by omega) (by omega) | decide) (by first | exact rangeSize_nat _ _ | rfl) ?_ (fun g => ?_)
  · rw [sizeLine_eq]; omega
  with_unfolding_all refine cst_rest (σ := Int × Int × Tok × Tok × Nat) (fun c => (src, srcO c.1 c.2.1 c.2.2.1 c.2.2.2.1 c.2.2.2.2) :: _) (fun i c ys => 0 ≤ c.2.1 ∧ c.2.1 < 2147483648 ∧ ∃ ns, IntsAre ys ns ∧ ns.length = i ∧ ∀ o ∈ ns, 0 ≤ o ∧ o < 256) (_, _, _, _, _) ?_ ?_ ?_
  · exact ⟨by assumption, by assumption, [], .nil, rfl, by simp⟩
  · clear lF' lN'
    intro i ⟨x1, y1, tx1, ty1, n1⟩ v I oI C oC D m₂ ys h tk E' hi ⟨tv, hv⟩ ⟨hz0, hz1, ns, hns, hln, hrn⟩ hC hx F1 N1 off ne mk
    subst hv
    dsimp only at N1 hz0 hz1
    have o1 : I ≠ src := Ne.symm off.1.1
    have o2 : C ≠ src := Ne.symm off.1.2.1
    have o3 : D ≠ src := Ne.symm off.1.2.2
    (repeat' (first | (k_unfold; (try dsimp only)) | ((fail_if_success (with_reducible show wpAny _ _ (pyIter _) _ _ _)); (fail_if_success (with_reducible show InvEndN _ _ _ _ _ _ _)); (fail_if_success (with_reducible show wpAny _ _ (eval (Expr.ListComp _ _ _ _) _) _ _ _)); (fail_if_success (with_reducible show LCg.CompSrc _ _ _ _ _ _ _ _ _ _ _ _ _ _)); (fail_if_success (with_reducible show wpAny _ _ (exec (Stmt.For (Expr.Tuple _ _ _) _ _ _ _) _) _ _ _)); (fail_if_success (with_reducible show KswEnd _ _ _ _ _ _ _ _ _ _ _ _)); (fail_if_success (with_reducible show wpAny _ _ (exec (Stmt.While _ _ _ _) _) _ _ _)); first | ((k_here; (with_reducible show wpAny _ _ (call (Value.ref 70) [Value.ref _, Value.int _ _]) _ _ _); (k_dflt (refine' Cl.use (take_cl _ _ _ _ _ _ _ _ _ _ ?p0 ?p1 ?p2 ?p3 ?p4) ?k1 ?k2 ?k3 ?k4 ?k5 ?kK ?kd ?ku ?_; (case k4 => first | k_asm | exact news_swap (by k_asm) | exact news_rot (by k_asm) | exact news_pull3 (by k_asm) | exact news_perm5 (by k_asm)); (case p0 => first | decide | omega); (case p1 => first | decide | omega); (case p2 => assumption); (case p3 => assumption); (case p4 => (first | (first | assumption | exact lt_ne (by assumption) | exact List.forall_mem_nil _ | (refine cons_nn ?_ ?_; (focus (first | assumption | (refine neN ?_; (try dsimp only); omega))); (first | assumption | exact lt_ne (by assumption) | exact List.forall_mem_nil _ | (refine cons_nn ?_ ?_; (focus (first | assumption | (refine neN ?_; (try dsimp only); omega))); (first | assumption | exact lt_ne (by assumption) | exact List.forall_mem_nil _ | (refine cons_nn ?_ ?_; (focus (first | assumption | (refine neN ?_; (try dsimp only); omega))); (first | assumption | exact lt_ne (by assumption) | exact List.forall_mem_nil _ | (refine cons_nn ?_ ?_; (focus (first | assumption | (refine neN ?_; (try dsimp only); omega))); (first | assumption | exact lt_ne (by assumption) | exact List.forall_mem_nil _ | (refine cons_nn ?_ ?_; (focus (first | assumption | (refine neN ?_; (try dsimp only); omega))); (first | assumption | exact lt_ne (by assumption) | exact List.forall_mem_nil _ | (refine cons_nn ?_ ?_; (focus (first | assumption | (refine neN ?_; (try dsimp only); omega))); (first | assumption | exact lt_ne (by assumption) | exact List.forall_mem_nil _ | (refine cons_nn ?_ ?_; (focus (first | assumption | (refine neN ?_; (try dsimp only); omega))); (first | assumption | exact lt_ne (by assumption) | exact List.forall_mem_nil _ | (refine cons_nn ?_ ?_; (focus (first | assumption | (refine neN ?_; (try dsimp only); omega))); (first | assumption | exact lt_ne (by assumption) | exact List.forall_mem_nil _ | (refine cons_nn ?_ ?_; (focus (first | assumption | (refine neN ?_; (try dsimp only); omega))); (fail))))))))))))))))))) | (first | assumption | exact lt_ne (by assumption) | exact List.forall_mem_nil _ | (refine cons_ne ?_ ?_; (focus (first | assumption | (refine ltN ?_; omega) | exact And.left (by assumption))); (first | assumption | exact lt_ne (by assumption) | exact List.forall_mem_nil _ | (refine cons_ne ?_ ?_; (focus (first | assumption | (refine ltN ?_; omega) | exact And.left (by assumption))); (first | assumption | exact lt_ne (by assumption) | exact List.forall_mem_nil _ | (refine cons_ne ?_ ?_; (focus (first | assumption | (refine ltN ?_; omega) | exact And.left (by assumption))); (first | assumption | exact lt_ne (by assumption) | exact List.forall_mem_nil _ | (refine cons_ne ?_ ?_; (focus (first | assumption | (refine ltN ?_; omega) | exact And.left (by assumption))); (first | assumption | exact lt_ne (by assumption) | exact List.forall_mem_nil _ | (refine cons_ne ?_ ?_; (focus (first | assumption | (refine ltN ?_; omega) | exact And.left (by assumption))); (first | assumption | exact lt_ne (by assumption) | exact List.forall_mem_nil _ | (refine cons_ne ?_ ?_; (focus (first | assumption | (refine ltN ?_; omega) | exact And.left (by assumption))); (first | assumption | exact lt_ne (by assumption) | exact List.forall_mem_nil _ | (refine cons_ne ?_ ?_; (focus (first | assumption | (refine ltN ?_; omega) | exact And.left (by assumption))); (first | assumption | exact lt_ne (by assumption) | exact List.forall_mem_nil _ | (refine cons_ne ?_ ?_; (focus (first | assumption | (refine ltN ?_; omega) | exact And.left (by assumption))); (first | assumption | exact lt_ne (by assumption) | exact List.forall_mem_nil _ | (refine cons_ne ?_ ?_; (focus (first | assumption | (refine ltN ?_; omega) | exact And.left (by assumption))); (fail))))))))))))))))))))); (((case k1 => k_asm); (case k2 => k_asm); (case k3 => k_asm); (case k5 => k_asm); (case kK => first | exact rfl | assumption); (case kd => ktr_room); (case ku => ktr_units); k_whole)))); (intro v9 n9 h9 tk9 R9 F9 N9); (obtain ⟨d9, td9, x9, y9, tx9, ty9, m9, e9, l9, g9, yl9, yg9, e8⟩ := R9); subst e9 e8; (try dsimp only); (try k_fold))) | ((k_here; (with_reducible show wpAny _ _ (call (Value.ref 77) [Value.ref _, Value.ref _]) _ _ _); (k_dflt (refine' Cl.use (oneD _ _ _ _ _ _ _ _ _ _ _ _ _ _ _ _ _ _ _ _ _ _ _ _ _ _ _ _ _ _ _ _ ?p3 ?p4 ?p5) ?k1 ?k2 ?k3 ?k4 ?k5 ?kK ?kd ?ku ?_; (case k4 => first | k_asm | exact news_swap (by k_asm) | exact news_rot (by k_asm) | exact news_pull3 (by k_asm) | exact news_perm5 (by k_asm)); (case p3 => assumption); (case p4 => assumption); (case p5 => (first | (first | assumption | exact lt_ne (by assumption) | exact List.forall_mem_nil _ | (refine cons_nn ?_ ?_; (focus (first | assumption | (refine neN ?_; (try dsimp only); omega))); (first | assumption | exact lt_ne (by assumption) | exact List.forall_mem_nil _ | (refine cons_nn ?_ ?_; (focus (first | assumption | (refine neN ?_; (try dsimp only); omega))); (first | assumption | exact lt_ne (by assumption) | exact List.forall_mem_nil _ | (refine cons_nn ?_ ?_; (focus (first | assumption | (refine neN ?_; (try dsimp only); omega))); (first | assumption | exact lt_ne (by assumption) | exact List.forall_mem_nil _ | (refine cons_nn ?_ ?_; (focus (first | assumption | (refine neN ?_; (try dsimp only); omega))); (first | assumption | exact lt_ne (by assumption) | exact List.forall_mem_nil _ | (refine cons_nn ?_ ?_; (focus (first | assumption | (refine neN ?_; (try dsimp only); omega))); (first | assumption | exact lt_ne (by assumption) | exact List.forall_mem_nil _ | (refine cons_nn ?_ ?_; (focus (first | assumption | (refine neN ?_; (try dsimp only); omega))); (first | assumption | exact lt_ne (by assumption) | exact List.forall_mem_nil _ | (refine cons_nn ?_ ?_; (focus (first | assumption | (refine neN ?_; (try dsimp only); omega))); (first | assumption | exact lt_ne (by assumption) | exact List.forall_mem_nil _ | (refine cons_nn ?_ ?_; (focus (first | assumption | (refine neN ?_; (try dsimp only); omega))); (first | assumption | exact lt_ne (by assumption) | exact List.forall_mem_nil _ | (refine cons_nn ?_ ?_; (focus (first | assumption | (refine neN ?_; (try dsimp only); omega))); (fail))))))))))))))))))) | (first | assumption | exact lt_ne (by assumption) | exact List.forall_mem_nil _ | (refine cons_ne ?_ ?_; (focus (first | assumption | (refine ltN ?_; omega) | exact And.left (by assumption))); (first | assumption | exact lt_ne (by assumption) | exact List.forall_mem_nil _ | (refine cons_ne ?_ ?_; (focus (first | assumption | (refine ltN ?_; omega) | exact And.left (by assumption))); (first | assumption | exact lt_ne (by assumption) | exact List.forall_mem_nil _ | (refine cons_ne ?_ ?_; (focus (first | assumption | (refine ltN ?_; omega) | exact And.left (by assumption))); (first | assumption | exact lt_ne (by assumption) | exact List.forall_mem_nil _ | (refine cons_ne ?_ ?_; (focus (first | assumption | (refine ltN ?_; omega) | exact And.left (by assumption))); (first | assumption | exact lt_ne (by assumption) | exact List.forall_mem_nil _ | (refine cons_ne ?_ ?_; (focus (first | assumption | (refine ltN ?_; omega) | exact And.left (by assumption))); (first | assumption | exact lt_ne (by assumption) | exact List.forall_mem_nil _ | (refine cons_ne ?_ ?_; (focus (first | assumption | (refine ltN ?_; omega) | exact And.left (by assumption))); (first | assumption | exact lt_ne (by assumption) | exact List.forall_mem_nil _ | (refine cons_ne ?_ ?_; (focus (first | assumption | (refine ltN ?_; omega) | exact And.left (by assumption))); (first | assumption | exact lt_ne (by assumption) | exact List.forall_mem_nil _ | (refine cons_ne ?_ ?_; (focus (first | assumption | (refine ltN ?_; omega) | exact And.left (by assumption))); (first | assumption | exact lt_ne (by assumption) | exact List.forall_mem_nil _ | (refine cons_ne ?_ ?_; (focus (first | assumption | (refine ltN ?_; omega) | exact And.left (by assumption))); (fail))))))))))))))))))))); (((case k1 => k_asm); (case k2 => k_asm); (case k3 => k_asm); (case k5 => k_asm); (case kK => first | exact rfl | assumption); (case kd => ktr_room); (case ku => ktr_units); k_whole)))); (intro v9 n9 h9 tk9 R9 F9 N9); (obtain ⟨d9, td9, x9, y9, tx9, ty9, m9, e9, l9, yl9, yg9, e8⟩ := R9); subst e9 e8; (try dsimp only); (try k_fold))) | walk1 | (dsimp only; walk1) | (leave1; (try dsimp only)))))
    rename_i F9 d9 td9 x9 y9 tx9 ty9 m9 l9 yl9 yg9 N9
    refine CompEnd.intro F9 N9 ((src, srcO x9 y9 tx9 ty9 m9) :: _) mem_perm5 off trivial ⟨(x9, y9, tx9, ty9, m9), rfl, yl9, yg9, ns ++ [d9], IntsAre.append hns (.cons d9 td9 .nil), by simp [hln], ?_⟩
    intro z hz
    rcases List.mem_append.mp hz with hz | hz
    · exact hrn z hz
    · rw [List.mem_singleton.mp hz]; exact menuD_in l9
  · intro ⟨x1, y1, tx1, ty1, n1⟩ ys ⟨hz0, hz1, ns, hns, hln, hrn⟩
    intro D h tk F1 N1 hoD
    dsimp only at N1 hz0 hz1
    (repeat' (first | (k_unfold; (try dsimp only)) | ((fail_if_success (with_reducible show wpAny _ _ (pyIter _) _ _ _)); (fail_if_success (with_reducible show InvEndN _ _ _ _ _ _ _)); (fail_if_success (with_reducible show wpAny _ _ (eval (Expr.ListComp _ _ _ _) _) _ _ _)); (fail_if_success (with_reducible show LCg.CompSrc _ _ _ _ _ _ _ _ _ _ _ _ _ _)); (fail_if_success (with_reducible show wpAny _ _ (exec (Stmt.For (Expr.Tuple _ _ _) _ _ _ _) _) _ _ _)); (fail_if_success (with_reducible show KswEnd _ _ _ _ _ _ _ _ _ _ _ _)); (fail_if_success (with_reducible show wpAny _ _ (exec (Stmt.While _ _ _ _) _) _ _ _)); first | ((k_here; (with_reducible show wpAny _ _ (call (Value.ref 70) [Value.ref _, Value.int _ _]) _ _ _); (k_dflt (refine' Cl.use (take_cl _ _ _ _ _ _ _ _ _ _ ?p0 ?p1 ?p2 ?p3 ?p4) ?k1 ?k2 ?k3 ?k4 ?k5 ?kK ?kd ?ku ?_; (case k4 => first | k_asm | exact news_swap (by k_asm) | exact news_rot (by k_asm) | exact news_pull3 (by k_asm) | exact news_perm5 (by k_asm)); (case p0 => first | decide | omega); (case p1 => first | decide | omega); (case p2 => assumption); (case p3 => assumption); (case p4 => (first | (first | assumption | exact lt_ne (by assumption) | exact List.forall_mem_nil _ | (refine cons_nn ?_ ?_; (focus (first | assumption | (refine neN ?_; (try dsimp only); omega))); (first | assumption | exact lt_ne (by assumption) | exact List.forall_mem_nil _ | (refine cons_nn ?_ ?_; (focus (first | assumption | (refine neN ?_; (try dsimp only); omega))); (first | assumption | exact lt_ne (by assumption) | exact List.forall_mem_nil _ | (refine cons_nn ?_ ?_; (focus (first | assumption | (refine neN ?_; (try dsimp only); omega))); (first | assumption | exact lt_ne (by assumption) | exact List.forall_mem_nil _ | (refine cons_nn ?_ ?_; (focus (first | assumption | (refine neN ?_; (try dsimp only); omega))); (first | assumption | exact lt_ne (by assumption) | exact List.forall_mem_nil _ | (refine cons_nn ?_ ?_; (focus (first | assumption | (refine neN ?_; (try dsimp only); omega))); (first | assumption | exact lt_ne (by assumption) | exact List.forall_mem_nil _ | (refine cons_nn ?_ ?_; (focus (first | assumption | (refine neN ?_; (try dsimp only); omega))); (first | assumption | exact lt_ne (by assumption) | exact List.forall_mem_nil _ | (refine cons_nn ?_ ?_; (focus (first | assumption | (refine neN ?_; (try dsimp only); omega))); (first | assumption | exact lt_ne (by assumption) | exact List.forall_mem_nil _ | (refine cons_nn ?_ ?_; (focus (first | assumption | (refine neN ?_; (try dsimp only); omega))); (first | assumption | exact lt_ne (by assumption) | exact List.forall_mem_nil _ | (refine cons_nn ?_ ?_; (focus (first | assumption | (refine neN ?_; (try dsimp only); omega))); (fail))))))))))))))))))) | (first | assumption | exact lt_ne (by assumption) | exact List.forall_mem_nil _ | (refine cons_ne ?_ ?_; (focus (first | assumption | (refine ltN ?_; omega) | exact And.left (by assumption))); (first | assumption | exact lt_ne (by assumption) | exact List.forall_mem_nil _ | (refine cons_ne ?_ ?_; (focus (first | assumption | (refine ltN ?_; omega) | exact And.left (by assumption))); (first | assumption | exact lt_ne (by assumption) | exact List.forall_mem_nil _ | (refine cons_ne ?_ ?_; (focus (first | assumption | (refine ltN ?_; omega) | exact And.left (by assumption))); (first | assumption | exact lt_ne (by assumption) | exact List.forall_mem_nil _ | (refine cons_ne ?_ ?_; (focus (first | assumption | (refine ltN ?_; omega) | exact And.left (by assumption))); (first | assumption | exact lt_ne (by assumption) | exact List.forall_mem_nil _ | (refine cons_ne ?_ ?_; (focus (first | assumption | (refine ltN ?_; omega) | exact And.left (by assumption))); (first | assumption | exact lt_ne (by assumption) | exact List.forall_mem_nil _ | (refine cons_ne ?_ ?_; (focus (first | assumption | (refine ltN ?_; omega) | exact And.left (by assumption))); (first | assumption | exact lt_ne (by assumption) | exact List.forall_mem_nil _ | (refine cons_ne ?_ ?_; (focus (first | assumption | (refine ltN ?_; omega) | exact And.left (by assumption))); (first | assumption | exact lt_ne (by assumption) | exact List.forall_mem_nil _ | (refine cons_ne ?_ ?_; (focus (first | assumption | (refine ltN ?_; omega) | exact And.left (by assumption))); (first | assumption | exact lt_ne (by assumption) | exact List.forall_mem_nil _ | (refine cons_ne ?_ ?_; (focus (first | assumption | (refine ltN ?_; omega) | exact And.left (by assumption))); (fail))))))))))))))))))))); (((case k1 => k_asm); (case k2 => k_asm); (case k3 => k_asm); (case k5 => k_asm); (case kK => first | exact rfl | assumption); (case kd => ktr_room); (case ku => ktr_units); k_whole)))); (intro v9 n9 h9 tk9 R9 F9 N9); (obtain ⟨d9, td9, x9, y9, tx9, ty9, m9, e9, l9, g9, yl9, yg9, e8⟩ := R9); subst e9 e8; (try dsimp only); (try k_fold))) | ((k_here; (with_reducible show wpAny _ _ (call (Value.ref 77) [Value.ref _, Value.ref _]) _ _ _); (k_dflt (refine' Cl.use (oneD _ _ _ _ _ _ _ _ _ _ _ _ _ _ _ _ _ _ _ _ _ _ _ _ _ _ _ _ _ _ _ _ ?p3 ?p4 ?p5) ?k1 ?k2 ?k3 ?k4 ?k5 ?kK ?kd ?ku ?_; (case k4 => first | k_asm | exact news_swap (by k_asm) | exact news_rot (by k_asm) | exact news_pull3 (by k_asm) | exact news_perm5 (by k_asm)); (case p3 => assumption); (case p4 => assumption); (case p5 => (first | (first | assumption | exact lt_ne (by assumption) | exact List.forall_mem_nil _ | (refine cons_nn ?_ ?_; (focus (first | assumption | (refine neN ?_; (try dsimp only); omega))); (first | assumption | exact lt_ne (by assumption) | exact List.forall_mem_nil _ | (refine cons_nn ?_ ?_; (focus (first | assumption | (refine neN ?_; (try dsimp only); omega))); (first | assumption | exact lt_ne (by assumption) | exact List.forall_mem_nil _ | (refine cons_nn ?_ ?_; (focus (first | assumption | (refine neN ?_; (try dsimp only); omega))); (first | assumption | exact lt_ne (by assumption) | exact List.forall_mem_nil _ | (refine cons_nn ?_ ?_; (focus (first | assumption | (refine neN ?_; (try dsimp only); omega))); (first | assumption | exact lt_ne (by assumption) | exact List.forall_mem_nil _ | (refine cons_nn ?_ ?_; (focus (first | assumption | (refine neN ?_; (try dsimp only); omega))); (first | assumption | exact lt_ne (by assumption) | exact List.forall_mem_nil _ | (refine cons_nn ?_ ?_; (focus (first | assumption | (refine neN ?_; (try dsimp only); omega))); (first | assumption | exact lt_ne (by assumption) | exact List.forall_mem_nil _ | (refine cons_nn ?_ ?_; (focus (first | assumption | (refine neN ?_; (try dsimp only); omega))); (first | assumption | exact lt_ne (by assumption) | exact List.forall_mem_nil _ | (refine cons_nn ?_ ?_; (focus (first | assumption | (refine neN ?_; (try dsimp only); omega))); (first | assumption | exact lt_ne (by assumption) | exact List.forall_mem_nil _ | (refine cons_nn ?_ ?_; (focus (first | assumption | (refine neN ?_; (try dsimp only); omega))); (fail))))))))))))))))))) | (first | assumption | exact lt_ne (by assumption) | exact List.forall_mem_nil _ | (refine cons_ne ?_ ?_; (focus (first | assumption | (refine ltN ?_; omega) | exact And.left (by assumption))); (first | assumption | exact lt_ne (by assumption) | exact List.forall_mem_nil _ | (refine cons_ne ?_ ?_; (focus (first | assumption | (refine ltN ?_; omega) | exact And.left (by assumption))); (first | assumption | exact lt_ne (by assumption) | exact List.forall_mem_nil _ | (refine cons_ne ?_ ?_; (focus (first | assumption | (refine ltN ?_; omega) | exact And.left (by assumption))); (first | assumption | exact lt_ne (by assumption) | exact List.forall_mem_nil _ | (refine cons_ne ?_ ?_; (focus (first | assumption | (refine ltN ?_; omega) | exact And.left (by assumption))); (first | assumption | exact lt_ne (by assumption) | exact List.forall_mem_nil _ | (refine cons_ne ?_ ?_; (focus (first | assumption | (refine ltN ?_; omega) | exact And.left (by assumption))); (first | assumption | exact lt_ne (by assumption) | exact List.forall_mem_nil _ | (refine cons_ne ?_ ?_; (focus (first | assumption | (refine ltN ?_; omega) | exact And.left (by assumption))); (first | assumption | exact lt_ne (by assumption) | exact List.forall_mem_nil _ | (refine cons_ne ?_ ?_; (focus (first | assumption | (refine ltN ?_; omega) | exact And.left (by assumption))); (first | assumption | exact lt_ne (by assumption) | exact List.forall_mem_nil _ | (refine cons_ne ?_ ?_; (focus (first | assumption | (refine ltN ?_; omega) | exact And.left (by assumption))); (first | assumption | exact lt_ne (by assumption) | exact List.forall_mem_nil _ | (refine cons_ne ?_ ?_; (focus (first | assumption | (refine ltN ?_; omega) | exact And.left (by assumption))); (fail))))))))))))))))))))); (((case k1 => k_asm); (case k2 => k_asm); (case k3 => k_asm); (case k5 => k_asm); (case kK => first | exact rfl | assumption); (case kd => ktr_room); (case ku => ktr_units); k_whole)))); (intro v9 n9 h9 tk9 R9 F9 N9); (obtain ⟨d9, td9, x9, y9, tx9, ty9, m9, e9, l9, yl9, yg9, e8⟩ := R9); subst e9 e8; (try dsimp only); (try k_fold))) | walk1 | (dsimp only; walk1) | (leave1; (try dsimp only)))))
    refine hret _ _ _ _ ⟨D, ys, ns, _, x1, y1, tx1, ty1, n1, rfl, hns, by omega, hrn, hz0, hz1, rfl, hoD.1, off1_all hoD.2.2.2.2⟩ (by k_asm) (news_of (by k_asm) (by first | kst_in | kst_inAny))
end Mine
end
section
open PySem PySem.W PyProof.Rows
namespace Mine
local macro_rules | `(tactic| walk_at "subscriptTail Name Slice ref ref") => `(tactic| (k_here; (with_reducible show wpAny _ _ (subscriptTail _ (PySem.Expr.Slice (some _) none none _) (Value.ref _) (Value.ref _)) _ _ _); k_dflt (refine' kmk_slice_ints ?F ?N ?l ?p ?q ?i ?m ?c ?_ ?s ?t ?z; (case F => k_asm); (case N => k_asm); (case l => kmk_list); (case p => kmk_part); (case q => kmk_part); (case i => assumption); (case m => exact kmk_from (by assumption) (by omega)); (case c => kmk_len); (case s => with_unfolding_all rfl); (case t => kmk_pure); (case z => kmk_size)); intro D' ws' h' F' N' l1 hI' hC' hL'; (try simp only [Int.reduceNeg, Int.neg_neg, Int.reduceToNat] at hI' hC' hL'); (try k_lt l1); (try k_sweep)))
local macro_rules | `(tactic| walk_at "subscriptTail Name Slice ref ref") => `(tactic| (k_here; (with_reducible show wpAny _ _ (subscriptTail _ (PySem.Expr.Slice none (some _) none _) (Value.ref _) (Value.ref _)) _ _ _); k_dflt (refine' kmk_slice_ints ?F ?N ?l ?p ?q ?i ?m ?c ?_ ?s ?t ?z; (case F => k_asm); (case N => k_asm); (case l => kmk_list); (case p => kmk_part); (case q => kmk_part); (case i => assumption); (case m => exact kmk_upto (by assumption) (by omega)); (case c => kmk_len); (case s => with_unfolding_all rfl); (case t => kmk_pure); (case z => kmk_size)); intro D' ws' h' F' N' l1 hI' hC' hL'; (try simp only [Int.reduceNeg, Int.neg_neg, Int.reduceToNat] at hI' hC' hL'); (try k_lt l1); (try k_sweep)))
local macro_rules | `(tactic| walk_at "subscriptTail Name Slice ref ref") => `(tactic| (k_here; (with_reducible show wpAny _ _ (subscriptTail _ (PySem.Expr.Slice (some _) (some _) none _) (Value.ref _) (Value.ref _)) _ _ _); k_dflt (refine' kmk_slice_ints ?F ?N ?l ?p ?q ?i ?m ?c ?_ ?s ?t ?z; (case F => k_asm); (case N => k_asm); (case l => kmk_list); (case p => kmk_part); (case q => kmk_part); (case i => assumption); (case m => exact kmk_run (by assumption) (by omega) (by omega)); (case c => kmk_len); (case s => with_unfolding_all rfl); (case t => kmk_pure); (case z => kmk_size)); intro D' ws' h' F' N' l1 hI' hC' hL'; (try simp only [Int.reduceNeg, Int.neg_neg, Int.reduceToNat] at hI' hC' hL'); (try k_lt l1); (try k_sweep)))
theorem menuB_in {c : Int} (h : c ∈ menuB) : 0 ≤ c ∧ c < 256 := by
  simp only [menuB, List.mem_cons, List.not_mem_nil, or_false] at h; omega
theorem menuC_in {c : Int} (h : c ∈ menuC) : 0 ≤ c ∧ c < 256 := by
  simp only [menuC, List.mem_cons, List.not_mem_nil, or_false] at h; omega
theorem spoilt_cl (w : World) (src ol : Addr) (x y : Int) (tx ty : Tok) (n no : Nat) (vs : List Value) (os : List Int) (news : Led) (hv : IntsAre vs os) (hlen : os.length ≤ 40) (hr : ∀ o ∈ os, 0 ≤ o ∧ o < 256) (hy0 : 0 ≤ y) (hy1 : y < 2147483648) (hne : ∀ p ∈ (ol, W.listOf vs.toArray no) :: news, p.1 ≠ src) :
   Cl w 112 10 400 [.ref src, .ref ol] ((src, srcO x y tx ty n) :: (ol, W.listOf vs.toArray no) :: news) (fun v l => ∃ ad ws ns nn x' y' tx' ty' n', v = .ref ad ∧ IntsAre ws ns ∧ ns.length ≤ os.length + 1 ∧ (∀ o ∈ ns, 0 ≤ o ∧ o < 256) ∧ 0 ≤ y' ∧ y' < 2147483648 ∧ l = (ad, W.listOf ws.toArray nn) :: (src, srcO x' y' tx' ty' n') :: (ol, W.listOf vs.toArray no) :: news ∧ src < ad ∧ ol < ad ∧ ∀ p ∈ news, p.1 < ad) := by
  unfold Cl; k_fill
  intro loose mean mg mb dp un gd cn cs a ccd cl outer A₀ base h₀ L m s Q E B F X N T hk hd hu hret
  refine wpAny_call ?_
  k_dflt (refine' code_def (binds := [(Str.ofString "source", Value.ref src), (Str.ofString "octets", Value.ref ol)]) ?k1 ?k2 ?k3 ?k4 ?k5 ?kA ?kF ?kK ?k6 ?k7 ?k8 ?k9 ?kB ?_ ?c2 ?c3 ?c4 ?c5; (((case kA => exact rfl); (case kF => exact rfl); (case kK => assumption); (case k1 => k_asm); (case k2 => k_asm); (case k3 => k_asm); (case k4 => k_asm); (case k5 => k_asm); (case k6 => k_is); (case k7 => k_is); (case k8 => ktr_room); (case k9 => exact BindsTo.of_eq rfl); (case c5 => decide); (case kB => exact locs rfl); (case c2 => exact rfl); (case c3 => exact rfl); (case c4 => exact rfl); k_whole; intro g' L' h' FG' F' N' B' X' T'; (try dsimp only); (try k_lift B'); (try dsimp only [List.length_cons, List.length_nil, List.reverse_cons, List.reverse_nil, List.nil_append, List.cons_append] at F' ⊢); (try k_fold))))
  have hvl := hv.length
  by_cases h0 : os = []
  · subst h0
    cases hv
    (repeat' (first | (k_unfold; (try dsimp only)) | ((fail_if_success (with_reducible show wpAny _ _ (pyIter _) _ _ _)); (fail_if_success (with_reducible show InvEndN _ _ _ _ _ _ _)); (fail_if_success (with_reducible show wpAny _ _ (exec (Stmt.Return (some (Expr.BinOp _ _ _ _)) _) _) _ _ _)); (fail_if_success (with_reducible show wpAny _ _ (exec (Stmt.For (Expr.Tuple _ _ _) _ _ _ _) _) _ _ _)); (fail_if_success (with_reducible show KswEnd _ _ _ _ _ _ _ _ _ _ _ _)); (fail_if_success (with_reducible show wpAny _ _ (exec (Stmt.While _ _ _ _) _) _ _ _)); first | ((k_here; (with_reducible show wpAny _ _ (call (Value.ref 77) [Value.ref _, Value.ref _]) _ _ _); (k_dflt (refine' Cl.use (oneC _ _ _ _ _ _ _ _ _ _ _ _ _ _ _ _ _ _ _ _ _ _ _ _ ?p3 ?p4 ?p5) ?k1 ?k2 ?k3 ?k4 ?k5 ?kK ?kd ?ku ?_; (case k4 => first | k_asm | exact news_swap (by k_asm) | exact news_rot (by k_asm)); (case p3 => assumption); (case p4 => assumption); (case p5 => (first | assumption | exact lt_ne (by assumption) | exact List.forall_mem_nil _ | (refine cons_ne ?_ ?_; (focus (first | assumption | (refine ltN ?_; omega) | exact And.left (by assumption))); (first | assumption | exact lt_ne (by assumption) | exact List.forall_mem_nil _ | (refine cons_ne ?_ ?_; (focus (first | assumption | (refine ltN ?_; omega) | exact And.left (by assumption))); (first | assumption | exact lt_ne (by assumption) | exact List.forall_mem_nil _ | (refine cons_ne ?_ ?_; (focus (first | assumption | (refine ltN ?_; omega) | exact And.left (by assumption))); (first | assumption | exact lt_ne (by assumption) | exact List.forall_mem_nil _ | (refine cons_ne ?_ ?_; (focus (first | assumption | (refine ltN ?_; omega) | exact And.left (by assumption))); (first | assumption | exact lt_ne (by assumption) | exact List.forall_mem_nil _ | (refine cons_ne ?_ ?_; (focus (first | assumption | (refine ltN ?_; omega) | exact And.left (by assumption))); (first | assumption | exact lt_ne (by assumption) | exact List.forall_mem_nil _ | (refine cons_ne ?_ ?_; (focus (first | assumption | (refine ltN ?_; omega) | exact And.left (by assumption))); (first | assumption | exact lt_ne (by assumption) | exact List.forall_mem_nil _ | (refine cons_ne ?_ ?_; (focus (first | assumption | (refine ltN ?_; omega) | exact And.left (by assumption))); (first | assumption | exact lt_ne (by assumption) | exact List.forall_mem_nil _ | (refine cons_ne ?_ ?_; (focus (first | assumption | (refine ltN ?_; omega) | exact And.left (by assumption))); (first | assumption | exact lt_ne (by assumption) | exact List.forall_mem_nil _ | (refine cons_ne ?_ ?_; (focus (first | assumption | (refine ltN ?_; omega) | exact And.left (by assumption))); (fail)))))))))))))))))))); (((case k1 => k_asm); (case k2 => k_asm); (case k3 => k_asm); (case k5 => k_asm); (case kK => first | exact rfl | assumption); (case kd => ktr_room); (case ku => ktr_units); k_whole)))); (intro _ _ _ _ R9 _ _); (obtain ⟨_, _, _, _, _, _, _, e9, _, _, _, e8⟩ := R9); subst e9 e8; (try dsimp only); (try k_fold))) | ((k_here; (with_reducible show wpAny _ _ (call (Value.ref 77) [Value.ref _, Value.ref _]) _ _ _); (k_dflt (refine' Cl.use (oneB _ _ _ _ _ _ _ _ _ _ _ _ _ _ ?p3 ?p4 ?p5) ?k1 ?k2 ?k3 ?k4 ?k5 ?kK ?kd ?ku ?_; (case k4 => first | k_asm | exact news_swap (by k_asm) | exact news_rot (by k_asm)); (case p3 => assumption); (case p4 => assumption); (case p5 => (first | assumption | exact lt_ne (by assumption) | exact List.forall_mem_nil _ | (refine cons_ne ?_ ?_; (focus (first | assumption | (refine ltN ?_; omega) | exact And.left (by assumption))); (first | assumption | exact lt_ne (by assumption) | exact List.forall_mem_nil _ | (refine cons_ne ?_ ?_; (focus (first | assumption | (refine ltN ?_; omega) | exact And.left (by assumption))); (first | assumption | exact lt_ne (by assumption) | exact List.forall_mem_nil _ | (refine cons_ne ?_ ?_; (focus (first | assumption | (refine ltN ?_; omega) | exact And.left (by assumption))); (first | assumption | exact lt_ne (by assumption) | exact List.forall_mem_nil _ | (refine cons_ne ?_ ?_; (focus (first | assumption | (refine ltN ?_; omega) | exact And.left (by assumption))); (first | assumption | exact lt_ne (by assumption) | exact List.forall_mem_nil _ | (refine cons_ne ?_ ?_; (focus (first | assumption | (refine ltN ?_; omega) | exact And.left (by assumption))); (first | assumption | exact lt_ne (by assumption) | exact List.forall_mem_nil _ | (refine cons_ne ?_ ?_; (focus (first | assumption | (refine ltN ?_; omega) | exact And.left (by assumption))); (first | assumption | exact lt_ne (by assumption) | exact List.forall_mem_nil _ | (refine cons_ne ?_ ?_; (focus (first | assumption | (refine ltN ?_; omega) | exact And.left (by assumption))); (first | assumption | exact lt_ne (by assumption) | exact List.forall_mem_nil _ | (refine cons_ne ?_ ?_; (focus (first | assumption | (refine ltN ?_; omega) | exact And.left (by assumption))); (first | assumption | exact lt_ne (by assumption) | exact List.forall_mem_nil _ | (refine cons_ne ?_ ?_; (focus (first | assumption | (refine ltN ?_; omega) | exact And.left (by assumption))); (fail)))))))))))))))))))); (((case k1 => k_asm); (case k2 => k_asm); (case k3 => k_asm); (case k5 => k_asm); (case kK => first | exact rfl | assumption); (case kd => ktr_room); (case ku => ktr_units); k_whole)))); (intro _ _ _ _ R9 _ _); (obtain ⟨_, _, _, _, _, _, _, e9, _, _, _, e8⟩ := R9); subst e9 e8; (try dsimp only); (try k_fold))) | ((k_here; (with_reducible show wpAny _ _ (call (Value.ref 70) [Value.ref _, Value.int _ _]) _ _ _); (k_dflt (refine' Cl.use (take_cl _ _ _ _ _ _ _ _ _ _ ?p0 ?p1 ?p2 ?p3 ?p4) ?k1 ?k2 ?k3 ?k4 ?k5 ?kK ?kd ?ku ?_; (case k4 => first | k_asm | exact news_swap (by k_asm) | exact news_rot (by k_asm)); (case p0 => first | decide | omega); (case p1 => first | decide | omega); (case p2 => assumption); (case p3 => assumption); (case p4 => (first | assumption | exact lt_ne (by assumption) | exact List.forall_mem_nil _ | (refine cons_ne ?_ ?_; (focus (first | assumption | (refine ltN ?_; omega) | exact And.left (by assumption))); (first | assumption | exact lt_ne (by assumption) | exact List.forall_mem_nil _ | (refine cons_ne ?_ ?_; (focus (first | assumption | (refine ltN ?_; omega) | exact And.left (by assumption))); (first | assumption | exact lt_ne (by assumption) | exact List.forall_mem_nil _ | (refine cons_ne ?_ ?_; (focus (first | assumption | (refine ltN ?_; omega) | exact And.left (by assumption))); (first | assumption | exact lt_ne (by assumption) | exact List.forall_mem_nil _ | (refine cons_ne ?_ ?_; (focus (first | assumption | (refine ltN ?_; omega) | exact And.left (by assumption))); (first | assumption | exact lt_ne (by assumption) | exact List.forall_mem_nil _ | (refine cons_ne ?_ ?_; (focus (first | assumption | (refine ltN ?_; omega) | exact And.left (by assumption))); (first | assumption | exact lt_ne (by assumption) | exact List.forall_mem_nil _ | (refine cons_ne ?_ ?_; (focus (first | assumption | (refine ltN ?_; omega) | exact And.left (by assumption))); (first | assumption | exact lt_ne (by assumption) | exact List.forall_mem_nil _ | (refine cons_ne ?_ ?_; (focus (first | assumption | (refine ltN ?_; omega) | exact And.left (by assumption))); (first | assumption | exact lt_ne (by assumption) | exact List.forall_mem_nil _ | (refine cons_ne ?_ ?_; (focus (first | assumption | (refine ltN ?_; omega) | exact And.left (by assumption))); (first | assumption | exact lt_ne (by assumption) | exact List.forall_mem_nil _ | (refine cons_ne ?_ ?_; (focus (first | assumption | (refine ltN ?_; omega) | exact And.left (by assumption))); (fail)))))))))))))))))))); (((case k1 => k_asm); (case k2 => k_asm); (case k3 => k_asm); (case k5 => k_asm); (case kK => first | exact rfl | assumption); (case kd => ktr_room); (case ku => ktr_units); k_whole)))); (intro _ _ _ _ R9 _ _); (obtain ⟨_, _, _, _, _, _, _, e9, _, _, _, _, e8⟩ := R9); subst e9 e8; (try dsimp only); (try k_fold))) | ((k_here; (with_reducible show wpAny _ _ (subscriptTail _ _ (Value.ref _) (Value.int _ _)) _ _ _); (k_dflt (refine' item_l ?q1 ?q2 ?q3 ?q4 ?q5 ?q6 ?_; (case q1 => k_asm); (case q2 => k_mem); (case q3 => assumption); (case q4 => assumption); (case q5 => assumption); (case q6 => omega))); intro _)) | walk1 | (dsimp only; walk1) | (leave1; (try dsimp only)))))
    rename_i d9 td9 x9 y9 tx9 ty9 m9 l9 yl9 yg9 l' _ _ _ l1 _ kN _ _
    refine hret _ _ _ _ ⟨l', [.int d9 td9], [d9], 0, x9, y9, tx9, ty9, m9, rfl, .cons _ _ .nil, by simp, ?_, yl9, yg9, rfl, l1.1, l1.2.2.2.1, kst_ltOf l1.2.2.2.2⟩ (by k_asm) (news_of kN (by first | kst_in | kst_inAny))
    intro z hz
    rw [List.mem_singleton.mp hz]
    exact menuB_in l9
  · have hpos : 0 < os.length := List.length_pos_iff.mpr h0
    (repeat' (first | (k_unfold; (try dsimp only)) | ((fail_if_success (with_reducible show wpAny _ _ (pyIter _) _ _ _)); (fail_if_success (with_reducible show InvEndN _ _ _ _ _ _ _)); (fail_if_success (with_reducible show wpAny _ _ (exec (Stmt.Return (some (Expr.BinOp _ _ _ _)) _) _) _ _ _)); (fail_if_success (with_reducible show wpAny _ _ (exec (Stmt.For (Expr.Tuple _ _ _) _ _ _ _) _) _ _ _)); (fail_if_success (with_reducible show KswEnd _ _ _ _ _ _ _ _ _ _ _ _)); (fail_if_success (with_reducible show wpAny _ _ (exec (Stmt.While _ _ _ _) _) _ _ _)); first | ((k_here; (with_reducible show wpAny _ _ (call (Value.ref 77) [Value.ref _, Value.ref _]) _ _ _); (k_dflt (refine' Cl.use (oneC _ _ _ _ _ _ _ _ _ _ _ _ _ _ _ _ _ _ _ _ _ _ _ _ ?p3 ?p4 ?p5) ?k1 ?k2 ?k3 ?k4 ?k5 ?kK ?kd ?ku ?_; (case k4 => first | k_asm | exact news_swap (by k_asm) | exact news_rot (by k_asm)); (case p3 => assumption); (case p4 => assumption); (case p5 => (first | assumption | exact lt_ne (by assumption) | exact List.forall_mem_nil _ | (refine cons_ne ?_ ?_; (focus (first | assumption | (refine ltN ?_; omega) | exact And.left (by assumption))); (first | assumption | exact lt_ne (by assumption) | exact List.forall_mem_nil _ | (refine cons_ne ?_ ?_; (focus (first | assumption | (refine ltN ?_; omega) | exact And.left (by assumption))); (first | assumption | exact lt_ne (by assumption) | exact List.forall_mem_nil _ | (refine cons_ne ?_ ?_; (focus (first | assumption | (refine ltN ?_; omega) | exact And.left (by assumption))); (first | assumption | exact lt_ne (by assumption) | exact List.forall_mem_nil _ | (refine cons_ne ?_ ?_; (focus (first | assumption | (refine ltN ?_; omega) | exact And.left (by assumption))); (first | assumption | exact lt_ne (by assumption) | exact List.forall_mem_nil _ | (refine cons_ne ?_ ?_; (focus (first | assumption | (refine ltN ?_; omega) | exact And.left (by assumption))); (first | assumption | exact lt_ne (by assumption) | exact List.forall_mem_nil _ | (refine cons_ne ?_ ?_; (focus (first | assumption | (refine ltN ?_; omega) | exact And.left (by assumption))); (first | assumption | exact lt_ne (by assumption) | exact List.forall_mem_nil _ | (refine cons_ne ?_ ?_; (focus (first | assumption | (refine ltN ?_; omega) | exact And.left (by assumption))); (first | assumption | exact lt_ne (by assumption) | exact List.forall_mem_nil _ | (refine cons_ne ?_ ?_; (focus (first | assumption | (refine ltN ?_; omega) | exact And.left (by assumption))); (first | assumption | exact lt_ne (by assumption) | exact List.forall_mem_nil _ | (refine cons_ne ?_ ?_; (focus (first | assumption | (refine ltN ?_; omega) | exact And.left (by assumption))); (fail)))))))))))))))))))); (((case k1 => k_asm); (case k2 => k_asm); (case k3 => k_asm); (case k5 => k_asm); (case kK => first | exact rfl | assumption); (case kd => ktr_room); (case ku => ktr_units); k_whole)))); (intro _ _ _ _ R9 _ _); (obtain ⟨_, _, _, _, _, _, _, e9, _, _, _, e8⟩ := R9); subst e9 e8; (try dsimp only); (try k_fold))) | ((k_here; (with_reducible show wpAny _ _ (call (Value.ref 77) [Value.ref _, Value.ref _]) _ _ _); (k_dflt (refine' Cl.use (oneB _ _ _ _ _ _ _ _ _ _ _ _ _ _ ?p3 ?p4 ?p5) ?k1 ?k2 ?k3 ?k4 ?k5 ?kK ?kd ?ku ?_; (case k4 => first | k_asm | exact news_swap (by k_asm) | exact news_rot (by k_asm)); (case p3 => assumption); (case p4 => assumption); (case p5 => (first | assumption | exact lt_ne (by assumption) | exact List.forall_mem_nil _ | (refine cons_ne ?_ ?_; (focus (first | assumption | (refine ltN ?_; omega) | exact And.left (by assumption))); (first | assumption | exact lt_ne (by assumption) | exact List.forall_mem_nil _ | (refine cons_ne ?_ ?_; (focus (first | assumption | (refine ltN ?_; omega) | exact And.left (by assumption))); (first | assumption | exact lt_ne (by assumption) | exact List.forall_mem_nil _ | (refine cons_ne ?_ ?_; (focus (first | assumption | (refine ltN ?_; omega) | exact And.left (by assumption))); (first | assumption | exact lt_ne (by assumption) | exact List.forall_mem_nil _ | (refine cons_ne ?_ ?_; (focus (first | assumption | (refine ltN ?_; omega) | exact And.left (by assumption))); (first | assumption | exact lt_ne (by assumption) | exact List.forall_mem_nil _ | (refine cons_ne ?_ ?_; (focus (first | assumption | (refine ltN ?_; omega) | exact And.left (by assumption))); (first | assumption | exact lt_ne (by assumption) | exact List.forall_mem_nil _ | (refine cons_ne ?_ ?_; (focus (first | assumption | (refine ltN ?_; omega) | exact And.left (by assumption))); (first | assumption | exact lt_ne (by assumption) | exact List.forall_mem_nil _ | (refine cons_ne ?_ ?_; (focus (first | assumption | (refine ltN ?_; omega) | exact And.left (by assumption))); (first | assumption | exact lt_ne (by assumption) | exact List.forall_mem_nil _ | (refine cons_ne ?_ ?_; (focus (first | assumption | (refine ltN ?_; omega) | exact And.left (by assumption))); (first | assumption | exact lt_ne (by assumption) | exact List.forall_mem_nil _ | (refine cons_ne ?_ ?_; (focus (first | assumption | (refine ltN ?_; omega) | exact And.left (by assumption))); (fail)))))))))))))))))))); (((case k1 => k_asm); (case k2 => k_asm); (case k3 => k_asm); (case k5 => k_asm); (case kK => first | exact rfl | assumption); (case kd => ktr_room); (case ku => ktr_units); k_whole)))); (intro _ _ _ _ R9 _ _); (obtain ⟨_, _, _, _, _, _, _, e9, _, _, _, e8⟩ := R9); subst e9 e8; (try dsimp only); (try k_fold))) | ((k_here; (with_reducible show wpAny _ _ (call (Value.ref 70) [Value.ref _, Value.int _ _]) _ _ _); (k_dflt (refine' Cl.use (take_cl _ _ _ _ _ _ _ _ _ _ ?p0 ?p1 ?p2 ?p3 ?p4) ?k1 ?k2 ?k3 ?k4 ?k5 ?kK ?kd ?ku ?_; (case k4 => first | k_asm | exact news_swap (by k_asm) | exact news_rot (by k_asm)); (case p0 => first | decide | omega); (case p1 => first | decide | omega); (case p2 => assumption); (case p3 => assumption); (case p4 => (first | assumption | exact lt_ne (by assumption) | exact List.forall_mem_nil _ | (refine cons_ne ?_ ?_; (focus (first | assumption | (refine ltN ?_; omega) | exact And.left (by assumption))); (first | assumption | exact lt_ne (by assumption) | exact List.forall_mem_nil _ | (refine cons_ne ?_ ?_; (focus (first | assumption | (refine ltN ?_; omega) | exact And.left (by assumption))); (first | assumption | exact lt_ne (by assumption) | exact List.forall_mem_nil _ | (refine cons_ne ?_ ?_; (focus (first | assumption | (refine ltN ?_; omega) | exact And.left (by assumption))); (first | assumption | exact lt_ne (by assumption) | exact List.forall_mem_nil _ | (refine cons_ne ?_ ?_; (focus (first | assumption | (refine ltN ?_; omega) | exact And.left (by assumption))); (first | assumption | exact lt_ne (by assumption) | exact List.forall_mem_nil _ | (refine cons_ne ?_ ?_; (focus (first | assumption | (refine ltN ?_; omega) | exact And.left (by assumption))); (first | assumption | exact lt_ne (by assumption) | exact List.forall_mem_nil _ | (refine cons_ne ?_ ?_; (focus (first | assumption | (refine ltN ?_; omega) | exact And.left (by assumption))); (first | assumption | exact lt_ne (by assumption) | exact List.forall_mem_nil _ | (refine cons_ne ?_ ?_; (focus (first | assumption | (refine ltN ?_; omega) | exact And.left (by assumption))); (first | assumption | exact lt_ne (by assumption) | exact List.forall_mem_nil _ | (refine cons_ne ?_ ?_; (focus (first | assumption | (refine ltN ?_; omega) | exact And.left (by assumption))); (first | assumption | exact lt_ne (by assumption) | exact List.forall_mem_nil _ | (refine cons_ne ?_ ?_; (focus (first | assumption | (refine ltN ?_; omega) | exact And.left (by assumption))); (fail)))))))))))))))))))); (((case k1 => k_asm); (case k2 => k_asm); (case k3 => k_asm); (case k5 => k_asm); (case kK => first | exact rfl | assumption); (case kd => ktr_room); (case ku => ktr_units); k_whole)))); (intro _ _ _ _ R9 _ _); (obtain ⟨_, _, _, _, _, _, _, e9, _, _, _, _, e8⟩ := R9); subst e9 e8; (try dsimp only); (try k_fold))) | ((k_here; (with_reducible show wpAny _ _ (subscriptTail _ _ (Value.ref _) (Value.int _ _)) _ _ _); (k_dflt (refine' item_l ?q1 ?q2 ?q3 ?q4 ?q5 ?q6 ?_; (case q1 => k_asm); (case q2 => k_mem); (case q3 => assumption); (case q4 => assumption); (case q5 => assumption); (case q6 => omega))); intro _)) | walk1 | (dsimp only; walk1) | (leave1; (try dsimp only)))))
    rename_i at9 ta9 _ _ _ _ _ a0 a1 _ _ _ _ _ _ way tw _ _ _ _ _ w0 w1 _ _ _ _ D _ lD _ _ _ _ l' _ lm _ _ odd todd x9 y9 tx9 ty9 m9 l9 yl9 yg9 _ _ _
    obtain ⟨o, ho⟩ : ∃ o, os[at9.toNat]? = some o := ⟨_, List.getElem?_eq_getElem (by omega)⟩
    have hw : way = 0 ∨ way = 1 ∨ way = 2 := by omega
    rcases hw with rfl | rfl | rfl
    · walk1
      (repeat' (first | (k_unfold; (try dsimp only)) | ((fail_if_success (with_reducible show wpAny _ _ (pyIter _) _ _ _)); (fail_if_success (with_reducible show InvEndN _ _ _ _ _ _ _)); (fail_if_success (with_reducible show wpAny _ _ (exec (Stmt.Return (some (Expr.BinOp _ _ _ _)) _) _) _ _ _)); (fail_if_success (with_reducible show wpAny _ _ (exec (Stmt.For (Expr.Tuple _ _ _) _ _ _ _) _) _ _ _)); (fail_if_success (with_reducible show KswEnd _ _ _ _ _ _ _ _ _ _ _ _)); (fail_if_success (with_reducible show wpAny _ _ (exec (Stmt.While _ _ _ _) _) _ _ _)); first | ((k_here; (with_reducible show wpAny _ _ (call (Value.ref 77) [Value.ref _, Value.ref _]) _ _ _); (k_dflt (refine' Cl.use (oneC _ _ _ _ _ _ _ _ _ _ _ _ _ _ _ _ _ _ _ _ _ _ _ _ ?p3 ?p4 ?p5) ?k1 ?k2 ?k3 ?k4 ?k5 ?kK ?kd ?ku ?_; (case k4 => first | k_asm | exact news_swap (by k_asm) | exact news_rot (by k_asm)); (case p3 => assumption); (case p4 => assumption); (case p5 => (first | assumption | exact lt_ne (by assumption) | exact List.forall_mem_nil _ | (refine cons_ne ?_ ?_; (focus (first | assumption | (refine ltN ?_; omega) | exact And.left (by assumption))); (first | assumption | exact lt_ne (by assumption) | exact List.forall_mem_nil _ | (refine cons_ne ?_ ?_; (focus (first | assumption | (refine ltN ?_; omega) | exact And.left (by assumption))); (first | assumption | exact lt_ne (by assumption) | exact List.forall_mem_nil _ | (refine cons_ne ?_ ?_; (focus (first | assumption | (refine ltN ?_; omega) | exact And.left (by assumption))); (first | assumption | exact lt_ne (by assumption) | exact List.forall_mem_nil _ | (refine cons_ne ?_ ?_; (focus (first | assumption | (refine ltN ?_; omega) | exact And.left (by assumption))); (first | assumption | exact lt_ne (by assumption) | exact List.forall_mem_nil _ | (refine cons_ne ?_ ?_; (focus (first | assumption | (refine ltN ?_; omega) | exact And.left (by assumption))); (first | assumption | exact lt_ne (by assumption) | exact List.forall_mem_nil _ | (refine cons_ne ?_ ?_; (focus (first | assumption | (refine ltN ?_; omega) | exact And.left (by assumption))); (first | assumption | exact lt_ne (by assumption) | exact List.forall_mem_nil _ | (refine cons_ne ?_ ?_; (focus (first | assumption | (refine ltN ?_; omega) | exact And.left (by assumption))); (first | assumption | exact lt_ne (by assumption) | exact List.forall_mem_nil _ | (refine cons_ne ?_ ?_; (focus (first | assumption | (refine ltN ?_; omega) | exact And.left (by assumption))); (first | assumption | exact lt_ne (by assumption) | exact List.forall_mem_nil _ | (refine cons_ne ?_ ?_; (focus (first | assumption | (refine ltN ?_; omega) | exact And.left (by assumption))); (fail)))))))))))))))))))); (((case k1 => k_asm); (case k2 => k_asm); (case k3 => k_asm); (case k5 => k_asm); (case kK => first | exact rfl | assumption); (case kd => ktr_room); (case ku => ktr_units); k_whole)))); (intro _ _ _ _ R9 _ _); (obtain ⟨_, _, _, _, _, _, _, e9, _, _, _, e8⟩ := R9); subst e9 e8; (try dsimp only); (try k_fold))) | ((k_here; (with_reducible show wpAny _ _ (call (Value.ref 77) [Value.ref _, Value.ref _]) _ _ _); (k_dflt (refine' Cl.use (oneB _ _ _ _ _ _ _ _ _ _ _ _ _ _ ?p3 ?p4 ?p5) ?k1 ?k2 ?k3 ?k4 ?k5 ?kK ?kd ?ku ?_; (case k4 => first | k_asm | exact news_swap (by k_asm) | exact news_rot (by k_asm)); (case p3 => assumption); (case p4 => assumption); (case p5 => (first | assumption | exact lt_ne (by assumption) | exact List.forall_mem_nil _ | (refine cons_ne ?_ ?_; (focus (first | assumption | (refine ltN ?_; omega) | exact And.left (by assumption))); (first | assumption | exact lt_ne (by assumption) | exact List.forall_mem_nil _ | (refine cons_ne ?_ ?_; (focus (first | assumption | (refine ltN ?_; omega) | exact And.left (by assumption))); (first | assumption | exact lt_ne (by assumption) | exact List.forall_mem_nil _ | (refine cons_ne ?_ ?_; (focus (first | assumption | (refine ltN ?_; omega) | exact And.left (by assumption))); (first | assumption | exact lt_ne (by assumption) | exact List.forall_mem_nil _ | (refine cons_ne ?_ ?_; (focus (first | assumption | (refine ltN ?_; omega) | exact And.left (by assumption))); (first | assumption | exact lt_ne (by assumption) | exact List.forall_mem_nil _ | (refine cons_ne ?_ ?_; (focus (first | assumption | (refine ltN ?_; omega) | exact And.left (by assumption))); (first | assumption | exact lt_ne (by assumption) | exact List.forall_mem_nil _ | (refine cons_ne ?_ ?_; (focus (first | assumption | (refine ltN ?_; omega) | exact And.left (by assumption))); (first | assumption | exact lt_ne (by assumption) | exact List.forall_mem_nil _ | (refine cons_ne ?_ ?_; (focus (first | assumption | (refine ltN ?_; omega) | exact And.left (by assumption))); (first | assumption | exact lt_ne (by assumption) | exact List.forall_mem_nil _ | (refine cons_ne ?_ ?_; (focus (first | assumption | (refine ltN ?_; omega) | exact And.left (by assumption))); (first | assumption | exact lt_ne (by assumption) | exact List.forall_mem_nil _ | (refine cons_ne ?_ ?_; (focus (first | assumption | (refine ltN ?_; omega) | exact And.left (by assumption))); (fail)))))))))))))))))))); (((case k1 => k_asm); (case k2 => k_asm); (case k3 => k_asm); (case k5 => k_asm); (case kK => first | exact rfl | assumption); (case kd => ktr_room); (case ku => ktr_units); k_whole)))); (intro _ _ _ _ R9 _ _); (obtain ⟨_, _, _, _, _, _, _, e9, _, _, _, e8⟩ := R9); subst e9 e8; (try dsimp only); (try k_fold))) | ((k_here; (with_reducible show wpAny _ _ (call (Value.ref 70) [Value.ref _, Value.int _ _]) _ _ _); (k_dflt (refine' Cl.use (take_cl _ _ _ _ _ _ _ _ _ _ ?p0 ?p1 ?p2 ?p3 ?p4) ?k1 ?k2 ?k3 ?k4 ?k5 ?kK ?kd ?ku ?_; (case k4 => first | k_asm | exact news_swap (by k_asm) | exact news_rot (by k_asm)); (case p0 => first | decide | omega); (case p1 => first | decide | omega); (case p2 => assumption); (case p3 => assumption); (case p4 => (first | assumption | exact lt_ne (by assumption) | exact List.forall_mem_nil _ | (refine cons_ne ?_ ?_; (focus (first | assumption | (refine ltN ?_; omega) | exact And.left (by assumption))); (first | assumption | exact lt_ne (by assumption) | exact List.forall_mem_nil _ | (refine cons_ne ?_ ?_; (focus (first | assumption | (refine ltN ?_; omega) | exact And.left (by assumption))); (first | assumption | exact lt_ne (by assumption) | exact List.forall_mem_nil _ | (refine cons_ne ?_ ?_; (focus (first | assumption | (refine ltN ?_; omega) | exact And.left (by assumption))); (first | assumption | exact lt_ne (by assumption) | exact List.forall_mem_nil _ | (refine cons_ne ?_ ?_; (focus (first | assumption | (refine ltN ?_; omega) | exact And.left (by assumption))); (first | assumption | exact lt_ne (by assumption) | exact List.forall_mem_nil _ | (refine cons_ne ?_ ?_; (focus (first | assumption | (refine ltN ?_; omega) | exact And.left (by assumption))); (first | assumption | exact lt_ne (by assumption) | exact List.forall_mem_nil _ | (refine cons_ne ?_ ?_; (focus (first | assumption | (refine ltN ?_; omega) | exact And.left (by assumption))); (first | assumption | exact lt_ne (by assumption) | exact List.forall_mem_nil _ | (refine cons_ne ?_ ?_; (focus (first | assumption | (refine ltN ?_; omega) | exact And.left (by assumption))); (first | assumption | exact lt_ne (by assumption) | exact List.forall_mem_nil _ | (refine cons_ne ?_ ?_; (focus (first | assumption | (refine ltN ?_; omega) | exact And.left (by assumption))); (first | assumption | exact lt_ne (by assumption) | exact List.forall_mem_nil _ | (refine cons_ne ?_ ?_; (focus (first | assumption | (refine ltN ?_; omega) | exact And.left (by assumption))); (fail)))))))))))))))))))); (((case k1 => k_asm); (case k2 => k_asm); (case k3 => k_asm); (case k5 => k_asm); (case kK => first | exact rfl | assumption); (case kd => ktr_room); (case ku => ktr_units); k_whole)))); (intro _ _ _ _ R9 _ _); (obtain ⟨_, _, _, _, _, _, _, e9, _, _, _, _, e8⟩ := R9); subst e9 e8; (try dsimp only); (try k_fold))) | ((k_here; (with_reducible show wpAny _ _ (subscriptTail _ _ (Value.ref _) (Value.int _ _)) _ _ _); (k_dflt (refine' item_l ?q1 ?q2 ?q3 ?q4 ?q5 ?q6 ?_; (case q1 => k_asm); (case q2 => k_mem); (case q3 => assumption); (case q4 => assumption); (case q5 => assumption); (case q6 => omega))); intro _)) | walk1 | (dsimp only; walk1) | (leave1; (try dsimp only)))))
      rename_i D1 ws1 _ _ _ hI l1 _ kN _ _
      refine hret _ _ _ _ ⟨D1, ws1, _, 0, x9, y9, tx9, ty9, m9, rfl, hI, ?_, ?_, yl9, yg9, rfl, by (refine ltN ?_; omega), by (refine ltN ?_; omega), kst_ltOf (by (iterate 16 (try (have l1 := And.right l1))); exact l1)⟩ (by k_asm) (news_of kN (by first | kst_in | kst_inAny))
      · simp only [List.length_append, List.length_cons, List.length_nil, List.length_take, List.length_drop]; omega
      · intro z hz
        simp only [List.mem_append, List.mem_cons, List.not_mem_nil, or_false] at hz
        rcases hz with (hz | hz) | hz
        · exact hr z (List.mem_of_mem_take hz)
        · subst hz; exact menuC_in l9
        · exact hr z (List.mem_of_mem_drop hz)
    · walk1
      (repeat' (first | (k_unfold; (try dsimp only)) | ((fail_if_success (with_reducible show wpAny _ _ (pyIter _) _ _ _)); (fail_if_success (with_reducible show InvEndN _ _ _ _ _ _ _)); (fail_if_success (with_reducible show wpAny _ _ (exec (Stmt.Return (some (Expr.BinOp _ _ _ _)) _) _) _ _ _)); (fail_if_success (with_reducible show wpAny _ _ (exec (Stmt.For (Expr.Tuple _ _ _) _ _ _ _) _) _ _ _)); (fail_if_success (with_reducible show KswEnd _ _ _ _ _ _ _ _ _ _ _ _)); (fail_if_success (with_reducible show wpAny _ _ (exec (Stmt.While _ _ _ _) _) _ _ _)); first | ((k_here; (with_reducible show wpAny _ _ (call (Value.ref 77) [Value.ref _, Value.ref _]) _ _ _); (k_dflt (refine' Cl.use (oneC _ _ _ _ _ _ _ _ _ _ _ _ _ _ _ _ _ _ _ _ _ _ _ _ ?p3 ?p4 ?p5) ?k1 ?k2 ?k3 ?k4 ?k5 ?kK ?kd ?ku ?_; (case k4 => first | k_asm | exact news_swap (by k_asm) | exact news_rot (by k_asm)); (case p3 => assumption); (case p4 => assumption); (case p5 => (first | assumption | exact lt_ne (by assumption) | exact List.forall_mem_nil _ | (refine cons_ne ?_ ?_; (focus (first | assumption | (refine ltN ?_; omega) | exact And.left (by assumption))); (first | assumption | exact lt_ne (by assumption) | exact List.forall_mem_nil _ | (refine cons_ne ?_ ?_; (focus (first | assumption | (refine ltN ?_; omega) | exact And.left (by assumption))); (first | assumption | exact lt_ne (by assumption) | exact List.forall_mem_nil _ | (refine cons_ne ?_ ?_; (focus (first | assumption | (refine ltN ?_; omega) | exact And.left (by assumption))); (first | assumption | exact lt_ne (by assumption) | exact List.forall_mem_nil _ | (refine cons_ne ?_ ?_; (focus (first | assumption | (refine ltN ?_; omega) | exact And.left (by assumption))); (first | assumption | exact lt_ne (by assumption) | exact List.forall_mem_nil _ | (refine cons_ne ?_ ?_; (focus (first | assumption | (refine ltN ?_; omega) | exact And.left (by assumption))); (first | assumption | exact lt_ne (by assumption) | exact List.forall_mem_nil _ | (refine cons_ne ?_ ?_; (focus (first | assumption | (refine ltN ?_; omega) | exact And.left (by assumption))); (first | assumption | exact lt_ne (by assumption) | exact List.forall_mem_nil _ | (refine cons_ne ?_ ?_; (focus (first | assumption | (refine ltN ?_; omega) | exact And.left (by assumption))); (first | assumption | exact lt_ne (by assumption) | exact List.forall_mem_nil _ | (refine cons_ne ?_ ?_; (focus (first | assumption | (refine ltN ?_; omega) | exact And.left (by assumption))); (first | assumption | exact lt_ne (by assumption) | exact List.forall_mem_nil _ | (refine cons_ne ?_ ?_; (focus (first | assumption | (refine ltN ?_; omega) | exact And.left (by assumption))); (fail)))))))))))))))))))); (((case k1 => k_asm); (case k2 => k_asm); (case k3 => k_asm); (case k5 => k_asm); (case kK => first | exact rfl | assumption); (case kd => ktr_room); (case ku => ktr_units); k_whole)))); (intro _ _ _ _ R9 _ _); (obtain ⟨_, _, _, _, _, _, _, e9, _, _, _, e8⟩ := R9); subst e9 e8; (try dsimp only); (try k_fold))) | ((k_here; (with_reducible show wpAny _ _ (call (Value.ref 77) [Value.ref _, Value.ref _]) _ _ _); (k_dflt (refine' Cl.use (oneB _ _ _ _ _ _ _ _ _ _ _ _ _ _ ?p3 ?p4 ?p5) ?k1 ?k2 ?k3 ?k4 ?k5 ?kK ?kd ?ku ?_; (case k4 => first | k_asm | exact news_swap (by k_asm) | exact news_rot (by k_asm)); (case p3 => assumption); (case p4 => assumption); (case p5 => (first | assumption | exact lt_ne (by assumption) | exact List.forall_mem_nil _ | (refine cons_ne ?_ ?_; (focus (first | assumption | (refine ltN ?_; omega) | exact And.left (by assumption))); (first | assumption | exact lt_ne (by assumption) | exact List.forall_mem_nil _ | (refine cons_ne ?_ ?_; (focus (first | assumption | (refine ltN ?_; omega) | exact And.left (by assumption))); (first | assumption | exact lt_ne (by assumption) | exact List.forall_mem_nil _ | (refine cons_ne ?_ ?_; (focus (first | assumption | (refine ltN ?_; omega) | exact And.left (by assumption))); (first | assumption | exact lt_ne (by assumption) | exact List.forall_mem_nil _ | (refine cons_ne ?_ ?_; (focus (first | assumption | (refine ltN ?_; omega) | exact And.left (by assumption))); (first | assumption | exact lt_ne (by assumption) | exact List.forall_mem_nil _ | (refine cons_ne ?_ ?_; (focus (first | assumption | (refine ltN ?_; omega) | exact And.left (by assumption))); (first | assumption | exact lt_ne (by assumption) | exact List.forall_mem_nil _ | (refine cons_ne ?_ ?_; (focus (first | assumption | (refine ltN ?_; omega) | exact And.left (by assumption))); (first | assumption | exact lt_ne (by assumption) | exact List.forall_mem_nil _ | (refine cons_ne ?_ ?_; (focus (first | assumption | (refine ltN ?_; omega) | exact And.left (by assumption))); (first | assumption | exact lt_ne (by assumption) | exact List.forall_mem_nil _ | (refine cons_ne ?_ ?_; (focus (first | assumption | (refine ltN ?_; omega) | exact And.left (by assumption))); (first | assumption | exact lt_ne (by assumption) | exact List.forall_mem_nil _ | (refine cons_ne ?_ ?_; (focus (first | assumption | (refine ltN ?_; omega) | exact And.left (by assumption))); (fail)))))))))))))))))))); (((case k1 => k_asm); (case k2 => k_asm); (case k3 => k_asm); (case k5 => k_asm); (case kK => first | exact rfl | assumption); (case kd => ktr_room); (case ku => ktr_units); k_whole)))); (intro _ _ _ _ R9 _ _); (obtain ⟨_, _, _, _, _, _, _, e9, _, _, _, e8⟩ := R9); subst e9 e8; (try dsimp only); (try k_fold))) | ((k_here; (with_reducible show wpAny _ _ (call (Value.ref 70) [Value.ref _, Value.int _ _]) _ _ _); (k_dflt (refine' Cl.use (take_cl _ _ _ _ _ _ _ _ _ _ ?p0 ?p1 ?p2 ?p3 ?p4) ?k1 ?k2 ?k3 ?k4 ?k5 ?kK ?kd ?ku ?_; (case k4 => first | k_asm | exact news_swap (by k_asm) | exact news_rot (by k_asm)); (case p0 => first | decide | omega); (case p1 => first | decide | omega); (case p2 => assumption); (case p3 => assumption); (case p4 => (first | assumption | exact lt_ne (by assumption) | exact List.forall_mem_nil _ | (refine cons_ne ?_ ?_; (focus (first | assumption | (refine ltN ?_; omega) | exact And.left (by assumption))); (first | assumption | exact lt_ne (by assumption) | exact List.forall_mem_nil _ | (refine cons_ne ?_ ?_; (focus (first | assumption | (refine ltN ?_; omega) | exact And.left (by assumption))); (first | assumption | exact lt_ne (by assumption) | exact List.forall_mem_nil _ | (refine cons_ne ?_ ?_; (focus (first | assumption | (refine ltN ?_; omega) | exact And.left (by assumption))); (first | assumption | exact lt_ne (by assumption) | exact List.forall_mem_nil _ | (refine cons_ne ?_ ?_; (focus (first | assumption | (refine ltN ?_; omega) | exact And.left (by assumption))); (first | assumption | exact lt_ne (by assumption) | exact List.forall_mem_nil _ | (refine cons_ne ?_ ?_; (focus (first | assumption | (refine ltN ?_; omega) | exact And.left (by assumption))); (first | assumption | exact lt_ne (by assumption) | exact List.forall_mem_nil _ | (refine cons_ne ?_ ?_; (focus (first | assumption | (refine ltN ?_; omega) | exact And.left (by assumption))); (first | assumption | exact lt_ne (by assumption) | exact List.forall_mem_nil _ | (refine cons_ne ?_ ?_; (focus (first | assumption | (refine ltN ?_; omega) | exact And.left (by assumption))); (first | assumption | exact lt_ne (by assumption) | exact List.forall_mem_nil _ | (refine cons_ne ?_ ?_; (focus (first | assumption | (refine ltN ?_; omega) | exact And.left (by assumption))); (first | assumption | exact lt_ne (by assumption) | exact List.forall_mem_nil _ | (refine cons_ne ?_ ?_; (focus (first | assumption | (refine ltN ?_; omega) | exact And.left (by assumption))); (fail)))))))))))))))))))); (((case k1 => k_asm); (case k2 => k_asm); (case k3 => k_asm); (case k5 => k_asm); (case kK => first | exact rfl | assumption); (case kd => ktr_room); (case ku => ktr_units); k_whole)))); (intro _ _ _ _ R9 _ _); (obtain ⟨_, _, _, _, _, _, _, e9, _, _, _, _, e8⟩ := R9); subst e9 e8; (try dsimp only); (try k_fold))) | ((k_here; (with_reducible show wpAny _ _ (subscriptTail _ _ (Value.ref _) (Value.int _ _)) _ _ _); (k_dflt (refine' item_l ?q1 ?q2 ?q3 ?q4 ?q5 ?q6 ?_; (case q1 => k_asm); (case q2 => k_mem); (case q3 => assumption); (case q4 => assumption); (case q5 => assumption); (case q6 => omega))); intro _)) | walk1 | (dsimp only; walk1) | (leave1; (try dsimp only)))))
      rename_i D1 ws1 _ _ _ hI l1 _ kN _ _
      refine hret _ _ _ _ ⟨D1, ws1, _, 0, x9, y9, tx9, ty9, m9, rfl, hI, ?_, ?_, yl9, yg9, rfl, by (refine ltN ?_; omega), by (refine ltN ?_; omega), kst_ltOf (by (iterate 16 (try (have l1 := And.right l1))); exact l1)⟩ (by k_asm) (news_of kN (by first | kst_in | kst_inAny))
      · simp only [List.length_append, List.length_cons, List.length_nil, List.length_take, List.length_drop]; omega
      · intro z hz
        simp only [List.mem_append, List.mem_cons, List.not_mem_nil, or_false] at hz
        rcases hz with hz | hz
        · exact hr z (List.mem_of_mem_take hz)
        · exact hr z (List.mem_of_mem_drop hz)
    · walk1
      (repeat' (first | (k_unfold; (try dsimp only)) | ((fail_if_success (with_reducible show wpAny _ _ (pyIter _) _ _ _)); (fail_if_success (with_reducible show InvEndN _ _ _ _ _ _ _)); (fail_if_success (with_reducible show wpAny _ _ (exec (Stmt.Return (some (Expr.BinOp _ _ _ _)) _) _) _ _ _)); (fail_if_success (with_reducible show wpAny _ _ (exec (Stmt.For (Expr.Tuple _ _ _) _ _ _ _) _) _ _ _)); (fail_if_success (with_reducible show KswEnd _ _ _ _ _ _ _ _ _ _ _ _)); (fail_if_success (with_reducible show wpAny _ _ (exec (Stmt.While _ _ _ _) _) _ _ _)); first | ((k_here; (with_reducible show wpAny _ _ (call (Value.ref 77) [Value.ref _, Value.ref _]) _ _ _); (k_dflt (refine' Cl.use (oneC _ _ _ _ _ _ _ _ _ _ _ _ _ _ _ _ _ _ _ _ _ _ _ _ ?p3 ?p4 ?p5) ?k1 ?k2 ?k3 ?k4 ?k5 ?kK ?kd ?ku ?_; (case k4 => first | k_asm | exact news_swap (by k_asm) | exact news_rot (by k_asm)); (case p3 => assumption); (case p4 => assumption); (case p5 => (first | assumption | exact lt_ne (by assumption) | exact List.forall_mem_nil _ | (refine cons_ne ?_ ?_; (focus (first | assumption | (refine ltN ?_; omega) | exact And.left (by assumption))); (first | assumption | exact lt_ne (by assumption) | exact List.forall_mem_nil _ | (refine cons_ne ?_ ?_; (focus (first | assumption | (refine ltN ?_; omega) | exact And.left (by assumption))); (first | assumption | exact lt_ne (by assumption) | exact List.forall_mem_nil _ | (refine cons_ne ?_ ?_; (focus (first | assumption | (refine ltN ?_; omega) | exact And.left (by assumption))); (first | assumption | exact lt_ne (by assumption) | exact List.forall_mem_nil _ | (refine cons_ne ?_ ?_; (focus (first | assumption | (refine ltN ?_; omega) | exact And.left (by assumption))); (first | assumption | exact lt_ne (by assumption) | exact List.forall_mem_nil _ | (refine cons_ne ?_ ?_; (focus (first | assumption | (refine ltN ?_; omega) | exact And.left (by assumption))); (first | assumption | exact lt_ne (by assumption) | exact List.forall_mem_nil _ | (refine cons_ne ?_ ?_; (focus (first | assumption | (refine ltN ?_; omega) | exact And.left (by assumption))); (first | assumption | exact lt_ne (by assumption) | exact List.forall_mem_nil _ | (refine cons_ne ?_ ?_; (focus (first | assumption | (refine ltN ?_; omega) | exact And.left (by assumption))); (first | assumption | exact lt_ne (by assumption) | exact List.forall_mem_nil _ | (refine cons_ne ?_ ?_; (focus (first | assumption | (refine ltN ?_; omega) | exact And.left (by assumption))); (first | assumption | exact lt_ne (by assumption) | exact List.forall_mem_nil _ | (refine cons_ne ?_ ?_; (focus (first | assumption | (refine ltN ?_; omega) | exact And.left (by assumption))); (fail)))))))))))))))))))); (((case k1 => k_asm); (case k2 => k_asm); (case k3 => k_asm); (case k5 => k_asm); (case kK => first | exact rfl | assumption); (case kd => ktr_room); (case ku => ktr_units); k_whole)))); (intro _ _ _ _ R9 _ _); (obtain ⟨_, _, _, _, _, _, _, e9, _, _, _, e8⟩ := R9); subst e9 e8; (try dsimp only); (try k_fold))) | ((k_here; (with_reducible show wpAny _ _ (call (Value.ref 77) [Value.ref _, Value.ref _]) _ _ _); (k_dflt (refine' Cl.use (oneB _ _ _ _ _ _ _ _ _ _ _ _ _ _ ?p3 ?p4 ?p5) ?k1 ?k2 ?k3 ?k4 ?k5 ?kK ?kd ?ku ?_; (case k4 => first | k_asm | exact news_swap (by k_asm) | exact news_rot (by k_asm)); (case p3 => assumption); (case p4 => assumption); (case p5 => (first | assumption | exact lt_ne (by assumption) | exact List.forall_mem_nil _ | (refine cons_ne ?_ ?_; (focus (first | assumption | (refine ltN ?_; omega) | exact And.left (by assumption))); (first | assumption | exact lt_ne (by assumption) | exact List.forall_mem_nil _ | (refine cons_ne ?_ ?_; (focus (first | assumption | (refine ltN ?_; omega) | exact And.left (by assumption))); (first | assumption | exact lt_ne (by assumption) | exact List.forall_mem_nil _ | (refine cons_ne ?_ ?_; (focus (first | assumption | (refine ltN ?_; omega) | exact And.left (by assumption))); (first | assumption | exact lt_ne (by assumption) | exact List.forall_mem_nil _ | (refine cons_ne ?_ ?_; (focus (first | assumption | (refine ltN ?_; omega) | exact And.left (by assumption))); (first | assumption | exact lt_ne (by assumption) | exact List.forall_mem_nil _ | (refine cons_ne ?_ ?_; (focus (first | assumption | (refine ltN ?_; omega) | exact And.left (by assumption))); (first | assumption | exact lt_ne (by assumption) | exact List.forall_mem_nil _ | (refine cons_ne ?_ ?_; (focus (first | assumption | (refine ltN ?_; omega) | exact And.left (by assumption))); (first | assumption | exact lt_ne (by assumption) | exact List.forall_mem_nil _ | (refine cons_ne ?_ ?_; (focus (first | assumption | (refine ltN ?_; omega) | exact And.left (by assumption))); (first | assumption | exact lt_ne (by assumption) | exact List.forall_mem_nil _ | (refine cons_ne ?_ ?_; (focus (first | assumption | (refine ltN ?_; omega) | exact And.left (by assumption))); (first | assumption | exact lt_ne (by assumption) | exact List.forall_mem_nil _ | (refine cons_ne ?_ ?_; (focus (first | assumption | (refine ltN ?_; omega) | exact And.left (by assumption))); (fail)))))))))))))))))))); (((case k1 => k_asm); (case k2 => k_asm); (case k3 => k_asm); (case k5 => k_asm); (case kK => first | exact rfl | assumption); (case kd => ktr_room); (case ku => ktr_units); k_whole)))); (intro _ _ _ _ R9 _ _); (obtain ⟨_, _, _, _, _, _, _, e9, _, _, _, e8⟩ := R9); subst e9 e8; (try dsimp only); (try k_fold))) | ((k_here; (with_reducible show wpAny _ _ (call (Value.ref 70) [Value.ref _, Value.int _ _]) _ _ _); (k_dflt (refine' Cl.use (take_cl _ _ _ _ _ _ _ _ _ _ ?p0 ?p1 ?p2 ?p3 ?p4) ?k1 ?k2 ?k3 ?k4 ?k5 ?kK ?kd ?ku ?_; (case k4 => first | k_asm | exact news_swap (by k_asm) | exact news_rot (by k_asm)); (case p0 => first | decide | omega); (case p1 => first | decide | omega); (case p2 => assumption); (case p3 => assumption); (case p4 => (first | assumption | exact lt_ne (by assumption) | exact List.forall_mem_nil _ | (refine cons_ne ?_ ?_; (focus (first | assumption | (refine ltN ?_; omega) | exact And.left (by assumption))); (first | assumption | exact lt_ne (by assumption) | exact List.forall_mem_nil _ | (refine cons_ne ?_ ?_; (focus (first | assumption | (refine ltN ?_; omega) | exact And.left (by assumption))); (first | assumption | exact lt_ne (by assumption) | exact List.forall_mem_nil _ | (refine cons_ne ?_ ?_; (focus (first | assumption | (refine ltN ?_; omega) | exact And.left (by assumption))); (first | assumption | exact lt_ne (by assumption) | exact List.forall_mem_nil _ | (refine cons_ne ?_ ?_; (focus (first | assumption | (refine ltN ?_; omega) | exact And.left (by assumption))); (first | assumption | exact lt_ne (by assumption) | exact List.forall_mem_nil _ | (refine cons_ne ?_ ?_; (focus (first | assumption | (refine ltN ?_; omega) | exact And.left (by assumption))); (first | assumption | exact lt_ne (by assumption) | exact List.forall_mem_nil _ | (refine cons_ne ?_ ?_; (focus (first | assumption | (refine ltN ?_; omega) | exact And.left (by assumption))); (first | assumption | exact lt_ne (by assumption) | exact List.forall_mem_nil _ | (refine cons_ne ?_ ?_; (focus (first | assumption | (refine ltN ?_; omega) | exact And.left (by assumption))); (first | assumption | exact lt_ne (by assumption) | exact List.forall_mem_nil _ | (refine cons_ne ?_ ?_; (focus (first | assumption | (refine ltN ?_; omega) | exact And.left (by assumption))); (first | assumption | exact lt_ne (by assumption) | exact List.forall_mem_nil _ | (refine cons_ne ?_ ?_; (focus (first | assumption | (refine ltN ?_; omega) | exact And.left (by assumption))); (fail)))))))))))))))))))); (((case k1 => k_asm); (case k2 => k_asm); (case k3 => k_asm); (case k5 => k_asm); (case kK => first | exact rfl | assumption); (case kd => ktr_room); (case ku => ktr_units); k_whole)))); (intro _ _ _ _ R9 _ _); (obtain ⟨_, _, _, _, _, _, _, e9, _, _, _, _, e8⟩ := R9); subst e9 e8; (try dsimp only); (try k_fold))) | ((k_here; (with_reducible show wpAny _ _ (subscriptTail _ _ (Value.ref _) (Value.int _ _)) _ _ _); (k_dflt (refine' item_l ?q1 ?q2 ?q3 ?q4 ?q5 ?q6 ?_; (case q1 => k_asm); (case q2 => k_mem); (case q3 => assumption); (case q4 => assumption); (case q5 => assumption); (case q6 => omega))); intro _)) | walk1 | (dsimp only; walk1) | (leave1; (try dsimp only)))))
      rename_i D1 ws1 _ _ _ hI l1 _ kN _ _
      refine hret _ _ _ _ ⟨D1, ws1, _, 0, x9, y9, tx9, ty9, m9, rfl, hI, ?_, ?_, yl9, yg9, rfl, by (refine ltN ?_; omega), by (refine ltN ?_; omega), kst_ltOf (by (iterate 16 (try (have l1 := And.right l1))); exact l1)⟩ (by k_asm) (news_of kN (by first | kst_in | kst_inAny))
      · simp only [List.length_append, List.length_cons, List.length_nil, List.length_take, List.length_drop]; omega
      · intro z hz
        simp only [List.mem_append, List.mem_cons, List.not_mem_nil, or_false] at hz
        rcases hz with (hz | hz) | hz
        · exact hr z (List.mem_of_mem_take hz)
        · rcases hz with rfl | rfl
          · exact menuC_in l9
          · exact hr z (List.mem_of_getElem? ho)
        · exact hr z (List.mem_of_mem_drop hz)
end Mine
end
section
open PySem PySem.W PyProof.Rows
namespace Mine
theorem oct_cl (w : World) (c : Int) (t : Tok) (news : Led) (h0 : 0 ≤ c) (h1 : c ≤ 1114111) :
   Cl w 91 4 100 [.int c t] news (fun v news' => ∃ ad vs n, v = .ref ad ∧ IntsAre vs (encF c) ∧ news' = (ad, W.listOf vs.toArray n) :: news ∧ ∀ p ∈ news, p.1 < ad) := by
  unfold Cl; k_fill
  intro loose mean mg mb dp un gd cn cs a ccd cl outer A₀ base h₀ L m s Q E B F X N T hk hd hu hret
  refine wpAny_call ?_
  k_dflt (refine' code_def (binds := [(Str.ofString "code", Value.int c t)]) ?k1 ?k2 ?k3 ?k4 ?k5 ?kA ?kF ?kK ?k6 ?k7 ?k8 ?k9 ?kB ?_ ?c2 ?c3 ?c4 ?c5; (((case kA => exact rfl); (case kF => exact rfl); (case kK => assumption); (case k1 => k_asm); (case k2 => k_asm); (case k3 => k_asm); (case k4 => k_asm); (case k5 => k_asm); (case k6 => k_is); (case k7 => k_is); (case k8 => ktr_room); (case k9 => exact BindsTo.of_eq rfl); (case c5 => decide); (case kB => exact locs rfl); (case c2 => exact rfl); (case c3 => exact rfl); (case c4 => exact rfl); k_whole; intro g' L' h' FG' F' N' B' X' T'; (try dsimp only); (try k_lift B'); (try dsimp only [List.length_cons, List.length_nil, List.reverse_cons, List.reverse_nil, List.nil_append, List.cons_append] at F' ⊢); (try k_fold))))
  by_cases hc : c < 128
  · (repeat' (first | (k_unfold; (try dsimp only)) | ((fail_if_success (with_reducible show wpAny _ _ (pyIter _) _ _ _)); (fail_if_success (with_reducible show InvEndN _ _ _ _ _ _ _)); (fail_if_success (with_reducible show KswEnd _ _ _ _ _ _ _ _ _ _ _ _)); (fail_if_success (with_reducible show wpAny _ _ (exec (Stmt.While _ _ _ _) _) _ _ _)); first | walk1 | (dsimp only; walk1) | (leave1; (try dsimp only)))))
    refine hret _ _ _ _ ⟨_, _, _, rfl, ?_, rfl, by assumption⟩ (by k_asm) (by k_asm)
    unfold encF; rw [if_pos hc]; exact .cons _ _ .nil
  · (repeat' (first | (k_unfold; (try dsimp only)) | ((fail_if_success (with_reducible show wpAny _ _ (pyIter _) _ _ _)); (fail_if_success (with_reducible show InvEndN _ _ _ _ _ _ _)); (fail_if_success (with_reducible show KswEnd _ _ _ _ _ _ _ _ _ _ _ _)); (fail_if_success (with_reducible show wpAny _ _ (exec (Stmt.While _ _ _ _) _) _ _ _)); first | walk1 | (dsimp only; walk1) | (leave1; (try dsimp only)))))
    (rename Fr _ _ _ _ => lF'); (rename News _ _ _ _ => lN'); rename_i sg _ hl1 dd _ hl2 _ _ _ _
    with_unfolding_all refine' ksw_while (σ := Addr × Int × Tok × Int × Tok × List Value × List Int × Nat) (fun c => (c.1, W.listOf c.2.2.2.2.2.1.toArray c.2.2.2.2.2.2.2) :: news) (fun c => [(Str.ofString "tail", .ref c.1), (Str.ofString "left", .int c.2.1 c.2.2.1), (Str.ofString "room", .int c.2.2.2.1 c.2.2.2.2.1)]) (fun c => IntsAre c.2.2.2.2.2.1 c.2.2.2.2.2.2.1 ∧ ∀ p ∈ news, p.1 < c.1) [] (fun s => (s.2.2.2.2.2.2.1 = [] ∧ s.2.1 = c ∧ s.2.2.2.1 = 32) ∨ (s.2.2.2.2.2.2.1 = [128 + c % 64] ∧ s.2.1 = c / 64 ∧ s.2.2.2.1 = 32) ∨ (s.2.2.2.2.2.2.1 = [128 + c / 64 % 64, 128 + c % 64] ∧ s.2.1 = c / 4096 ∧ s.2.2.2.1 = 16 ∧ 2048 ≤ c) ∨ (s.2.2.2.2.2.2.1 = [128 + c / 4096 % 64, 128 + c / 64 % 64, 128 + c % 64] ∧ s.2.1 = c / 262144 ∧ s.2.2.2.1 = 8 ∧ 65536 ≤ c)) (fun s => 4 - s.2.2.2.2.2.2.1.length) (sg, c, t, 32, _, [], [], 0) lF' (news_tail lN') ?kf ?kk ?kp ?_
    case kf => exact ⟨.nil, by assumption⟩
    case kk => kst_all
    case kp => exact .inl ⟨rfl, rfl, rfl⟩
    all_goals (try clear lF' lN')
    intro ⟨ad, left, tl, room, tr, vs, ns, nn⟩ u h tk ⟨hi, hlt⟩ hP F1 N1
    dsimp only [kstB] at F1 N1 hi hlt hP
    have kMark := kstMark
    (try k_unmd); (try k_fold)
    rcases hP with ⟨e1, e2, e3⟩ | ⟨e1, e2, e3⟩ | ⟨e1, e2, e3, e4⟩ | ⟨e1, e2, e3, e4⟩
    · subst e1 e2 e3
      cases hi
      (repeat' (first | (k_unfold; (try dsimp only)) | ((fail_if_success (with_reducible show wpAny _ _ (pyIter _) _ _ _)); (fail_if_success (with_reducible show InvEndN _ _ _ _ _ _ _)); (fail_if_success (with_reducible show KswEnd _ _ _ _ _ _ _ _ _ _ _ _)); (fail_if_success (with_reducible show wpAny _ _ (exec (Stmt.While _ _ _ _) _) _ _ _)); first | walk1 | (dsimp only; walk1) | (leave1; (try dsimp only)))))
      (rename News _ _ _ _ => nE')
      refine ksw_end (_, _, _, _, _, _, _, _) (by assumption) nE' (by first | kst_in | kst_inAny) ⟨.cons _ _ .nil, by (first | assumption | exact kst_ltOf (by assumption) | exact kst_ltOf (And.right (by assumption)) | exact kst_ltOf (And.right (And.right (by assumption))) | exact kst_ltOf (And.right (And.right (And.right (by assumption)))) | exact kst_ltOf (And.right (And.right (And.right (And.right (by assumption))))) | exact kst_ltOf (And.right (And.right (And.right (And.right (And.right (by assumption)))))))⟩ (by kst_all) (by ksw_same) ?_ ?_
      · dsimp only; refine .inr (.inl ⟨?_, ?_, rfl⟩)
        · rw [fm (by decide)]
        · rw [fd (by decide)]
      · simp
    · subst e1 e2 e3
      cases hi with | cons _ t1 hi => ?_
      cases hi
      by_cases hb : c < 2048
      · (repeat' (first | (k_unfold; (try dsimp only)) | ((fail_if_success (with_reducible show wpAny _ _ (pyIter _) _ _ _)); (fail_if_success (with_reducible show InvEndN _ _ _ _ _ _ _)); (fail_if_success (with_reducible show KswEnd _ _ _ _ _ _ _ _ _ _ _ _)); (fail_if_success (with_reducible show wpAny _ _ (exec (Stmt.While _ _ _ _) _) _ _ _)); first | walk1 | (dsimp only; walk1) | (leave1; (try dsimp only)))))
        (all_goals (try (rename (decide (_ = ([] : List Int)) = true) => hx9; exact absurd hx9 (by simp))))
        refine hret _ _ _ _ ⟨_, _, _, rfl, ?_, rfl, by (first | assumption | exact kst_ltOf (by assumption) | exact kst_ltOf (And.right (by assumption)) | exact kst_ltOf (And.right (And.right (by assumption))) | exact kst_ltOf (And.right (And.right (And.right (by assumption)))) | exact kst_ltOf (And.right (And.right (And.right (And.right (by assumption))))) | exact kst_ltOf (And.right (And.right (And.right (And.right (And.right (by assumption)))))))⟩ (by k_asm) (news_of (by k_asm) (by first | kst_in | kst_inAny))
        unfold encF; rw [if_neg hc, if_pos hb]
        exact .cons _ _ (.cons _ _ .nil)
      · (repeat' (first | (k_unfold; (try dsimp only)) | ((fail_if_success (with_reducible show wpAny _ _ (pyIter _) _ _ _)); (fail_if_success (with_reducible show InvEndN _ _ _ _ _ _ _)); (fail_if_success (with_reducible show KswEnd _ _ _ _ _ _ _ _ _ _ _ _)); (fail_if_success (with_reducible show wpAny _ _ (exec (Stmt.While _ _ _ _) _) _ _ _)); first | walk1 | (dsimp only; walk1) | (leave1; (try dsimp only)))))
        (all_goals (try (rename (decide (_ = ([] : List Int)) = true) => hx9; exact absurd hx9 (by simp))))
        (rename News _ _ _ _ => nE')
        refine ksw_end (_, _, _, _, _, _, _, _) (by assumption) nE' (by first | kst_in | kst_inAny) ⟨.cons _ _ (.cons _ _ .nil), by (first | assumption | exact kst_ltOf (by assumption) | exact kst_ltOf (And.right (by assumption)) | exact kst_ltOf (And.right (And.right (by assumption))) | exact kst_ltOf (And.right (And.right (And.right (by assumption)))) | exact kst_ltOf (And.right (And.right (And.right (And.right (by assumption))))) | exact kst_ltOf (And.right (And.right (And.right (And.right (And.right (by assumption)))))))⟩ (by kst_all) (by ksw_same) ?_ ?_
        · dsimp only; refine .inr (.inr (.inl ⟨?_, ?_, by decide, by omega⟩))
          · rw [fm (by decide)]
          · rw [fd (by decide)]; omega
        · simp
    · subst e1 e2 e3
      cases hi with | cons _ t1 hi => ?_
      cases hi with | cons _ t2 hi => ?_
      cases hi
      by_cases hb : c < 65536
      · (repeat' (first | (k_unfold; (try dsimp only)) | ((fail_if_success (with_reducible show wpAny _ _ (pyIter _) _ _ _)); (fail_if_success (with_reducible show InvEndN _ _ _ _ _ _ _)); (fail_if_success (with_reducible show KswEnd _ _ _ _ _ _ _ _ _ _ _ _)); (fail_if_success (with_reducible show wpAny _ _ (exec (Stmt.While _ _ _ _) _) _ _ _)); first | walk1 | (dsimp only; walk1) | (leave1; (try dsimp only)))))
        (all_goals (try (rename (decide (_ = ([] : List Int)) = true) => hx9; exact absurd hx9 (by simp))))
        refine hret _ _ _ _ ⟨_, _, _, rfl, ?_, rfl, by (first | assumption | exact kst_ltOf (by assumption) | exact kst_ltOf (And.right (by assumption)) | exact kst_ltOf (And.right (And.right (by assumption))) | exact kst_ltOf (And.right (And.right (And.right (by assumption)))) | exact kst_ltOf (And.right (And.right (And.right (And.right (by assumption))))) | exact kst_ltOf (And.right (And.right (And.right (And.right (And.right (by assumption)))))))⟩ (by k_asm) (news_of (by k_asm) (by first | kst_in | kst_inAny))
        unfold encF; rw [if_neg hc, if_neg (by omega), if_pos hb]
        exact .cons _ _ (.cons _ _ (.cons _ _ .nil))
      · (repeat' (first | (k_unfold; (try dsimp only)) | ((fail_if_success (with_reducible show wpAny _ _ (pyIter _) _ _ _)); (fail_if_success (with_reducible show InvEndN _ _ _ _ _ _ _)); (fail_if_success (with_reducible show KswEnd _ _ _ _ _ _ _ _ _ _ _ _)); (fail_if_success (with_reducible show wpAny _ _ (exec (Stmt.While _ _ _ _) _) _ _ _)); first | walk1 | (dsimp only; walk1) | (leave1; (try dsimp only)))))
        (all_goals (try (rename (decide (_ = ([] : List Int)) = true) => hx9; exact absurd hx9 (by simp))))
        (rename News _ _ _ _ => nE')
        refine ksw_end (_, _, _, _, _, _, _, _) (by assumption) nE' (by first | kst_in | kst_inAny) ⟨.cons _ _ (.cons _ _ (.cons _ _ .nil)), by (first | assumption | exact kst_ltOf (by assumption) | exact kst_ltOf (And.right (by assumption)) | exact kst_ltOf (And.right (And.right (by assumption))) | exact kst_ltOf (And.right (And.right (And.right (by assumption)))) | exact kst_ltOf (And.right (And.right (And.right (And.right (by assumption))))) | exact kst_ltOf (And.right (And.right (And.right (And.right (And.right (by assumption)))))))⟩ (by kst_all) (by ksw_same) ?_ ?_
        · dsimp only; refine .inr (.inr (.inr ⟨?_, ?_, by decide, by omega⟩))
          · rw [fm (by decide)]
          · rw [fd (by decide)]; omega
        · simp
    · subst e1 e2 e3
      cases hi with | cons _ t1 hi => ?_
      cases hi with | cons _ t2 hi => ?_
      cases hi with | cons _ t3 hi => ?_
      cases hi
      (repeat' (first | (k_unfold; (try dsimp only)) | ((fail_if_success (with_reducible show wpAny _ _ (pyIter _) _ _ _)); (fail_if_success (with_reducible show InvEndN _ _ _ _ _ _ _)); (fail_if_success (with_reducible show KswEnd _ _ _ _ _ _ _ _ _ _ _ _)); (fail_if_success (with_reducible show wpAny _ _ (exec (Stmt.While _ _ _ _) _) _ _ _)); first | walk1 | (dsimp only; walk1) | (leave1; (try dsimp only)))))
      (all_goals (try (rename (decide (_ = ([] : List Int)) = true) => hx9; exact absurd hx9 (by simp))))
      refine hret _ _ _ _ ⟨_, _, _, rfl, ?_, rfl, by (first | assumption | exact kst_ltOf (by assumption) | exact kst_ltOf (And.right (by assumption)) | exact kst_ltOf (And.right (And.right (by assumption))) | exact kst_ltOf (And.right (And.right (And.right (by assumption)))) | exact kst_ltOf (And.right (And.right (And.right (And.right (by assumption))))) | exact kst_ltOf (And.right (And.right (And.right (And.right (And.right (by assumption)))))))⟩ (by k_asm) (news_of (by k_asm) (by first | kst_in | kst_inAny))
      unfold encF; rw [if_neg hc, if_neg (by omega), if_neg (by omega)]
      exact .cons _ _ (.cons _ _ (.cons _ _ (.cons _ _ .nil)))
end Mine
end
section
open PySem PySem.W PyProof.Rows
namespace Mine
def figs : List Int := [48, 49, 50, 51, 52, 53, 54, 55, 56, 57, 65, 66, 67, 68, 69, 70]
def figD (k : Int) : Int := figs.getD k.toNat 0
def hexS (os : List Int) : Str := KStt.txt (os.flatMap fun o => [figD (o / 16), figD (o % 16)])
theorem hexl (l : List Int) : (l.flatMap fun o => [figD (o / 16), figD (o % 16)]).length = 2 * l.length := by
  induction l with
  | nil => rfl
  | cons a r ih => simp only [List.flatMap_cons, List.length_append, List.length_cons, List.length_nil, ih]; omega
theorem item_fig : ∀ k : Fin 16, PySem.Txt.item (Str.ofString "0123456789ABCDEF") (k.val : Int) = sgn (figD (k.val : Int)) := by decide +kernel
section
variable {prog : Program} {w : World} {A : Around} {E : Value → Shared → Prop} {s : Shared}
theorem item_hex {value slice : Expr} {k : Int} {u tq : Tok} {Q : Value → Shared → Prop} (h0 : 0 ≤ k ∧ k < 16) (h : Q (.str (sgn (figD k)) s.toks) { s with toks := s.toks + 1 })
    (hs : subscripted slice false (.str (Str.ofString "0123456789ABCDEF") tq) (.int k u) = operate [.str (Str.ofString "0123456789ABCDEF") tq, .int k u] (getItem (.str (Str.ofString "0123456789ABCDEF") tq) (.int k u)) := by with_unfolding_all rfl)
    (ht : ∀ r, letTemporaryGo value (.str (Str.ofString "0123456789ABCDEF") tq) r = pure () := by intro _; with_unfolding_all rfl) :
    wpAny (model prog w) A (subscriptTail value slice (.str (Str.ofString "0123456789ABCDEF") tq) (.int k u)) Q E s := by
  have e := item_fig ⟨k.toNat, by omega⟩
  have ek : ((k.toNat : Nat) : Int) = k := by omega
  simp only [ek] at e
  have hl : (Str.ofString "0123456789ABCDEF").length = 16 := by decide +kernel
  refine item_str (fitsSsize_of (N := 100) (by omega) (by omega) (by decide)) (by rw [hl]; omega) (by rw [hl]; omega) (fun _ => ?_) hs ht
  rw [e]; exact h
end
theorem hex_cl (w : World) (b : Array UInt8) (tb : Tok) (news : Led) (hb : b.size ≤ 100) :
   Cl w 56 8 200 [.bytes b tb] news (fun v news' => news' = news ∧ ∃ t, v = .str (hexS (KBw.bInts b)) t) := by
  unfold Cl; k_fill
  intro loose mean mg mb dp un gd cn cs a ccd cl outer A₀ base h₀ L m s Q E B F X N T hk hd hu hret
  have hbl : (KBw.bInts b).length = b.size := KBw.ints_length b
  refine wpAny_call ?_
  k_dflt (refine' code_def (binds := [(Str.ofString "octets", Value.bytes b tb)]) ?k1 ?k2 ?k3 ?k4 ?k5 ?kA ?kF ?kK ?k6 ?k7 ?k8 ?k9 ?kB ?_ ?c2 ?c3 ?c4 ?c5; (((case kA => exact rfl); (case kF => exact rfl); (case kK => assumption); (case k1 => k_asm); (case k2 => k_asm); (case k3 => k_asm); (case k4 => k_asm); (case k5 => k_asm); (case k6 => k_is); (case k7 => k_is); (case k8 => ktr_room); (case k9 => exact BindsTo.of_eq rfl); (case c5 => decide); (case kB => exact locs rfl); (case c2 => exact rfl); (case c3 => exact rfl); (case c4 => exact rfl); k_whole; intro g' L' h' FG' F' N' B' X' T'; (try dsimp only); (try k_lift B'); (try dsimp only [List.length_cons, List.length_nil, List.reverse_cons, List.reverse_nil, List.nil_append, List.cons_append] at F' ⊢); (try k_fold))))
  (repeat' (first | (k_unfold; (try dsimp only)) | ((fail_if_success (with_reducible show wpAny _ _ (pyIter _) _ _ _)); (fail_if_success (with_reducible show InvEndN _ _ _ _ _ _ _)); (fail_if_success (with_reducible show wpAny _ _ (exec (Stmt.For (Expr.Tuple _ _ _) _ _ _ _) _) _ _ _)); (fail_if_success (with_reducible show KswEnd _ _ _ _ _ _ _ _ _ _ _ _)); (fail_if_success (with_reducible show wpAny _ _ (exec (Stmt.While _ _ _ _) _) _ _ _)); first | ((k_here; (with_reducible show wpAny _ _ (subscriptTail _ _ (Value.str _ _) (Value.int _ _)) _ _ _); (refine item_hex ?p0 ?_; (case p0 => first | omega | (rw [show (2 : Int) ^ Int.toNat 4 = 16 from rfl, fd (by decide)]; omega) | (rw [bitAnd_m4]; omega))))) | (((with_reducible show wpAny _ _ (call (Value.builtin "str.join") _) _ _ _); (k_here; (refine join_sgn (by assumption) (by k_mem) (by assumption) (by omega) ?_); intro _ _; (try dsimp only)))) | walk1 | (dsimp only; walk1) | (leave1; (try dsimp only)))))
  (rename Fr _ _ _ _ => lF'); (rename News _ _ _ _ => lN'); rename_i sg _ hl1 _
  with_unfolding_all refine' KStb.kst_bytes (ks := KBw.bInts b) (len := b.size) (σ := List Value × List Int × Nat) (fun c => (sg, W.listOf c.1.toArray c.2.2) :: news) (fun c => []) (fun c => StrsAre c.1 (c.2.1.map sgn)) [] (fun pre c => c.2.1 = pre.flatMap fun o => [figD (o / 16), figD (o % 16)]) ([], [], 0) rfl hbl (by rfl) lF' lN' ?kf ?kk ?kp ?_ ?_
  case kf => exact .nil
  case kk => kst_all
  case kp => rfl
  all_goals (try clear lF' lN')
  · intro ⟨ws, dn, nn⟩ pre post o t u h tk own hk1 hlt ho0 ho1 hoff hS hP F1 N1
    dsimp only [kstB] at F1 hS hP N1
    simp only [List.cons_append] at N1
    have kMark := kstMark
    have hdl : dn.length ≤ 200 := by rw [hP, hexl]; omega
    have hdl : dn.length ≤ 200 := by rw [hP, hexl]; omega
    (try k_unmd); (try k_fold)
    (repeat' (first | (k_unfold; (try dsimp only)) | ((fail_if_success (with_reducible show wpAny _ _ (pyIter _) _ _ _)); (fail_if_success (with_reducible show InvEndN _ _ _ _ _ _ _)); (fail_if_success (with_reducible show wpAny _ _ (exec (Stmt.For (Expr.Tuple _ _ _) _ _ _ _) _) _ _ _)); (fail_if_success (with_reducible show KswEnd _ _ _ _ _ _ _ _ _ _ _ _)); (fail_if_success (with_reducible show wpAny _ _ (exec (Stmt.While _ _ _ _) _) _ _ _)); first | ((k_here; (with_reducible show wpAny _ _ (subscriptTail _ _ (Value.str _ _) (Value.int _ _)) _ _ _); (refine item_hex ?p0 ?_; (case p0 => first | omega | (rw [show (2 : Int) ^ Int.toNat 4 = 16 from rfl, fd (by decide)]; omega) | (rw [bitAnd_m4]; omega))))) | (((with_reducible show wpAny _ _ (call (Value.builtin "str.join") _) _ _ _); (k_here; (refine join_sgn (by assumption) (by k_mem) (by assumption) (by omega) ?_); intro _ _; (try dsimp only)))) | walk1 | (dsimp only; walk1) | (leave1; (try dsimp only)))))
    have hwl : ws.length = dn.length := by rw [hS.length, List.length_map]
    k_dflt (refine' append_K ?k1 ?k2 ?k3 ?_ ?z; (case k1 => k_asm); (case k2 => k_asm); (case k3 => k_upd); (case z => (rw [Array.size_push, List.size_toArray, sizeLine_eq]; omega)); k_whole)
    intro h' F' N'
    (repeat' (first | (k_unfold; (try dsimp only)) | ((fail_if_success (with_reducible show wpAny _ _ (pyIter _) _ _ _)); (fail_if_success (with_reducible show InvEndN _ _ _ _ _ _ _)); (fail_if_success (with_reducible show wpAny _ _ (exec (Stmt.For (Expr.Tuple _ _ _) _ _ _ _) _) _ _ _)); (fail_if_success (with_reducible show KswEnd _ _ _ _ _ _ _ _ _ _ _ _)); (fail_if_success (with_reducible show wpAny _ _ (exec (Stmt.While _ _ _ _) _) _ _ _)); first | ((k_here; (with_reducible show wpAny _ _ (subscriptTail _ _ (Value.str _ _) (Value.int _ _)) _ _ _); (refine item_hex ?p0 ?_; (case p0 => first | omega | (rw [show (2 : Int) ^ Int.toNat 4 = 16 from rfl, fd (by decide)]; omega) | (rw [bitAnd_m4]; omega))))) | (((with_reducible show wpAny _ _ (call (Value.builtin "str.join") _) _ _ _); (k_here; (refine join_sgn (by assumption) (by k_mem) (by assumption) (by omega) ?_); intro _ _; (try dsimp only)))) | walk1 | (dsimp only; walk1) | (leave1; (try dsimp only)))))
    (rename News _ _ _ _ => nE'); (try simp only [List.push_toArray] at nE')
    refine kst_end (ws ++ [_] ++ [_], dn ++ [figD (o / 16)] ++ [figD (o % 16)], _) (by assumption) nE' (by first | kst_in | kst_inAny) (by first | (intro p hp; kst_mem) | kst_anyIn) (by rfl) (strs_sgn (strs_sgn hS ?_) ?_) (by kst_all) (by kst_same) ?_
    · rw [show (2 : Int) ^ Int.toNat 4 = 16 from rfl, fd (by decide)]
    · rw [bitAnd_m4]
    · dsimp only; rw [hP, List.flatMap_append]; simp
  · intro ⟨ws, dn, nn⟩ u h tk _ hS hP F1 N1
    dsimp only [kstB] at F1 hS hP N1
    have kMark := kstMark
    have hdl : dn.length ≤ 200 := by rw [hP, hexl]; omega
    have hdl : dn.length ≤ 200 := by rw [hP, hexl]; omega
    (try k_unmd); (try k_fold)
    (repeat' (first | (k_unfold; (try dsimp only)) | ((fail_if_success (with_reducible show wpAny _ _ (pyIter _) _ _ _)); (fail_if_success (with_reducible show InvEndN _ _ _ _ _ _ _)); (fail_if_success (with_reducible show wpAny _ _ (exec (Stmt.For (Expr.Tuple _ _ _) _ _ _ _) _) _ _ _)); (fail_if_success (with_reducible show KswEnd _ _ _ _ _ _ _ _ _ _ _ _)); (fail_if_success (with_reducible show wpAny _ _ (exec (Stmt.While _ _ _ _) _) _ _ _)); first | ((k_here; (with_reducible show wpAny _ _ (subscriptTail _ _ (Value.str _ _) (Value.int _ _)) _ _ _); (refine item_hex ?p0 ?_; (case p0 => first | omega | (rw [show (2 : Int) ^ Int.toNat 4 = 16 from rfl, fd (by decide)]; omega) | (rw [bitAnd_m4]; omega))))) | (((with_reducible show wpAny _ _ (call (Value.builtin "str.join") _) _ _ _); (k_here; (refine join_sgn (by assumption) (by k_mem) (by assumption) (by omega) ?_); intro _ _; (try dsimp only)))) | walk1 | (dsimp only; walk1) | (leave1; (try dsimp only)))))
    subst hP
    exact hret _ _ _ _ ⟨rfl, _, rfl⟩ (by k_asm) (kst_newsOf (by k_asm) (fun p hp => List.mem_cons_of_mem _ hp))
end Mine
end
section
open PySem PySem.W PyProof.Rows
namespace Mine
def lowF (c : Int) : Int := if 65 ≤ c ∧ c ≤ 90 then c + 32 else c
theorem lt_A {o : Nat} : (({ cps := #[o] } : Str).cps.toList < (Str.ofString "A").cps.toList) ↔ o < 65 := by
  rw [show (Str.ofString "A").cps.toList = [65] from rfl]
  show [o] < [65] ↔ o < 65
  rw [List.cons_lt_cons_iff]
  simp
theorem Z_lt {o : Nat} : ((Str.ofString "Z").cps.toList < ({ cps := #[o] } : Str).cps.toList) ↔ 90 < o := by
  rw [show (Str.ofString "Z").cps.toList = [90] from rfl]
  show [90] < [o] ↔ 90 < o
  rw [List.cons_lt_cons_iff]
  simp
theorem fold_cl (w : World) (xt : Str) (tt : Tok) (news : Led) (hb : (KStt.codes xt).length ≤ 100) (hr : ∀ c ∈ KStt.codes xt, 0 ≤ c ∧ c ≤ 1114111) :
   Cl w 49 8 200 [.str (xt) tt] news (fun v news' => news' = news ∧ ∃ t, v = .str (KStt.txt ((KStt.codes xt).map lowF)) t) := by
  unfold Cl; k_fill
  intro loose mean mg mb dp un gd cn cs a ccd cl outer A₀ base h₀ L m s Q E B F X N T hk hd hu hret
  refine wpAny_call ?_
  k_dflt (refine' code_def (binds := [(Str.ofString "text", Value.str (xt) tt)]) ?k1 ?k2 ?k3 ?k4 ?k5 ?kA ?kF ?kK ?k6 ?k7 ?k8 ?k9 ?kB ?_ ?c2 ?c3 ?c4 ?c5; (((case kA => exact rfl); (case kF => exact rfl); (case kK => assumption); (case k1 => k_asm); (case k2 => k_asm); (case k3 => k_asm); (case k4 => k_asm); (case k5 => k_asm); (case k6 => k_is); (case k7 => k_is); (case k8 => ktr_room); (case k9 => exact BindsTo.of_eq rfl); (case c5 => decide); (case kB => exact locs rfl); (case c2 => exact rfl); (case c3 => exact rfl); (case c4 => exact rfl); k_whole; intro g' L' h' FG' F' N' B' X' T'; (try dsimp only); (try k_lift B'); (try dsimp only [List.length_cons, List.length_nil, List.reverse_cons, List.reverse_nil, List.nil_append, List.cons_append] at F' ⊢); (try k_fold))))
  (repeat' (first | (k_unfold; (try dsimp only)) | ((fail_if_success (with_reducible show wpAny _ _ (pyIter _) _ _ _)); (fail_if_success (with_reducible show InvEndN _ _ _ _ _ _ _)); (fail_if_success (with_reducible show wpAny _ _ (exec (Stmt.For (Expr.Name _ _) _ _ _ _) _) _ _ _)); (fail_if_success (with_reducible show wpAny _ _ (exec (Stmt.For (Expr.Tuple _ _ _) _ _ _ _) _) _ _ _)); (fail_if_success (with_reducible show KswEnd _ _ _ _ _ _ _ _ _ _ _ _)); (fail_if_success (with_reducible show wpAny _ _ (exec (Stmt.While _ _ _ _) _) _ _ _)); first | (((with_reducible show wpAny _ _ (call (Value.builtin "str.join") _) _ _ _); (k_here; (refine join_sgn (by assumption) (by k_mem) (by assumption) (by omega) ?_); intro _ _; (try dsimp only)))) | walk1 | (dsimp only; walk1) | (leave1; (try dsimp only)))))
  (((rename Fr _ _ _ _ => lF'); (with_unfolding_all refine' For_invVF lF' ?k1 ?k2 ?_; (case k1 => exact rfl); (case k2 => exact rfl))))
  (repeat' (first | (k_unfold; (try dsimp only)) | ((fail_if_success (with_reducible show wpAny _ _ (pyIter _) _ _ _)); (fail_if_success (with_reducible show InvEndN _ _ _ _ _ _ _)); (fail_if_success (with_reducible show wpAny _ _ (exec (Stmt.For (Expr.Name _ _) _ _ _ _) _) _ _ _)); (fail_if_success (with_reducible show wpAny _ _ (exec (Stmt.For (Expr.Tuple _ _ _) _ _ _ _) _) _ _ _)); (fail_if_success (with_reducible show KswEnd _ _ _ _ _ _ _ _ _ _ _ _)); (fail_if_success (with_reducible show wpAny _ _ (exec (Stmt.While _ _ _ _) _) _ _ _)); first | (((with_reducible show wpAny _ _ (call (Value.builtin "str.join") _) _ _ _); (k_here; (refine join_sgn (by assumption) (by k_mem) (by assumption) (by omega) ?_); intro _ _; (try dsimp only)))) | walk1 | (dsimp only; walk1) | (leave1; (try dsimp only)))))
  (rename Fr _ _ _ _ => lF'); (rename News _ _ _ _ => lN'); rename_i sg _ hl1 _
  with_unfolding_all refine' KStt.kst_text (σ := List Value × List Int × Nat) (fun c => (sg, W.listOf c.1.toArray c.2.2) :: news) (fun c => []) (fun c => StrsAre c.1 (c.2.1.map sgn)) [] (fun pre c => c.2.1 = pre.map lowF) ([], [], 0) (by rfl) lF' lN' ?kf ?kk ?kp ?_ ?_
  case kf => exact .nil
  case kk => kst_all
  case kp => rfl
  all_goals (try clear lF' lN')
  · intro ⟨ws, dn, nn⟩ pre post o t u h tk own hk1 hoff hS hP F1 N1
    dsimp only [kstB] at F1 hS hP N1
    simp only [List.cons_append] at N1
    have kMark := kstMark
    have ho := hr o (by rw [hk1]; simp)
    (try k_unmd); (try k_fold)
    have hdl : dn.length ≤ 100 := by
      have := congrArg List.length hk1
      simp only [List.length_append, List.length_cons] at this
      rw [hP, List.length_map]; omega
    (repeat' (first | (k_unfold; (try dsimp only)) | ((fail_if_success (with_reducible show wpAny _ _ (pyIter _) _ _ _)); (fail_if_success (with_reducible show InvEndN _ _ _ _ _ _ _)); (fail_if_success (with_reducible show wpAny _ _ (exec (Stmt.For (Expr.Name _ _) _ _ _ _) _) _ _ _)); (fail_if_success (with_reducible show wpAny _ _ (exec (Stmt.For (Expr.Tuple _ _ _) _ _ _ _) _) _ _ _)); (fail_if_success (with_reducible show KswEnd _ _ _ _ _ _ _ _ _ _ _ _)); (fail_if_success (with_reducible show wpAny _ _ (exec (Stmt.While _ _ _ _) _) _ _ _)); first | (((with_reducible show wpAny _ _ (call (Value.builtin "str.join") _) _ _ _); (k_here; (refine join_sgn (by assumption) (by k_mem) (by assumption) (by omega) ?_); intro _ _; (try dsimp only)))) | walk1 | (dsimp only; walk1) | (leave1; (try dsimp only)))))
    · rename_i ha _ _ _ _
      rw [lt_A] at ha
      (rename News _ _ _ _ => nE'); (try simp only [List.push_toArray] at nE')
      refine kst_end (ws ++ [_], dn ++ [lowF o], _) (by assumption) nE' (by first | kst_in | kst_inAny) (by first | (intro p hp; kst_mem) | kst_anyIn) (by rfl) (strs_sgn hS ?_) (by kst_all) (by kst_same) ?_
      · unfold lowF; rw [if_neg (by omega)]; rfl
      · dsimp only; rw [hP, List.map_append]; rfl
    · rename_i _ hz _ _ _ _
      rw [Z_lt] at hz
      (rename News _ _ _ _ => nE'); (try simp only [List.push_toArray] at nE')
      refine kst_end (ws ++ [_], dn ++ [lowF o], _) (by assumption) nE' (by first | kst_in | kst_inAny) (by first | (intro p hp; kst_mem) | kst_anyIn) (by rfl) (strs_sgn hS ?_) (by kst_all) (by kst_same) ?_
      · unfold lowF; rw [if_neg (by omega)]; rfl
      · dsimp only; rw [hP, List.map_append]; rfl
    · rename_i ha hz
      rw [lt_A] at ha
      rw [Z_lt] at hz
      (repeat' (first | (k_unfold; (try dsimp only)) | ((fail_if_success (with_reducible show wpAny _ _ (pyIter _) _ _ _)); (fail_if_success (with_reducible show InvEndN _ _ _ _ _ _ _)); (fail_if_success (with_reducible show wpAny _ _ (exec (Stmt.For (Expr.Name _ _) _ _ _ _) _) _ _ _)); (fail_if_success (with_reducible show wpAny _ _ (exec (Stmt.For (Expr.Tuple _ _ _) _ _ _ _) _) _ _ _)); (fail_if_success (with_reducible show KswEnd _ _ _ _ _ _ _ _ _ _ _ _)); (fail_if_success (with_reducible show wpAny _ _ (exec (Stmt.While _ _ _ _) _) _ _ _)); first | (((with_reducible show wpAny _ _ (call (Value.builtin "str.join") _) _ _ _); (k_here; (refine join_sgn (by assumption) (by k_mem) (by assumption) (by omega) ?_); intro _ _; (try dsimp only)))) | walk1 | (dsimp only; walk1) | (leave1; (try dsimp only)))))
      (rename News _ _ _ _ => nE'); (try simp only [List.push_toArray] at nE')
      refine kst_end (ws ++ [_], dn ++ [lowF o], _) (by assumption) nE' (by first | kst_in | kst_inAny) (by first | (intro p hp; kst_mem) | kst_anyIn) (by rfl) (strs_sgn hS ?_) (by kst_all) (by kst_same) ?_
      · unfold lowF; rw [if_pos (by omega)]; rfl
      · dsimp only; rw [hP, List.map_append]; rfl
  · intro ⟨ws, dn, nn⟩ u h tk hS hP F1 N1
    dsimp only [kstB] at F1 hS hP N1
    have kMark := kstMark
    have hdl : dn.length ≤ 100 := by rw [hP, List.length_map]; exact hb
    (try k_unmd); (try k_fold)
    (repeat' (first | (k_unfold; (try dsimp only)) | ((fail_if_success (with_reducible show wpAny _ _ (pyIter _) _ _ _)); (fail_if_success (with_reducible show InvEndN _ _ _ _ _ _ _)); (fail_if_success (with_reducible show wpAny _ _ (exec (Stmt.For (Expr.Name _ _) _ _ _ _) _) _ _ _)); (fail_if_success (with_reducible show wpAny _ _ (exec (Stmt.For (Expr.Tuple _ _ _) _ _ _ _) _) _ _ _)); (fail_if_success (with_reducible show KswEnd _ _ _ _ _ _ _ _ _ _ _ _)); (fail_if_success (with_reducible show wpAny _ _ (exec (Stmt.While _ _ _ _) _) _ _ _)); first | (((with_reducible show wpAny _ _ (call (Value.builtin "str.join") _) _ _ _); (k_here; (refine join_sgn (by assumption) (by k_mem) (by assumption) (by omega) ?_); intro _ _; (try dsimp only)))) | walk1 | (dsimp only; walk1) | (leave1; (try dsimp only)))))
    subst hP
    exact hret _ _ _ _ ⟨rfl, _, rfl⟩ (by k_asm) (kst_newsOf (by k_asm) (fun p hp => List.mem_cons_of_mem _ hp))
end Mine
end
section
open PySem PySem.W PySem.Spec PySem.Calls PyProof.Rows PyProof.V
open PySem.Sem (wp)
namespace Mine
section
variable {prog : Program} {w : World} {A : Around} {s : Shared} {mg mb : Str → Option Value} {K : Frag} {p : Program} {loose : List Str} {mean : ExcName → Option Value}
  {R : Flow → Shared → Prop} {name qual : Str} {params : Arguments} {body : List Stmt} {scope : Scope} {dV kV doc pm cdv ct oc : Value} {an od : Option Addr} {osl : Array (Option Value)} {f : Addr} {args : Args} {binds : List (Str × Value)}
theorem callTop_I
    (X₀ : K.In s.heap) (T : Top p loose mean mg mb s.heap)
    (ho : K.lookup f = some ⟨oc, od, .func (fnOf name qual params body scope dV kV doc pm an cdv ct), osl⟩) (hcd : codeIn K cdv qual = true) (hroom : A.depth < recursionLimit)
    (hbind : BindsTo s (fnOf name qual params body scope dV kV doc pm an cdv ct) args binds) (hkind : (binds.all fun y => scope.names.lookup y.1 == some .local || scope.names.lookup y.1 == some .cell) = true)
    (hnd : ((cellsFrom 0 scope.names []).map (·.1)).Nodup)
    (h : ∀ L' h₁ tk cells, Fr s.heap L' h₁ (bindL (envOfC qual scope L' f cdv).kindOf binds fun _ => none) → News s.heap L' h₁ cells →
      CellsAre (bindC (envOfC qual scope L' f cdv).kindOf binds fun _ => none) (cellsFrom (L' + 1) scope.names []) cells →
      wpI (model prog w) (A.deeper (envOfC qual scope L' f cdv)) (execs body (envOfC qual scope L' f cdv))
        (fun fl s' => R (.ret (match fl with | .ret v => v | _ => .none)) s')
        { s with heap := h₁, toks := tk })
    (hco : scope.isCoroutine = false) (hgen : scope.isGenerator = false) (hk : scope.kind = .function) : cdI (model prog w) A (.call (.ref f) args) R s := by
  refine cdI_call_function (fd := fnOf name qual params body scope dV kV doc pm an cdv ct) (body := body) hroom (X₀ _ _ ho) rfl hco hgen rfl (codeRec_of X₀ hcd) (hbind _ _ _ _ ?_)
  refine wpAny_newFunctionEnv_cells hk (kindsX hkind _) fun env' he s' x => ?_
  subst he
  refine ⟨T.nolimit.keeps x.toInCall.keep, cdI_func ?_⟩
  obtain ⟨h₁, tk, rfl, _⟩ := x.done
  obtain ⟨cells, NC, Y⟩ := PyProof.Rows.Cl.news (h₀ := s.heap) (Nat.le_refl _) fun n c hm => ⟨x.cell n c (lookup_of_mem_nodup (cellsFrom_names scope.names 0 (s.heap.objs.size + 1) [] [] rfl ▸ hnd) hm), x.above n c hm⟩
  exact h s.heap.objs.size h₁ tk cells ⟨x.toInCall.ns, x.toInCall.keep, Nat.le_refl _⟩ NC Y
end
/-- a contract with a premise on the ground, used -/
theorem ClB.use {w : World} {f : Addr} {D U : Nat} {vs : List Value} {news : Led} {P : Heap → Prop} {R : Value → Led → Prop} (C : ClB w f D U vs news P R)
    {loose : List Str} {mean : ExcName → Option Value} {mg mb : Str → Option Value} {dp un : Nat} {gd : Option (List Code)} {cn : Str} {cs : Scope} {a : Addr} {ccd : Value} {cl : List (Str × Addr)} {outer : List Env}
    {A₀ : Around} {base h₀ : Heap} {L : Addr} {m : Str → Option Value} {s : Shared} {Q E : Value → Shared → Prop}
    (B : Below A₀ base outer h₀) (F : Fr h₀ L s.heap m) (X : (Mine.hd.heap_39 w.params).In h₀) (N : News h₀ L s.heap news) (T : Top Mine.hd.view_39 loose mean mg mb h₀) (hk : cs.kind = .function)
    (hd : dp + D < recursionLimit) (hu : un + U < cLine) (hP : P h₀)
    (ret : ∀ v news' h' tk', R v news' → Fr h₀ L h' m → News h₀ L h' news' → Q v { s with heap := h', toks := tk' }) :
    wpAny (model PySem.Challenge.rw_nt0091_01.row.prog w) (ktrTop dp un gd cn cs L a ccd cl outer) (call (.ref f) vs) Q E s :=
  C loose mean mg mb dp un gd cn cs a ccd cl outer A₀ base h₀ L m s Q E hP B F X N T hk hd hu ret
end Mine
end
section
open PySem PySem.W PySem.Spec PySem.Calls PyProof.Rows PyProof.V
open PySem.Sem (wp)
namespace Mine
def Nx (Mid : Shared → Prop) (f : Flow) (s' : Shared) : Prop := f = .next ∧ Mid s'
section
variable {prog : Program} {w : World} {A : Around} {s : Shared} {env : Env}
theorem wpI_cut {st : Stmt} {rest : List Stmt} {Q : Flow → Shared → Prop} (Mid : Shared → Prop) (hm : wpAny (model prog w) A (exec st env) (Nx Mid) noE s) (hr : ∀ s', Mid s' → wpI (model prog w) A (execs rest env) Q s') :
    wpI (model prog w) A (execs (st :: rest) env) Q s :=
  wpI_execs_any (wpAny_mono hm (fun f s' h => by obtain ⟨rfl, h⟩ := h; exact hr s' h) fun _ _ e => e)
theorem wpI_cutI {st : Stmt} {rest : List Stmt} {Q : Flow → Shared → Prop} (Mid : Shared → Prop) (hm : wpI (model prog w) A (exec st env) (Nx Mid) s) (hr : ∀ s', Mid s' → wpI (model prog w) A (execs rest env) Q s') :
    wpI (model prog w) A (execs (st :: rest) env) Q s :=
  wpI_execs_cons (wpI_mono hm (fun f s' h => by obtain ⟨rfl, h⟩ := h; exact hr s' h))
end
theorem kstB_same {m : Str → Option Value} : ∀ {ps : List (Str × Value)}, (∀ p ∈ ps, m p.1 = some p.2) → kstB m ps = m := by
  intro ps
  induction ps with
  | nil => intro _; rfl
  | cons p r ih =>
    intro h
    funext y
    have h1 := h p (.head _)
    have h2 := congrFun (ih fun q hq => h q (.tail _ hq)) y
    by_cases hy : y = p.1
    · subst hy; simp [kstB, h1]
    · simp [kstB, hy]; exact h2
/-- the state between two statements -/
def St (s : Shared) (L' : Addr) (own : Led) (ps : List (Str × Value)) (led : Led) (s' : Shared) : Prop :=
  ∃ u h tk, s' = { s with heap := h, toks := tk } ∧ Fr s.heap L' h (kstB u ps) ∧ News s.heap L' h (led ++ own)
theorem St.of {s : Shared} {L' : Addr} {own led : Led} {ps : List (Str × Value)} {m : Str → Option Value} {h : Heap} {tk : Nat} (F : Fr s.heap L' h m) (hk : ∀ p ∈ ps, m p.1 = some p.2) (N : News s.heap L' h (led ++ own)) :
    St s L' own ps led { s with heap := h, toks := tk } := ⟨m, h, tk, rfl, by rw [kstB_same hk]; exact F, N⟩
def Mid1 (s : Shared) (l L' : Addr) (own : Led) (s' : Shared) : Prop :=
  ∃ src x y tx ty n q2 p1, St s L' own [(Str.ofString "script", .ref l)] [(src, srcO x y tx ty n), (L' + 1, q2), (L' + 1 + 1, p1)] s' ∧
    q2.data = .cell (some (.ref src)) ∧ (∃ v, p1.data = .cell v) ∧ 0 ≤ y ∧ y < 2147483648 ∧ (∀ p ∈ own, p.1 ≠ src) ∧ src ≠ L' + 1 ∧ src ≠ L' + 1 + 1
def Mid2 (s : Shared) (l L' : Addr) (own : Led) (cs : List Int) (s' : Shared) : Prop :=
  ∃ (ca : Addr) (ys : List Value) (nc : Nat) (src : Addr) (x y : Int) (tx ty : Tok) (n : Nat) (q2 p1 : Obj), St s L' own [(Str.ofString "codes", .ref ca), (Str.ofString "script", .ref l)] [(ca, W.listOf ys.toArray nc), (src, srcO x y tx ty n), (L' + 1, q2), (L' + 1 + 1, p1)] s' ∧
    IntsAre ys cs ∧ q2.data = .cell (some (.ref src)) ∧ (∃ v, p1.data = .cell v) ∧ 0 ≤ y ∧ y < 2147483648 ∧ (∀ p ∈ own, p.1 ≠ src) ∧ src ≠ L' + 1 ∧ src ≠ L' + 1 + 1
      ∧ (∀ p ∈ own, p.1 ≠ ca) ∧ ca ≠ src ∧ ca ≠ L' + 1 ∧ ca ≠ L' + 1 + 1
end Mine
namespace Mine
theorem store_cell {M : Model} {A : Around} {E : Value → Shared → Prop} {s : Shared} {h₀ : Heap} {L a : Addr} {m : Str → Option Value} {cn : Str} {cs : Scope} {ccd : Value} {cl : List (Str × Addr)}
    {x : Str} {v : Value} {Q : Unit → Shared → Prop} {rest : Led} {c : Addr} {o : Obj} {v₀ : Option Value}
    (F : Fr h₀ L s.heap m) (N : News h₀ L s.heap ((c, o) :: rest)) (hne : ∀ p ∈ rest, p.1 ≠ c) (hc : cl.lookup x = some c) (hd : o.data = .cell v₀)
    (h : ∀ h' o', Fr h₀ L h' m → News h₀ L h' ((c, o') :: rest) → o'.data = .cell (some v) → Q () { s with heap := h' })
    (hk : cs.kind = .function) (hx : (envX cn cs L a ccd cl).kindOf x = some .cell) : wpAny M A (storeName (envX cn cs L a ccd cl) x v) Q E s :=
  storeX_C F N hc (.head hne) hd h hk hx
end Mine
end
section
open PySem PySem.W PySem.Spec PySem.Calls PyProof.Rows PyProof.V
open PySem.Sem (wp)
namespace Mine
/-- the end of a turn of a loop over a list whose ledger's addresses may change -/
def EndV {σ : Type} (h₀ : Heap) (L : Addr) (Led : σ → Led) (ps : σ → List (Str × Value)) (Facts : σ → Prop) (x : Str) (stored : List Str) (m₀ : Str → Option Value) (P : List Int → σ → Prop) (pre : List Int) (I : Addr) (oI : Obj) (s₁ s₂ : Shared) : Prop :=
  ∃ (c : σ) (h' : Heap) (tk : Nat) (m' : Str → Option Value), s₂ = { s₁ with heap := h', toks := tk } ∧ Fr h₀ L h' m' ∧ News h₀ L h' ((I, oI) :: Led c) ∧ (∀ p ∈ Led c, p.1 ≠ I) ∧ Facts c ∧ (∀ p ∈ ps c, m' p.1 = some p.2) ∧ (∀ z, z ≠ x → (∀ p ∈ ps c, z ≠ p.1) → stored.contains z = false → m' z = m₀ z) ∧ P pre c
def PostV (E : Shared → Prop) (Q : Flow → Shared → Prop) (f : Flow) (s₂ : Shared) : Prop :=
  match f with
  | .ret v => Q (.ret v) s₂
  | .brk => Q .next s₂
  | _ => E s₂
section
variable {prog : Program} {w : World} {A : Around} {E : Value → Shared → Prop} {s : Shared} {env : Env} {h₀ : Heap} {x : Str} {body : List Stmt} {Q : Flow → Shared → Prop}
theorem listV {σ : Type} {l : Addr} {vs : List Value} {ns : List Int} {nn : Nat} {m₀ : Str → Option Value} (Led : σ → Led) (ps : σ → List (Str × Value)) (Facts : σ → Prop) (stored : List Str) (P : List Int → σ → Prop) (c₀ : σ)
    (hh : A.handled = none) (hl : ∀ c : σ, (l, W.listOf vs.toArray nn) ∈ Led c) (hi : IntsAre vs ns) (F : Fr h₀ env.locals s.heap m₀) (N : News h₀ env.locals s.heap (Led c₀)) (hf : Facts c₀) (hk : ∀ p ∈ ps c₀, m₀ p.1 = some p.2) (hp : P [] c₀)
    (turn : ∀ (c : σ) pre post n t (u : Str → Option Value) h tk I oI, ns = pre ++ n :: post → n ∈ ns → (∀ p ∈ Led c, p.1 ≠ I) → Facts c → P pre c →
      Fr h₀ env.locals h (fun y => if y = x then some (.int n t) else kstB (fun z => if stored.contains z then u z else m₀ z) (ps c) y) → News h₀ env.locals h ((I, oI) :: Led c) →
      wpAny (model prog w) A (execs body env) (PostV (EndV h₀ env.locals Led ps Facts x stored m₀ P (pre ++ [n]) I oI { s with heap := h, toks := tk }) Q) E { s with heap := h, toks := tk })
    (done : ∀ (c : σ) (u : Str → Option Value) h tk, Facts c → P ns c → Fr h₀ env.locals h (fun y => if y = x then u y else kstB (fun z => if stored.contains z then u z else m₀ z) (ps c) y) → News h₀ env.locals h (Led c) → Q .next { s with heap := h, toks := tk }) :
    wpAny (model prog w) A (pyIter (.ref l)) (fun it s₂ => LoopAtV prog w A h₀ env x body Q E it s₂) E s := by
  have hol : s.heap.get? l = some (W.listOf vs.toArray nn) := (N _ (hl c₀)).1
  have hls : s.heap.IsList l vs.toArray := ⟨_, hol, rfl, nn, rfl⟩
  have hne : l ≠ s.heap.objs.size := Nat.ne_of_lt (Heap.lt_size hol)
  refine wpAny_pyIter_list hls ?_
  have W9 := Walks.list (prog := prog) (w := w) hh s.heap.objs.size l hne vs.toArray
  have hlen : vs.toArray.size = ns.length := by simp [hi.length]
  rw [hlen] at W9
  refine ⟨_, _, _, ns.length, _, _, m₀, Led c₀, (fun i m nx => KstS Led ps Facts x stored m₀ P (ns.take i) m nx), rfl, W9, ?_, ?_, ?_, ⟨⟨_, Heap.get?_push_size _ rfl, rfl, rfl⟩, hls.at fun o e => Heap.get?_push_of_some _ e⟩, F.push _, (fun p hp => ⟨Heap.get?_push_of_some _ (N p hp).1, (N p hp).2⟩), ⟨c₀, rfl, hf, hk, fun _ _ _ _ => rfl, by simpa using hp⟩, ?_, ?_⟩
  · intro hm
    rcases List.mem_cons.mp hm with e | hm
    · exact absurd F.ns.lt (e ▸ Nat.lt_irrefl _)
    · exact (N _ (hl c₀)).2.1 ((List.mem_singleton.mp hm).symm)
  · intro b hb
    rw [List.mem_singleton.mp hb]
    exact next_is_new F
  · intro p hp hI
    exact absurd (Heap.lt_size (N p hp).1) ((List.mem_singleton.mp hI) ▸ Nat.lt_irrefl _)
  · rintro i v m₁ news₁ s₁ own ⟨hh', tk', rfl⟩ hin hP ⟨c, rfl, hf', h1, h2, hp'⟩ hoff hown hget hfp hst F₁ N₁
    obtain ⟨oI, hoI, _⟩ := hst.1
    have hIn : h₀.get? s.heap.objs.size = none := next_is_new F
    have hIm := hfp s.heap.objs.size (by simp) hIn oI hoI
    have hx : vs[i]? = some v := by simpa using hP
    obtain ⟨n, t, rfl, hn⟩ := IntsAre.at hi i v hx
    have hs : ns.take (i + 1) = ns.take i ++ [n] := by simp [List.take_add_one, hn]
    have e : ns = ns.take i ++ n :: ns.drop (i + 1) := by
      have ht := List.take_append_drop (i + 1) ns
      rw [hs, List.append_assoc] at ht
      exact ht.symm
    have hlc : hh'.get? l = some (W.listOf vs.toArray nn) := (N₁ _ (List.mem_append_right _ (hl c))).1
    refine wpAny_mono (turn c _ _ n t m₁ hh' tk' s.heap.objs.size oI e (List.mem_of_getElem? hn) (fun p hp => fun q => hoff p hp (List.mem_singleton.mpr q)) hf' hp' (kst_fr h1 h2 F₁) (fun p hp => ?_)) (fun f s₃ h₃ => ?_) fun _ _ e => e
    · rcases List.mem_cons.mp hp with rfl | hp
      · exact N₁ _ (List.mem_append_left _ hIm)
      · exact N₁ _ (List.mem_append_right _ hp)
    · have fin : EndV h₀ env.locals Led ps Facts x stored m₀ P (ns.take i ++ [n]) s.heap.objs.size oI { s with heap := hh', toks := tk' } s₃ →
          LoopStepU h₀ env.locals [s.heap.objs.size] own (KstS Led ps Facts x stored m₀ P (ns.take (i + 1))) { s with heap := hh', toks := tk' } .next s₃ := by
        rintro ⟨c', h₃', tk₃, m₂, rfl, F₃, N₃, hI₃, hf₃, ha₃, hb₃, hp₃⟩
        refine .intro F₃ (fun p hp => ?_) (fun p hp q => hI₃ p hp (List.mem_singleton.mp q)) ⟨c', rfl, hf₃, ha₃, hb₃, by rw [hs]; exact hp₃⟩
        rcases List.mem_append.mp hp with hp | hp
        · have hg := hget p hp
          have hN := N₁ p (List.mem_append_left _ hp)
          rcases List.mem_cons.mp (hown p hp) with q | q
          · obtain ⟨a, o⟩ := p
            dsimp only at q hg
            subst q
            have : o = oI := by rw [hoI] at hg; exact (Option.some.inj hg).symm
            subst this
            exact N₃ _ (.head _)
          · obtain ⟨a, o⟩ := p
            have q := List.mem_singleton.mp q
            dsimp only at q hg
            subst q
            have : o = W.listOf vs.toArray nn := by rw [hlc] at hg; exact (Option.some.inj hg).symm
            subst this
            exact N₃ _ (.tail _ (hl c'))
        · exact N₃ _ (.tail _ hp)
      cases f with
      | ret v => exact h₃
      | brk => exact h₃
      | cont => exact fin h₃
      | next => exact fin h₃
  · rintro h' tk m₁ news₁ F₁ N₁ _ ⟨c, rfl, hf', h1, h2, hp'⟩
    rw [List.take_length] at hp'
    exact done c m₁ h' tk hf' hp' (kst_frOut h1 h2 F₁) N₁
end
end Mine
namespace Mine
abbrev NB (own : Led) (L' oa ca src : Addr) (y : Int) : Prop := 0 ≤ y ∧ y < 2147483648 ∧ (∀ p ∈ own, p.1 ≠ src) ∧ src ≠ L' + 1 ∧ src ≠ L' + 1 + 1
      ∧ (∀ p ∈ own, p.1 ≠ ca) ∧ ca ≠ src ∧ ca ≠ L' + 1 ∧ ca ≠ L' + 1 + 1 ∧ (∀ p ∈ own, p.1 ≠ oa) ∧ oa ≠ ca ∧ oa ≠ src ∧ oa ≠ L' + 1 ∧ oa ≠ L' + 1 + 1
def Mid3 (s : Shared) (l L' : Addr) (own : Led) (more : List (Str × Value)) (cs : List Int) (s' : Shared) : Prop :=
  ∃ (oa : Addr) (vo : List Value) (no : Nat) (ca : Addr) (ys : List Value) (nc : Nat) (src : Addr) (x y : Int) (tx ty : Tok) (n : Nat) (q2 p1 : Obj),
    St s L' own (more ++ [(Str.ofString "octets", .ref oa), (Str.ofString "codes", .ref ca), (Str.ofString "script", .ref l)]) [(oa, W.listOf vo.toArray no), (ca, W.listOf ys.toArray nc), (src, srcO x y tx ty n), (L' + 1, q2), (L' + 1 + 1, p1)] s' ∧
    IntsAre vo (cs.flatMap encF) ∧ IntsAre ys cs ∧ q2.data = .cell (some (.ref src)) ∧ (∃ v, p1.data = .cell v) ∧ NB own L' oa ca src y
def Mid4 (s : Shared) (l L' : Addr) (own : Led) (more : List (Str × Value)) (cs : List Int) (fv : Value) (s' : Shared) : Prop :=
  ∃ (oa : Addr) (vo : List Value) (no : Nat) (ca : Addr) (ys : List Value) (nc : Nat) (src : Addr) (x y : Int) (tx ty : Tok) (n : Nat) (q2 p1 : Obj),
    St s L' own (more ++ [(Str.ofString "octets", .ref oa), (Str.ofString "codes", .ref ca), (Str.ofString "script", .ref l)]) [(oa, W.listOf vo.toArray no), (ca, W.listOf ys.toArray nc), (src, srcO x y tx ty n), (L' + 1, q2), (L' + 1 + 1, p1)] s' ∧
    IntsAre vo (cs.flatMap encF) ∧ IntsAre ys cs ∧ q2.data = .cell (some (.ref src)) ∧ p1.data = .cell (some fv) ∧ NB own L' oa ca src y
theorem allLt_own {d : Addr} {l : Led} (h : AllLt d l) : ∀ p ∈ l, p.1 ≠ d := fun p hp => Nat.ne_of_lt (kst_ltOf h p hp)
end Mine
end
section
open PySem PySem.W PySem.Spec PySem.Calls PyProof.Rows PyProof.V PyProof.Rows.LCg
open PySem.Sem (wp)
namespace Mine
section
variable {prog : Program} {w : World} {A : Around} {E : Value → Shared → Prop} {s : Shared} {h₀ : Heap} {L : Addr} {m : Str → Option Value} {env : Env}
variable {elt : Expr} {x : Str} {scope : Scope} {cl : List (Str × Addr)} {Fin : List Value → List (Addr × Obj) → Prop}
/-- a comprehension over a list of ints in the ledger, which stays as it is -/
theorem lc_rest {ax : Addr} {vs : List Value} {ns : List Int} {news : Led} (hi : IntsAre vs ns) (hS : SrcAt h₀ ax vs.toArray news) (R : Nat → List Value → Prop) (h0 : R 0 [])
    (turn : ∀ i c t I oI C oC D m₂ ys h tk (E' : Value → Shared → Prop), ns[i]? = some c → R i ys → NsObj oC m₂ → m₂ x = some (.int c t) → Fr h₀ L h m → News h₀ L h ((I, oI) :: (C, oC) :: (D, lst ys) :: news) → Off3 I C D news → ((@Ne Nat I C) ∧ (@Ne Nat I D) ∧ (@Ne Nat C D)) → KPfMark →
      wpAny (model prog w) A (eval elt (compEnvC scope cl C env)) (CompEnd h₀ L m { s with heap := h, toks := tk } I oI C oC D (lst ys) (fun nw => nw = news) (fun y _ => R (i + 1) (ys ++ [y]))) E' { s with heap := h, toks := tk })
    (fin : ∀ ys, R ns.length ys → Fin ys news) : CompRest prog w A h₀ L m env elt x scope cl s (SrcAt h₀ ax vs.toArray) (fun i v => vs.toArray[i]? = some v) Fin vs.toArray.size 0 [] news := by
  have hlen : vs.toArray.size = ns.length := by simp [hi.length]
  rw [hlen]
  refine cst_rest (σ := Unit) (fun _ => news) (fun i _ ys => R i ys) () h0 ?_ (fun _ ys h => fin ys h)
  intro i _ v I oI C oC D m₂ ys h tk E' hlt hv hR hC hx F1 N1 off ne mk
  have hx' : vs[i]? = some v := by simpa using hv
  obtain ⟨n, t, rfl, hn⟩ := IntsAre.at hi i v hx'
  refine wpAny_mono (turn i n t I oI C oC D m₂ ys h tk E' hn hR hC hx F1 N1 off ne mk) (fun y s₂ hq => ?_) fun _ _ e => e
  obtain ⟨h', tk', nw, e, F', N', off', rfl, hr⟩ := hq
  exact ⟨h', tk', _, e, F', N', off', hS, (), rfl, hr⟩
theorem srcAt_led {ax : Addr} {vs : List Value} {n : Nat} {news : Led} (hm : (ax, W.listOf vs.toArray n) ∈ news) : SrcAt h₀ ax vs.toArray news := .inr ⟨_, hm, rfl, n, rfl⟩
end
theorem strs_take {vs : List Value} {cs : List Int} {g : Int → Str} {i : Nat} {c : Int} {X : Str} {t : Tok} (h : StrsAre vs ((cs.take i).map g)) (hc : cs[i]? = some c) (e : X = g c) : StrsAre (vs ++ [.str X t]) ((cs.take (i + 1)).map g) := by
  subst e
  rw [List.take_add_one, hc, List.map_append]
  exact KStt.strs_snoc h
theorem ints_take {vs : List Value} {cs : List Int} {g : Int → Int} {i : Nat} {c d : Int} {t : Tok} (h : IntsAre vs ((cs.take i).map g)) (hc : cs[i]? = some c) (e : d = g c) : IntsAre (vs ++ [.int d t]) ((cs.take (i + 1)).map g) := by
  subst e
  rw [List.take_add_one, hc, List.map_append]
  exact IntsAre.append h (.cons _ _ .nil)
end Mine
end
section
open PySem PySem.W PySem.Spec PySem.Calls PyProof.Rows PyProof.V
open PySem.Sem (wp)
namespace Mine
abbrev octAt (b : Array UInt8) (i : Nat) (v : Value) : Prop := ∃ c u, b[i]? = some c ∧ v = .int ((c.toNat : Nat) : Int) u
section
variable {prog : Program} {w : World} {A : Around} {E : Value → Shared → Prop} {s : Shared}
theorem extend_bytes {R : Result → Shared → Prop} (hh : A.handled = none) (x : Array UInt8) (t : Tok) (S : Addr) (res : Value) (c₀ : Nat) (hS : s.heap.get? S = some { cls := .type "list", data := .seq #[] c₀ })
    (hn : x.size ≤ sizeLine)
    (hR : ∀ h' tk acc' c', (∀ b o, b ≠ S → s.heap.get? b = some o → h'.get? b = some o) → h'.get? S = some { cls := .type "list", dict := none, data := .seq acc' c', slots := #[] } →
      ItemsOf (octAt x) acc' x.size → R (.ok (.ret res)) { s with heap := h', toks := tk }) :
    wpAny (model prog w) A.in1 (Builtin.List.listExtendWith (.ref S) (.bytes x t) res)
      (fun fin s' => match fin with | .done f => R (.ok f) s' | .again c' => c'.quiet = true ∧ codeAny (model prog w) A c' R s') (fun e s' => R (.error e) s') s := by
  have hSI : S ≠ s.heap.objs.size := Nat.ne_of_lt (Heap.lt_size hS)
  have hSf : S ∉ [s.heap.objs.size] := fun hm => hSI (List.mem_singleton.mp hm)
  unfold Builtin.List.listExtendWith
  refine wpAny_bind (wpAny_typeOf (T := "bytes") (v := .bytes x t) (typeIs_bytes s x t) ?_)
  have h1 : Builtin.List.listSameRef (.ref S) (.bytes x t) = false := rfl
  have h2 : (Value.type "bytes" == Value.type "list") = false := by decide
  have h3 : (Value.type "bytes" == Value.type "tuple") = false := by decide
  simp only [h1, h2, h3, Bool.or_false, Bool.false_eq_true, if_false]
  refine wpAny_bind (KBw.pyIter_bytes ?_)
  refine wpAny_bind (wpAny_holding ?_)
  unfold Builtin.List.listLengthHint
  refine wpAny_bind (wpAny_specialOf (T := "bytes") (v := .bytes x t) (typeIs_bytes _ x t) PySem.W.FB.slot_bytes_len.lookup ?_)
  wp_delta
  refine wpAny_bind (wpAny_isInstance (T := "bytes") (v := .bytes x t) (b := true) (typeIs_bytes _ x t) (by rw [isSubtype_type]; kernel_rfl) ?_)
  show wpAny _ _ (typeOf (Value.bytes x t) >>= _) _ _ _
  refine wpAny_bind (wpAny_typeOf (T := "bytes") (v := .bytes x t) (typeIs_bytes _ x t) ?_)
  refine wpAny_pure ?_
  rw [if_neg (by decide)]
  have hst : KBw.IsBytesIter (s.heap.push { cls := .type "bytes_iterator", data := .fields #[.bytes x t, .int 0 0] }) s.heap.objs.size x t 0 := ⟨_, Heap.get?_push_size _ rfl, rfl, rfl⟩
  refine wpAny_pure ⟨plainId_quiet PySem.F.plain_extend_loop _, codeAny_extend_loopS (KBw.walks (A := A.in1) hh s.heap.objs.size x t).toS hn _ hSf _ x.size 0 _ _ _ rfl (Nat.zero_le _) hst (Heap.get?_push_of_some _ hS) (ItemsOf.nil _) fun s' acc' c' hm hS' hacc => ?_⟩
  rw [Moved.eq_with hm]
  refine hR s'.heap s'.toks acc' c' (fun b ob hb e => hm.heap b ob (fun hmem => ?_) (Heap.get?_push_of_some _ e)) hS' hacc
  rcases List.mem_cons.mp hmem with e' | hmem
  · exact hb e'
  · exact absurd (Heap.lt_size e) (by rw [List.mem_singleton.mp hmem]; exact Nat.lt_irrefl _)
theorem init_bytes {R : Result → Shared → Prop} (hh : A.handled = none) (x : Array UInt8) (t : Tok) (S : Addr) (hS : s.heap.get? S = some { cls := .type "list", data := .seq #[] })
    (hn : x.size ≤ sizeLine)
    (hR : ∀ h' tk acc' c', (∀ b o, b ≠ S → s.heap.get? b = some o → h'.get? b = some o) → h'.get? S = some { cls := .type "list", dict := none, data := .seq acc' c', slots := #[] } →
      ItemsOf (octAt x) acc' x.size → R (.ok (.ret .none)) { s with heap := h', toks := tk }) :
    wpAny (model prog w) A.in1 (Builtin.«list.__init__» ⟨[.ref S, .bytes x t], []⟩)
      (fun fin s' => match fin with | .done f => R (.ok f) s' | .again c' => c'.quiet = true ∧ codeAny (model prog w) A c' R s') (fun e s' => R (.error e) s') s := by
  show wpAny _ _ (do let old ← Builtin.List.listItems (.ref S); Builtin.List.listUpdate (.ref S) (fun _ => #[]); letGo old.toList.reverse; Builtin.List.listExtendWith (.ref S) (.bytes x t) .none) _ _ s
  refine wpAny_bind ?_
  unfold Builtin.List.listItems
  refine wpAny_bind (wpAny_seqItems hS rfl (wpAny_pure ?_))
  show wpAny _ _ (updateSeq S (fun _ => #[]) >>= fun _ => letGo (#[] : Array Value).toList.reverse >>= fun _ => Builtin.List.listExtendWith (.ref S) (.bytes x t) .none) _ _ s
  refine wpAny_bind (wpAny_updateSeq hS rfl ?_)
  have hS₂ := Heap.get?_update_self (Obj.mapSeq (fun _ => (#[] : Array Value))) hS rfl
  have oth : ∀ b o, b ≠ S → s.heap.get? b = some o → (s.heap.update S (Obj.mapSeq (fun _ => (#[] : Array Value)))).get? b = some o :=
    fun b o hb e => (Heap.get?_update_other _ _ (Ne.symm hb)).trans e
  refine wpAny_bind (wpAny_letGo ?_)
  refine extend_bytes hh x t S .none _ hS₂ hn fun h' tk acc' c' hk hS' hacc => ?_
  exact hR h' tk acc' c' (fun b o hb e => hk b o hb (oth b o hb e)) hS' hacc
theorem call_list_bytes {Q : Value → Shared → Prop} (hh : A.handled = none) (x : Array UInt8) (t : Tok) (hn : x.size ≤ sizeLine)
    (hQ : ∀ h' tk acc' c', (∀ b o, s.heap.get? b = some o → h'.get? b = some o) →
      h'.get? s.heap.objs.size = some { cls := .type "list", dict := none, data := .seq acc' c', slots := #[] } → ItemsOf (octAt x) acc' x.size → Q (.ref s.heap.objs.size) { s with heap := h', toks := tk }) :
    wpAny (model prog w) A (call (.type "list") [.bytes x t]) Q E s := by
  refine callType_codes (Q₁ := fun obj s₁ => obj = .ref s.heap.objs.size ∧ s₁ = { s with heap := s.heap.push { cls := .type "list", data := .seq #[] } }) PySem.F.called_list (PySem.F.typeCall_list_1 _) PySem.F.entry_list_init
    (code_list_new _ ⟨rfl, rfl⟩) fun obj s₁ h₁ => ?_
  obtain ⟨rfl, rfl⟩ := h₁
  have hS : (s.heap.push { cls := .type "list", data := .seq #[] }).get? s.heap.objs.size = some { cls := .type "list", data := .seq #[] } := Heap.get?_push_size _ rfl
  refine ⟨⟨_, hS, rfl⟩, PySem.F.args_list_init_2 _ _, init_bytes (A := A.in1) hh x t _ hS hn fun h' tk acc' c' hk hS' hacc => ?_⟩
  exact ⟨rfl, hQ h' tk acc' c' (fun b o e => hk b o (Nat.ne_of_lt (Heap.lt_size e)) (Heap.get?_push_of_some _ e)) hS' hacc⟩
end
theorem ints_of_items : ∀ {vs : List Value} {ns : List Int}, vs.length = ns.length → (∀ (i : Nat) (v : Value), vs[i]? = some v → ∃ n t, ns[i]? = some n ∧ v = Value.int n t) → IntsAre vs ns
  | [], [], _, _ => .nil
  | v :: vs, n :: ns, hl, h => by
    obtain ⟨n', t, hn, rfl⟩ := h 0 v rfl
    cases hn
    exact .cons _ _ (ints_of_items (by simpa using hl) fun i v hv => h (i + 1) v hv)
theorem items_bytes {x : Array UInt8} {acc : Array Value} (h : ItemsOf (octAt x) acc x.size) : IntsAre acc.toList (KBw.bInts x) := by
  refine ints_of_items (by simp [KBw.bInts, h.1]) fun i v hv => ?_
  obtain ⟨c, u, hc, rfl⟩ := h.2 i v (by simpa using hv)
  exact ⟨_, u, KBw.ints_get hc, rfl⟩
theorem list_bytesF {prog : Program} {w : World} {A : Around} {E : Value → Shared → Prop} {s : Shared} {h₀ : Heap} {L : Addr} {m : Str → Option Value} {news : Led} {Q : Value → Shared → Prop} {os : List Int} {t : Tok}
    (hh : A.handled = none) (F : Fr h₀ L s.heap m) (N : News h₀ L s.heap news) (hr : ∀ o ∈ os, 0 ≤ o ∧ o < 256) (hn : os.length ≤ 1000)
    (hQ : ∀ h' tk D vs n, Fr h₀ L h' m → News h₀ L h' ((D, W.listOf vs.toArray n) :: news) → (∀ p ∈ news, p.1 < D) → IntsAre vs os → Q (.ref D) { s with heap := h', toks := tk }) :
    wpAny (model prog w) A (call (.type "list") [.bytes (byteArr os) t]) Q E s := by
  refine call_list_bytes hh _ t (by rw [byteArr_size, sizeLine_eq]; omega) fun h' tk acc c hk hg hit => ?_
  have hi := items_bytes hit
  rw [KBa.ints_make hr] at hi
  exact hQ h' tk _ acc.toList c (F.kept hk) (News.kept_cons F N hk (Nat.le_refl _) (by simpa using hg)) (fun p hp => Heap.lt_size (N p hp).1) hi
section
variable {prog : Program} {w : World} {A : Around} {s : Shared} {env : Env}
theorem isTrue_Or_I {x y : Expr} {pos : Pos} {whole : Sem Value} {Q : Bool → Shared → Prop}
    (h : wpI (model prog w) A (isTrue x env (eval x env)) (fun b s' => b = false ∧ wpI (model prog w) A (isTrue y env (eval y env)) Q s') s) :
    wpI (model prog w) A (isTrue (.BoolOp .Or [x, y] pos) env whole) Q s := by
  rw [arm_isTrue_BoolOp]
  show wpI _ _ (isTrue x env (eval x env) >>= fun b => _) Q s
  refine wpI_bind (wpI_mono h fun b s' hb => ?_)
  obtain ⟨rfl, hb⟩ := hb
  show wpI _ _ (isTrue y env (eval y env) >>= fun b => _) Q s'
  refine wpI_bind (wpI_mono hb fun b s₂ h₂ => ?_)
  cases b
  · exact wpI_pure h₂
  · exact wpI_pure h₂
theorem isTrue_Compare_I {l r : Expr} {op : CmpOp} {pos : Pos} {whole : Sem Value} {Q : Bool → Shared → Prop}
    (h : wpI (model prog w) A (eval l env) (fun a s₁ => wpAny (model prog w) A (eval r env) (fun b s₂ => wpAny (model prog w) A (compareOp op a b)
      (fun c s₃ => wpAny (model prog w) A (truthy c) Q noE s₃) noE s₂) noE s₁) s)
    (hm : behindInMarks op r = false := by with_unfolding_all rfl) : wpI (model prog w) A (isTrue (.Compare l [op] [r] pos) env whole) Q s := fun Γ p hΓ hn hc => by
  simp only [isTrue_Compare1, markedBehindIn_of_false hm, Sem.wp_bind', Sem.wp_holding, Sem.wp_cmd_standAt, Sem.wp_operate]
  exact Sem.wp_mono _ Γ _ (fun a p₁ s₁ h₁ => Sem.wp_mono _ Γ _ (fun b _ s₂ h₂ => Sem.wp_mono _ Γ _ (fun c p₃ s₃ h₃ => h₃ Γ p₃ hΓ)
    (fun _ _ _ h' => h') _ _ (h₂ Γ _ hΓ)) (fun _ _ _ h' => h') _ _ (h₁ Γ p₁ hΓ)) (fun _ _ _ h' => h') _ _ (h Γ p hΓ hn hc)
theorem callWith_type1_I {T : String} {e : Expr} {pos : Pos} {Q : Value → Shared → Prop}
    (h : wpI (model prog w) A (eval e env) (fun v s₁ => wpI (model prog w) A (call (.type T) [v]) Q s₁) s)
    (he : backTo pos (starEach [e] env) = [(false, eval e env)] := by rfl) :
    wpI (model prog w) A (callWith pos (.type T) [] (backTo pos (starEach [e] env)) []) Q s := by
  rw [he]
  exact callWith_type_I (args := [(false, eval e env)]) rfl (evalArgs_one_I h)
end
end Mine
end
section
open PySem PySem.W PyProof.Rows
namespace Mine
theorem codeF_app {pre ft rest : List Int} {fo co le d : Int} (hl : ft.length = fo.toNat) (h0 : 0 ≤ fo) (hf : foldC ft co = some d) (hd : ¬ (d < le ∨ d > 1114111)) :
    codeF (pre ++ (ft ++ rest)) pre.length fo co le = some d := by
  unfold codeF
  rw [if_neg (by simp only [List.length_append]; omega), List.drop_left, ← hl, List.take_left, hf, Option.bind_some, if_neg hd]
theorem readF_app {pre ft rest : List Int} {o fo co le d : Int} (hL : leadF o = some (fo, co, le)) (hl : ft.length = fo.toNat) (h0 : 0 ≤ fo) (hf : foldC ft co = some d) (hd : ¬ (d < le ∨ d > 1114111)) :
    readF (pre ++ (o :: ft ++ rest)) pre.length = some (d, fo.toNat) := by
  have e1 : (pre ++ (o :: ft ++ rest))[pre.length]? = some o := by simp
  have e2 : codeF (pre ++ (o :: ft ++ rest)) (pre.length + 1) fo co le = some d := by
    have := codeF_app (pre := pre ++ [o]) (rest := rest) hl h0 hf hd
    simpa using this
  unfold readF
  rw [e1]
  simp only [hL, e2, Option.map_some]
theorem readF_enc {pre rest : List Int} {c : Int} (h0 : 0 ≤ c) (h1 : c ≤ 1114111) : ∃ k, (encF c).length = 1 + k ∧ readF (pre ++ (encF c ++ rest)) pre.length = some (c, k) := by
  unfold encF
  split
  · refine ⟨0, rfl, ?_⟩
    exact readF_app (ft := []) (fo := 0) (co := c) (le := 0) (by unfold leadF; rw [if_pos (by assumption)]) rfl (by decide) rfl (by omega)
  · split
    · refine ⟨1, rfl, ?_⟩
      refine readF_app (ft := [_]) (fo := 1) (co := (192 + c / 64) % 32) (le := 128) (by unfold leadF; rw [if_neg (by omega), if_pos (by omega)]) rfl (by decide) ?_ (by omega)
      simp only [foldC]; rw [if_pos (by omega)]; congr 1; omega
    · split
      · refine ⟨2, rfl, ?_⟩
        refine readF_app (ft := [_, _]) (fo := 2) (co := (224 + c / 4096) % 16) (le := 2048) (by unfold leadF; rw [if_neg (by omega), if_neg (by omega), if_pos (by omega)]) rfl (by decide) ?_ (by omega)
        simp only [foldC]; rw [if_pos (by omega), if_pos (by omega)]; congr 1; omega
      · refine ⟨3, rfl, ?_⟩
        refine readF_app (ft := [_, _, _]) (fo := 3) (co := (240 + c / 262144) % 8) (le := 65536) (by unfold leadF; rw [if_neg (by omega), if_neg (by omega), if_neg (by omega), if_pos (by omega)]) rfl (by decide) ?_ (by omega)
        simp only [foldC]; rw [if_pos (by omega), if_pos (by omega), if_pos (by omega)]; congr 1; omega
theorem dec_enc_at : ∀ {cs pre : List Int}, (∀ c ∈ cs, 0 ≤ c ∧ c ≤ 1114111) → decAt (pre ++ cs.flatMap encF) pre.length = cs
  | [], pre, _ => decAt_end (by simp)
  | c :: cs, pre, h => by
    obtain ⟨k, hk, hr⟩ := readF_enc (pre := pre) (rest := cs.flatMap encF) (h c (.head _)).1 (h c (.head _)).2
    have ih := dec_enc_at (cs := cs) (pre := pre ++ encF c) fun d hd => h d (.tail _ hd)
    rw [List.flatMap_cons, decAt_good (by simp only [List.length_append]; omega) hr]
    rw [List.append_assoc, List.length_append, hk, ← Nat.add_assoc] at ih
    rw [ih]
theorem dec_enc {cs : List Int} (h : ∀ c ∈ cs, 0 ≤ c ∧ c ≤ 1114111) : decAt (cs.flatMap encF) 0 = cs := dec_enc_at (pre := []) h
def hex2 (o : Int) : Str := sgn (figD (o / 16)) ++ sgn (figD (o % 16))
theorem txt_append (a b : List Int) : KStt.txt (a ++ b) = KStt.txt a ++ KStt.txt b := by
  refine PySem.Str.ext' (Array.toList_inj.mp ?_)
  rw [PySem.Str.cps_append, Array.toList_append]
  show (a ++ b).map Int.toNat = a.map Int.toNat ++ b.map Int.toNat
  rw [List.map_append]
theorem join_txts : ∀ ls : List (List Int), PySem.Str.join PySem.Str.empty (ls.map KStt.txt) = KStt.txt ls.flatten
  | [] => rfl
  | [a] => by simp [PySem.Str.join]
  | a :: b :: r => by
    have ih := join_txts (b :: r)
    show KStt.txt a ++ PySem.Str.empty ++ PySem.Str.join PySem.Str.empty ((b :: r).map KStt.txt) = _
    rw [ih, PySem.Str.append_empty, List.flatten_cons (l := a), txt_append]
theorem join_txt (ls : List (List Int)) : PySem.Txt.join (PySem.Str.ofString "") (ls.map KStt.txt) = KStt.txt ls.flatten := by
  show Builtin.Str.glued (PySem.Str.ofString "") (ls.map KStt.txt) = _
  rw [StrLaws.glued_eq_join]
  have e2 : PySem.Str.ofString "" = PySem.Str.empty := by decide +kernel
  rw [e2]
  exact join_txts ls
theorem hex2_txt (o : Int) : hex2 o = KStt.txt [figD (o / 16), figD (o % 16)] := rfl
theorem join_hex (os : List Int) : PySem.Txt.join (PySem.Str.ofString "") (os.map hex2) = hexS os := by
  have e : os.map hex2 = (os.map fun o => [figD (o / 16), figD (o % 16)]).map KStt.txt := by rw [List.map_map]; rfl
  rw [e, join_txt]
  rfl
section
variable {prog : Program} {w : World} {A : Around} {E : Value → Shared → Prop} {s : Shared} {t : Tok} {h₀ : Heap} {L : Addr} {news : List (Addr × Obj)}
theorem join_hex2 {D : Addr} {ys : List Value} {os : List Int} {Q : Value → Shared → Prop} (N : News h₀ L s.heap news) (hm : (D, LCg.lst ys) ∈ news) (hS : StrsAre ys (os.map hex2)) (hn : os.length ≤ 1048576)
    (h : ∀ t' k, Q (.str (hexS os) t') { s with toks := k }) : wpAny (model prog w) A (call (.builtin "str.join") [.str (PySem.Str.ofString "") t, .ref D]) Q E s := by
  refine KT.join_B (l := os) (g := hex2) 2 ⟨_, (N _ hm).1, rfl, _, rfl⟩ ?_ (fun _ _ => Nat.le_refl _) hn (by decide) fun t' k => ?_
  · have := StrsAre.carried hS
    rwa [List.map_map] at this
  · rw [join_hex]; exact h t' k
end
end Mine
end
section
open PySem PySem.W PySem.Spec PySem.Calls PyProof.Rows PyProof.V
open PySem.Sem (wp)
namespace Mine
def JS {σ : Type} (Led : σ → Led) (ps : List (Str × Value)) (Facts : σ → Prop) (m : Str → Option Value) (nx : Mine.Led) : Prop := ∃ c, nx = Led c ∧ Facts c ∧ ∀ p ∈ ps, m p.1 = some p.2
section
variable {prog : Program} {w : World} {A : Around} {s : Shared} {env : Env} {h₀ : Heap} {x : PySem.Str} {px : Pos} {body : List Stmt} {Q : Flow → Shared → Prop}
theorem JS.end {σ : Type} {Led : σ → Led} {ps : List (Str × Value)} {Facts : σ → Prop} (c : σ) {L : Addr} {m' : Str → Option Value} {own news' : List (Addr × Obj)} {adr : List Addr} {s₁ : Shared} {h' : Heap} {tk : Nat}
    (F : Fr h₀ L h' m') (N : News h₀ L h' news') (hn : ∀ p ∈ Led c, p ∈ news') (ho : ∀ p ∈ own, p ∈ news') (ha : (Led c).map (·.1) = adr) (hf : Facts c) (hk : ∀ p ∈ ps, m' p.1 = some p.2) :
    InvEndN h₀ L (JS Led ps Facts) own adr s₁ { s₁ with heap := h', toks := tk } :=
  InvEndN.intro F N ⟨c, rfl, hf, hk⟩ ha hn ho
theorem range_J {σ : Type} {r : Addr} {b₀ : Int} {t₀ u₀ v₀ : Tok} {n : Nat} {m₀ : Str → Option Value} (Led : σ → Led) (ps : List (Str × Value)) (Facts : σ → Prop) (c₀ : σ)
    (hx : env.kindOf x = some .local) (hpm : (env.scope.kind == .class || (env.scope.kind == .module && env.locals != env.globals)) = false)
    (hh : A.handled = none) (hr : IsRange s.heap r 0 b₀ 1 t₀ u₀ v₀) (hsmall : Builtin.Range.small 0 b₀ 1 = true) (hn : Builtin.Range.rangeSize 0 b₀ 1 = (n : Int)) (F : Fr h₀ env.locals s.heap m₀) (N : News h₀ env.locals s.heap (Led c₀)) (hf : Facts c₀) (hk : ∀ p ∈ ps, m₀ p.1 = some p.2)
    (turn : ∀ (c : σ) (k : Nat) t (u : Str → Option Value) h tk own, k < n → OwnOff own ((Led c₀).map (·.1)) → Facts c →
      Fr h₀ env.locals h (fun y => if y = x then some (.int k t) else kstB u ps y) → News h₀ env.locals h (Led c ++ own) →
      wpI (model prog w) A (execs body env) (InvPostN h₀ env.locals (JS Led ps Facts) own ((Led c₀).map (·.1)) { s with heap := h, toks := tk } Q) { s with heap := h, toks := tk })
    (done : ∀ (c : σ) (u : Str → Option Value) h tk, Facts c → Fr h₀ env.locals h (kstB u ps) → News h₀ env.locals h (Led c) → Q .next { s with heap := h, toks := tk }) :
    wpAny (model prog w) A (pyIter (.ref r)) (fun it s₂ => cdI (model prog w) A (.forLoop (.Name x px) it body [] env) Q s₂) noE s := by
  refine wpAny_pyIter_range hr hsmall ?_
  have W : Walks prog w A s.heap.objs.size [s.heap.objs.size] [s.heap.objs.size] n (fun i v => i < n ∧ ∃ t, v = .int (0 + i * 1) t)
      (fun i h => IsRangeIter h s.heap.objs.size (0 + (i : Nat) * 1) ((n : Int) - (i : Nat)) 1) := (Walks.range hh _ 0 1 n).bound
  refine forLoop_I (fun i m nx => JS Led ps Facts m nx) hx hpm W ?_ ?_ ?_ ?_ (by show IsRangeIter _ _ _ _ _; rw [hn]; simpa using Heap.get?_push_size _ rfl) (F.push _) (fun p hp => ⟨Heap.get?_push_of_some _ (N p hp).1, (N p hp).2⟩) ⟨c₀, rfl, hf, hk⟩ ?_ ?_
  · intro hm
    exact absurd F.ns.lt ((List.mem_singleton.mp hm) ▸ Nat.lt_irrefl _)
  · intro b hb
    rw [List.mem_singleton.mp hb]
    exact next_is_new F
  · intro p hp hI
    exact absurd (Heap.lt_size (N p hp).1) ((List.mem_singleton.mp hI) ▸ Nat.lt_irrefl _)
  · intro p hp hI
    exact absurd (Heap.lt_size (N p hp).1) ((List.mem_singleton.mp hI) ▸ Nat.lt_irrefl _)
  · rintro i v m₁ nx h tk own hi ⟨_, t, rfl⟩ _ hoff ⟨c, rfl, hf', h1⟩ F₁ N₁
    have e1 : (0 : Int) + (i : Int) * 1 = (i : Int) := by omega
    rw [e1] at F₁
    refine turn c i t m₁ h tk own hi hoff hf' ?_ N₁
    rw [kstB_same h1]
    exact F₁
  · rintro m₁ nx h tk ⟨c, rfl, hf', h1⟩ F₁ N₁
    refine done c m₁ h tk hf' ?_ N₁
    rw [kstB_same h1]
    exact F₁
end
end Mine
end
section
open PySem PySem.W PyProof.Rows PyProof.Rows.LCg
namespace Mine
theorem top3 (a : Int) : 1 ≤ (if (if 3 < a then (3 : Int) else a) > 1 then (if 3 < a then (3 : Int) else a) else 1) ∧ (if (if 3 < a then (3 : Int) else a) > 1 then (if 3 < a then (3 : Int) else a) else 1) ≤ 3 := by
  constructor <;> (repeat' split) <;> omega
theorem enc_range {c : Int} (h0 : 0 ≤ c) (h1 : c ≤ 1114111) : ∀ o ∈ encF c, 0 ≤ o ∧ o < 256 := by
  intro o ho
  unfold encF at ho
  (repeat' split at ho) <;> simp only [List.mem_cons, List.not_mem_nil, or_false] at ho <;> omega
theorem encs_range {cs : List Int} (h : ∀ c ∈ cs, 0 ≤ c ∧ c ≤ 1114111) : ∀ o ∈ cs.flatMap encF, 0 ≤ o ∧ o < 256 := by
  intro o ho
  obtain ⟨c, hc, ho⟩ := List.mem_flatMap.mp ho
  exact enc_range (h c hc).1 (h c hc).2 o ho
theorem bneS {x : Str} (h : (x != x) = true) : False := by simp at h
theorem law_I (w : World) (l : Addr) (vs : List Value) (ns : List Int) (hv : IntsAre vs ns) (hlen : ns.length ≤ 63) {loose : List Str} {mean : ExcName → Option Value} {mg mb : Str → Option Value} (s : Shared) (Q : Value → Shared → Prop)
    (X : (Mine.hd.heap_39 w.params).In s.heap) (T : Top Mine.hd.view_39 loose mean mg mb s.heap) (hl : s.heap.IsList l vs.toArray)
    (hret : ∀ L' m' h' tk', Fr s.heap L' h' m' → Q (.bool true) { s with heap := h', toks := tk' }) :
    wpI (model PySem.Challenge.rw_nt0091_01.row.prog w) callerA (call (.ref 127) [.ref l]) Q s := by
  revert X; k_fill
  intro X
  refine wpI_call ?_
  have B := below_caller s.heap
  k_dflt (refine' callTop_I (binds := [(Str.ofString "script", Value.ref l)]) X T ?k6 ?k7 ?k8 ?k9 ?kB ?kD ?_ ?c2 ?c3 ?c4; (case k6 => k_is); (case k7 => k_is); (case k8 => decide); (case k9 => exact BindsTo.of_eq rfl); (case kB => exact rfl); (case kD => decide +kernel); (case c2 => exact rfl); (case c3 => exact rfl); (case c4 => exact rfl); k_whole; intro L' h' tk' cells' F' N' Y'; k_cells Y'; (try simp only [List.cons_append, List.nil_append] at N'); (try dsimp only))
  have F2 : Fr s.heap L' h' (fun y => if y = Str.ofString "script" then some (.ref l) else none) := by with_unfolding_all exact F'
  clear F'
  rename_i o1 o2 d1 d2
  have hvl := hv.length
  refine wpI_execs_cons (wpI_For ?_ ?_)
  rotate_left
  · intro _; rfl
  (repeat' (first | (k_unfold; (try dsimp only)) | ((fail_if_success (with_reducible show wpAny _ _ (pyIter _) _ _ _)); (fail_if_success (with_reducible show InvEndN _ _ _ _ _ _ _)); (fail_if_success (with_reducible show wpAny _ _ (call (Value.ref _) _) _ _ _)); (fail_if_success (with_reducible show wpAny _ _ (exec (Stmt.For (Expr.Name _ _) _ _ _ _) _) _ _ _)); (fail_if_success (with_reducible show wpAny _ _ (exec (Stmt.Assign _ (Expr.ListComp _ _ _ _) _) _) _ _ _)); (fail_if_success (with_reducible show wpAny _ _ (eval (Expr.ListComp _ _ _ _) _) _ _ _)); (fail_if_success (with_reducible show LCg.CompSrc _ _ _ _ _ _ _ _ _ _ _ _ _ _)); (fail_if_success (with_reducible show SrcS _ _ _ _ _ _ _ _ _ _ _ _ _ _)); (fail_if_success (with_reducible show wpAny _ _ (exec (Stmt.For (Expr.Tuple _ _ _) _ _ _ _) _) _ _ _)); (fail_if_success (with_reducible show KswEnd _ _ _ _ _ _ _ _ _ _ _ _)); (fail_if_success (with_reducible show wpAny _ _ (exec (Stmt.While _ _ _ _) _) _ _ _)); first | ((k_here; (with_reducible show wpAny _ _ (subscriptTail _ _ (Value.str _ _) (Value.int _ _)) _ _ _); (refine item_hex ?p0 ?_; (case p0 => first | omega | (rw [fd (by decide)]; omega) | (rw [fm (by decide)]; omega))))) | (((with_reducible show wpAny _ _ (call (Value.builtin "str.join") _) _ _ _); (k_here; (refine join_hex2 (by assumption) (.head _) (by with_reducible assumption) (by omega) ?_); intro _ _; (try dsimp only)))) | (((with_reducible show wpAny _ _ (call (Value.builtin "str.join") _) _ _ _); (k_here; (refine join_sgn (by assumption) (by k_mem) (by assumption) (by omega) ?_); intro _ _; (try dsimp only)))) | walk1 | (dsimp only; walk1) | (leave1; (try dsimp only)))))
  (rename IsRange _ _ _ _ _ _ _ _ => rgX); (rename Fr _ _ _ _ => lF'); (rename News _ _ _ _ => lN')
  obtain ⟨ht1, ht3⟩ := top3 ns.length
  generalize (if (if 3 < (ns.length : Int) then (3 : Int) else ns.length) > 1 then (if 3 < (ns.length : Int) then (3 : Int) else ns.length) else 1) = top at rgX ht1 ht3
  with_unfolding_all refine' range_J (σ := Obj × Obj) (fun c => [(L' + 1 + 1, c.1), (L' + 1, c.2)]) [(Str.ofString "script", .ref l)] (fun c => (∃ v, c.1.data = .cell v) ∧ ∃ v, c.2.data = .cell v) (o1, o2) ?kx ?ky ?kh rgX (small_one (by omega) (by omega) (by omega) (by omega)) (rangeSize_nat _ _) lF' lN' ?kf ?kk ?_ ?_
  case kx => rfl
  case ky => rfl
  case kh => rfl
  case kf => exact ⟨⟨_, d1⟩, _, d2⟩
  case kk => kst_all
  all_goals (try clear lF' lN')
  · intro ⟨p1, p2⟩ kn tk1 u h tk own hlt hoff ⟨⟨v1, hp1⟩, v2, hp2⟩ F1 N1
    dsimp only [kstB] at F1 N1 hp1 hp2
    simp only [List.cons_append, List.nil_append] at N1
    have hk0 : (0 : Int) ≤ kn := by omega
    have hk3 : (kn : Int) < 3 := by omega
    clear hlt
    generalize (kn : Int) = k at F1 hk0 hk3
    have hf1o : ∀ p ∈ own, p.1 ≠ L' + 1 + 1 := fun p hp => hoff p hp _ (.head _)
    have hf2 : ∀ p ∈ own, p.1 ≠ L' + 1 := fun p hp => hoff p hp _ (.tail _ (.head _))
    have kMark := kstMark
    (try k_unmd); (try k_fold)
    refine wpI_cut (Mid1 s l L' own) ?_ ?_
    · (repeat' (first | (k_unfold; (try dsimp only)) | ((fail_if_success (with_reducible show wpAny _ _ (pyIter _) _ _ _)); (fail_if_success (with_reducible show InvEndN _ _ _ _ _ _ _)); (fail_if_success (with_reducible show wpAny _ _ (call (Value.ref _) _) _ _ _)); (fail_if_success (with_reducible show wpAny _ _ (exec (Stmt.For (Expr.Name _ _) _ _ _ _) _) _ _ _)); (fail_if_success (with_reducible show wpAny _ _ (exec (Stmt.Assign _ (Expr.ListComp _ _ _ _) _) _) _ _ _)); (fail_if_success (with_reducible show wpAny _ _ (eval (Expr.ListComp _ _ _ _) _) _ _ _)); (fail_if_success (with_reducible show LCg.CompSrc _ _ _ _ _ _ _ _ _ _ _ _ _ _)); (fail_if_success (with_reducible show SrcS _ _ _ _ _ _ _ _ _ _ _ _ _ _)); (fail_if_success (with_reducible show wpAny _ _ (exec (Stmt.For (Expr.Tuple _ _ _) _ _ _ _) _) _ _ _)); (fail_if_success (with_reducible show KswEnd _ _ _ _ _ _ _ _ _ _ _ _)); (fail_if_success (with_reducible show wpAny _ _ (exec (Stmt.While _ _ _ _) _) _ _ _)); first | ((k_here; (with_reducible show wpAny _ _ (subscriptTail _ _ (Value.str _ _) (Value.int _ _)) _ _ _); (refine item_hex ?p0 ?_; (case p0 => first | omega | (rw [fd (by decide)]; omega) | (rw [fm (by decide)]; omega))))) | (((with_reducible show wpAny _ _ (call (Value.builtin "str.join") _) _ _ _); (k_here; (refine join_hex2 (by assumption) (.head _) (by with_reducible assumption) (by omega) ?_); intro _ _; (try dsimp only)))) | (((with_reducible show wpAny _ _ (call (Value.builtin "str.join") _) _ _ _); (k_here; (refine join_sgn (by assumption) (by k_mem) (by assumption) (by omega) ?_); intro _ _; (try dsimp only)))) | walk1 | (dsimp only; walk1) | (leave1; (try dsimp only)))))
      k_dflt (refine' ClB.use (pool_cl w l vs ns k _ ((L' + 1 + 1, p1) :: (L' + 1, p2) :: own) hv hlen hk0 hk3) ?k1 ?k2 ?k3 ?k4 ?k5 ?kK ?kd ?ku ?kP ?_; (case k4 => k_asm); (case kP => exact hl); (((case k1 => k_asm); (case k2 => k_asm); (case k3 => k_asm); (case k5 => k_asm); (case kK => first | exact rfl | assumption); (case kd => ktr_room); (case ku => ktr_units); k_whole)))
      rintro _ _ h9 tk9 ⟨src, x, y, tx, ty, n, rfl, yl, yg, rfl, l9⟩ F9 N9
      (try dsimp only); (try k_fold)
      (repeat' (first | (k_unfold; (try dsimp only)) | ((fail_if_success (with_reducible show wpAny _ _ (pyIter _) _ _ _)); (fail_if_success (with_reducible show InvEndN _ _ _ _ _ _ _)); (fail_if_success (with_reducible show wpAny _ _ (call (Value.ref _) _) _ _ _)); (fail_if_success (with_reducible show wpAny _ _ (exec (Stmt.For (Expr.Name _ _) _ _ _ _) _) _ _ _)); (fail_if_success (with_reducible show wpAny _ _ (exec (Stmt.Assign _ (Expr.ListComp _ _ _ _) _) _) _ _ _)); (fail_if_success (with_reducible show wpAny _ _ (eval (Expr.ListComp _ _ _ _) _) _ _ _)); (fail_if_success (with_reducible show LCg.CompSrc _ _ _ _ _ _ _ _ _ _ _ _ _ _)); (fail_if_success (with_reducible show SrcS _ _ _ _ _ _ _ _ _ _ _ _ _ _)); (fail_if_success (with_reducible show wpAny _ _ (exec (Stmt.For (Expr.Tuple _ _ _) _ _ _ _) _) _ _ _)); (fail_if_success (with_reducible show KswEnd _ _ _ _ _ _ _ _ _ _ _ _)); (fail_if_success (with_reducible show wpAny _ _ (exec (Stmt.While _ _ _ _) _) _ _ _)); first | ((k_here; (with_reducible show wpAny _ _ (subscriptTail _ _ (Value.str _ _) (Value.int _ _)) _ _ _); (refine item_hex ?p0 ?_; (case p0 => first | omega | (rw [fd (by decide)]; omega) | (rw [fm (by decide)]; omega))))) | (((with_reducible show wpAny _ _ (call (Value.builtin "str.join") _) _ _ _); (k_here; (refine join_hex2 (by assumption) (.head _) (by with_reducible assumption) (by omega) ?_); intro _ _; (try dsimp only)))) | (((with_reducible show wpAny _ _ (call (Value.builtin "str.join") _) _ _ _); (k_here; (refine join_sgn (by assumption) (by k_mem) (by assumption) (by omega) ?_); intro _ _; (try dsimp only)))) | walk1 | (dsimp only; walk1) | (leave1; (try dsimp only)))))
      have e1 := ltN (l9 (L' + 1 + 1, p1) (.head _))
      have e2 := ltN (l9 (L' + 1, p2) (.tail _ (.head _)))
      dsimp only at e1 e2
      k_dflt (refine store_cell (c := L' + 1) (o := p2) (rest := (src, srcO x y tx ty n) :: (L' + 1 + 1, p1) :: own) F9 (news_of N9 (by kst_inAny)) ?_ (by rfl) hp2 ?_ (by rfl) (by rfl))
      · intro p hp
        rcases List.mem_cons.mp hp with rfl | hp
        · refine neN ?_; omega
        · rcases List.mem_cons.mp hp with rfl | hp
          · refine neN ?_; dsimp only; omega
          · exact hf2 p hp
      · intro h8 q2 F8 N8 hq2
        exact ⟨rfl, src, x, y, tx, ty, n, q2, p1, St.of F8 (by kst_all) (news_of N8 (by intro p hp; simp only [List.cons_append, List.nil_append, List.mem_cons] at hp ⊢; rcases hp with h | h | h | h <;> simp [h])), hq2, ⟨_, hp1⟩, yl, yg, fun p hp => Nat.ne_of_lt (l9 p (.tail _ (.tail _ hp))), by refine neN ?_; omega, by refine neN ?_; omega⟩
    rintro _ ⟨src, x, y, tx, ty, n, q2, p1, ⟨u, h, tk, rfl, F1, N1⟩, hq2, ⟨v1, hp1⟩, hy0, hy1, ho1, hs1, hs2⟩
    dsimp only [kstB] at F1 N1
    simp only [List.cons_append, List.nil_append] at N1
    have hne1 : ∀ p ∈ (L' + 1, q2) :: (L' + 1 + 1, p1) :: own, p.1 ≠ src := by
      intro p hp
      rcases List.mem_cons.mp hp with rfl | hp
      · exact hs1.symm
      · rcases List.mem_cons.mp hp with rfl | hp
        · exact hs2.symm
        · exact ho1 p hp
    refine wpI_cut (fun s' => ∃ cs, cs.length ≤ 4 ∧ (∀ c ∈ cs, 0 ≤ c ∧ c ≤ 1114111) ∧ Mid2 s l L' own cs s') ?_ ?_
    · k_dflt (refine Assign_ListComp_U (F₀ := by k_asm) (by rfl) (by rfl) (by with_unfolding_all rfl) (by decide) (by rfl) (by decide) (by rfl) (by rfl) (by rfl) ?_)
      (repeat' (first | (k_unfold; (try dsimp only)) | ((fail_if_success (with_reducible show wpAny _ _ (pyIter _) _ _ _)); (fail_if_success (with_reducible show InvEndN _ _ _ _ _ _ _)); (fail_if_success (with_reducible show wpAny _ _ (call (Value.ref _) _) _ _ _)); (fail_if_success (with_reducible show wpAny _ _ (exec (Stmt.For (Expr.Name _ _) _ _ _ _) _) _ _ _)); (fail_if_success (with_reducible show wpAny _ _ (exec (Stmt.Assign _ (Expr.ListComp _ _ _ _) _) _) _ _ _)); (fail_if_success (with_reducible show wpAny _ _ (eval (Expr.ListComp _ _ _ _) _) _ _ _)); (fail_if_success (with_reducible show LCg.CompSrc _ _ _ _ _ _ _ _ _ _ _ _ _ _)); (fail_if_success (with_reducible show SrcS _ _ _ _ _ _ _ _ _ _ _ _ _ _)); (fail_if_success (with_reducible show wpAny _ _ (exec (Stmt.For (Expr.Tuple _ _ _) _ _ _ _) _) _ _ _)); (fail_if_success (with_reducible show KswEnd _ _ _ _ _ _ _ _ _ _ _ _)); (fail_if_success (with_reducible show wpAny _ _ (exec (Stmt.While _ _ _ _) _) _ _ _)); first | ((k_here; (with_reducible show wpAny _ _ (subscriptTail _ _ (Value.str _ _) (Value.int _ _)) _ _ _); (refine item_hex ?p0 ?_; (case p0 => first | omega | (rw [fd (by decide)]; omega) | (rw [fm (by decide)]; omega))))) | (((with_reducible show wpAny _ _ (call (Value.builtin "str.join") _) _ _ _); (k_here; (refine join_hex2 (by assumption) (.head _) (by with_reducible assumption) (by omega) ?_); intro _ _; (try dsimp only)))) | (((with_reducible show wpAny _ _ (call (Value.builtin "str.join") _) _ _ _); (k_here; (refine join_sgn (by assumption) (by k_mem) (by assumption) (by omega) ?_); intro _ _; (try dsimp only)))) | walk1 | (dsimp only; walk1) | (leave1; (try dsimp only)))))
      k_dflt (refine' Cl.use (take_cl w src x y tx ty n 5 _ _ (by decide) (by decide) hy0 hy1 hne1) ?k1 ?k2 ?k3 ?k4 ?k5 ?kK ?kd ?ku ?_; (case k4 => k_asm); (((case k1 => k_asm); (case k2 => k_asm); (case k3 => k_asm); (case k5 => k_asm); (case kK => first | exact rfl | assumption); (case kd => ktr_room); (case ku => ktr_units); k_whole)))
      rintro _ _ h9 tk9 ⟨d, td, x2, y2, tx2, ty2, n2, rfl, hd0, hd5, hy20, hy21, rfl⟩ F9 N9
      (try dsimp only); (try k_fold)
      (repeat' (first | (k_unfold; (try dsimp only)) | ((fail_if_success (with_reducible show wpAny _ _ (pyIter _) _ _ _)); (fail_if_success (with_reducible show InvEndN _ _ _ _ _ _ _)); (fail_if_success (with_reducible show wpAny _ _ (call (Value.ref _) _) _ _ _)); (fail_if_success (with_reducible show wpAny _ _ (exec (Stmt.For (Expr.Name _ _) _ _ _ _) _) _ _ _)); (fail_if_success (with_reducible show wpAny _ _ (exec (Stmt.Assign _ (Expr.ListComp _ _ _ _) _) _) _ _ _)); (fail_if_success (with_reducible show wpAny _ _ (eval (Expr.ListComp _ _ _ _) _) _ _ _)); (fail_if_success (with_reducible show LCg.CompSrc _ _ _ _ _ _ _ _ _ _ _ _ _ _)); (fail_if_success (with_reducible show SrcS _ _ _ _ _ _ _ _ _ _ _ _ _ _)); (fail_if_success (with_reducible show wpAny _ _ (exec (Stmt.For (Expr.Tuple _ _ _) _ _ _ _) _) _ _ _)); (fail_if_success (with_reducible show KswEnd _ _ _ _ _ _ _ _ _ _ _ _)); (fail_if_success (with_reducible show wpAny _ _ (exec (Stmt.While _ _ _ _) _) _ _ _)); first | ((k_here; (with_reducible show wpAny _ _ (subscriptTail _ _ (Value.str _ _) (Value.int _ _)) _ _ _); (refine item_hex ?p0 ?_; (case p0 => first | omega | (rw [fd (by decide)]; omega) | (rw [fm (by decide)]; omega))))) | (((with_reducible show wpAny _ _ (call (Value.builtin "str.join") _) _ _ _); (k_here; (refine join_hex2 (by assumption) (.head _) (by with_reducible assumption) (by omega) ?_); intro _ _; (try dsimp only)))) | (((with_reducible show wpAny _ _ (call (Value.builtin "str.join") _) _ _ _); (k_here; (refine join_sgn (by assumption) (by k_mem) (by assumption) (by omega) ?_); intro _ _; (try dsimp only)))) | walk1 | (dsimp only; walk1) | (leave1; (try dsimp only)))))
      (rename Fr _ _ _ _ => lF'); (rename News _ _ _ _ => lN'); (rename IsRange _ _ _ _ _ _ _ _ => rgY)
      with_unfolding_all refine CompSrc.range (n := _) (by rfl) lF' lN' rgY (by first | exact small_one (by omega) (by omega) (by omega) (by omega) | decide) (by first | exact rangeSize_nat _ _ | rfl) ?_ (fun g => ?_)
      · rw [sizeLine_eq]; omega
      with_unfolding_all refine cst_rest (σ := Int × Int × Tok × Tok × Nat) (fun c => (src, srcO c.1 c.2.1 c.2.2.1 c.2.2.2.1 c.2.2.2.2) :: (L' + 1, q2) :: (L' + 1 + 1, p1) :: own) (fun i c ys => 0 ≤ c.2.1 ∧ c.2.1 < 2147483648 ∧ ∃ ns, IntsAre ys ns ∧ ns.length = i ∧ ∀ o ∈ ns, 0 ≤ o ∧ o ≤ 1114111) (_, _, _, _, _) ?_ ?_ ?_
      · exact ⟨by assumption, by assumption, [], .nil, rfl, by simp⟩
      · clear lF' lN'
        intro i ⟨x1, y1, tx1, ty1, n1⟩ v I oI C oC D m₂ ys h tk E' hi ⟨tv, hv⟩ ⟨hz0, hz1, ns, hns, hln, hrn⟩ hC hx F1 N1 off ne mk
        subst hv
        dsimp only at N1 hz0 hz1
        have o1 : I ≠ src := Ne.symm off.1.1
        have o2 : C ≠ src := Ne.symm off.1.2.1
        have o3 : D ≠ src := Ne.symm off.1.2.2
        (repeat' (first | (k_unfold; (try dsimp only)) | ((fail_if_success (with_reducible show wpAny _ _ (pyIter _) _ _ _)); (fail_if_success (with_reducible show InvEndN _ _ _ _ _ _ _)); (fail_if_success (with_reducible show wpAny _ _ (call (Value.ref _) _) _ _ _)); (fail_if_success (with_reducible show wpAny _ _ (exec (Stmt.For (Expr.Name _ _) _ _ _ _) _) _ _ _)); (fail_if_success (with_reducible show wpAny _ _ (exec (Stmt.Assign _ (Expr.ListComp _ _ _ _) _) _) _ _ _)); (fail_if_success (with_reducible show wpAny _ _ (eval (Expr.ListComp _ _ _ _) _) _ _ _)); (fail_if_success (with_reducible show LCg.CompSrc _ _ _ _ _ _ _ _ _ _ _ _ _ _)); (fail_if_success (with_reducible show SrcS _ _ _ _ _ _ _ _ _ _ _ _ _ _)); (fail_if_success (with_reducible show wpAny _ _ (exec (Stmt.For (Expr.Tuple _ _ _) _ _ _ _) _) _ _ _)); (fail_if_success (with_reducible show KswEnd _ _ _ _ _ _ _ _ _ _ _ _)); (fail_if_success (with_reducible show wpAny _ _ (exec (Stmt.While _ _ _ _) _) _ _ _)); first | ((k_here; (with_reducible show wpAny _ _ (subscriptTail _ _ (Value.str _ _) (Value.int _ _)) _ _ _); (refine item_hex ?p0 ?_; (case p0 => first | omega | (rw [fd (by decide)]; omega) | (rw [fm (by decide)]; omega))))) | (((with_reducible show wpAny _ _ (call (Value.builtin "str.join") _) _ _ _); (k_here; (refine join_hex2 (by assumption) (.head _) (by with_reducible assumption) (by omega) ?_); intro _ _; (try dsimp only)))) | (((with_reducible show wpAny _ _ (call (Value.builtin "str.join") _) _ _ _); (k_here; (refine join_sgn (by assumption) (by k_mem) (by assumption) (by omega) ?_); intro _ _; (try dsimp only)))) | walk1 | (dsimp only; walk1) | (leave1; (try dsimp only)))))
        k_dflt (refine' Cl.use (lcode_cl w src x1 y1 tx1 ty1 n1 ((I, oI) :: (C, oC) :: (D, lst ys) :: (L' + 1, q2) :: (L' + 1 + 1, p1) :: own) hz0 hz1 (cons_nn o1 (cons_nn o2 (cons_nn o3 hne1)))) ?k1 ?k2 ?k3 ?k4 ?k5 ?kK ?kd ?ku ?_; (case k4 => exact news_of (by k_asm) (by kst_inAny)); (((case k1 => k_asm); (case k2 => k_asm); (case k3 => k_asm); (case k5 => k_asm); (case kK => first | exact rfl | assumption); (case kd => ktr_room); (case ku => ktr_units); k_whole)))
        rintro _ _ h9 tk9 ⟨d9, td9, x9, y9, tx9, ty9, m9, rfl, l9, l9', yl9, yg9, rfl⟩ F9 N9
        (try dsimp only); (try k_fold)
        (repeat' (first | (k_unfold; (try dsimp only)) | ((fail_if_success (with_reducible show wpAny _ _ (pyIter _) _ _ _)); (fail_if_success (with_reducible show InvEndN _ _ _ _ _ _ _)); (fail_if_success (with_reducible show wpAny _ _ (call (Value.ref _) _) _ _ _)); (fail_if_success (with_reducible show wpAny _ _ (exec (Stmt.For (Expr.Name _ _) _ _ _ _) _) _ _ _)); (fail_if_success (with_reducible show wpAny _ _ (exec (Stmt.Assign _ (Expr.ListComp _ _ _ _) _) _) _ _ _)); (fail_if_success (with_reducible show wpAny _ _ (eval (Expr.ListComp _ _ _ _) _) _ _ _)); (fail_if_success (with_reducible show LCg.CompSrc _ _ _ _ _ _ _ _ _ _ _ _ _ _)); (fail_if_success (with_reducible show SrcS _ _ _ _ _ _ _ _ _ _ _ _ _ _)); (fail_if_success (with_reducible show wpAny _ _ (exec (Stmt.For (Expr.Tuple _ _ _) _ _ _ _) _) _ _ _)); (fail_if_success (with_reducible show KswEnd _ _ _ _ _ _ _ _ _ _ _ _)); (fail_if_success (with_reducible show wpAny _ _ (exec (Stmt.While _ _ _ _) _) _ _ _)); first | ((k_here; (with_reducible show wpAny _ _ (subscriptTail _ _ (Value.str _ _) (Value.int _ _)) _ _ _); (refine item_hex ?p0 ?_; (case p0 => first | omega | (rw [fd (by decide)]; omega) | (rw [fm (by decide)]; omega))))) | (((with_reducible show wpAny _ _ (call (Value.builtin "str.join") _) _ _ _); (k_here; (refine join_hex2 (by assumption) (.head _) (by with_reducible assumption) (by omega) ?_); intro _ _; (try dsimp only)))) | (((with_reducible show wpAny _ _ (call (Value.builtin "str.join") _) _ _ _); (k_here; (refine join_sgn (by assumption) (by k_mem) (by assumption) (by omega) ?_); intro _ _; (try dsimp only)))) | walk1 | (dsimp only; walk1) | (leave1; (try dsimp only)))))
        refine CompEnd.intro F9 N9 ((src, srcO x9 y9 tx9 ty9 m9) :: (L' + 1, q2) :: (L' + 1 + 1, p1) :: own) (by kst_inAny) off trivial ⟨(x9, y9, tx9, ty9, m9), rfl, yl9, yg9, ns ++ [d9], IntsAre.append hns (.cons d9 td9 .nil), by simp [hln], ?_⟩
        intro z hz
        rcases List.mem_append.mp hz with hz | hz
        · exact hrn z hz
        · rw [List.mem_singleton.mp hz]; exact ⟨l9, l9'⟩
      · intro ⟨x1, y1, tx1, ty1, n1⟩ ys ⟨hz0, hz1, ns, hns, hln, hrn⟩
        intro D h tk F1 N1 hoD
        dsimp only at N1 hz0 hz1 hoD
        exact ⟨rfl, ns, by omega, hrn, D, ys, _, src, x1, y1, tx1, ty1, n1, q2, p1, St.of F1 (by kst_all) N1, hns, hq2, ⟨_, hp1⟩, hz0, hz1, ho1, hs1, hs2, off1_all hoD.2.2.2, hoD.1.symm, hoD.2.1.symm, hoD.2.2.1.symm⟩
    rintro _ ⟨cs, hcl, hcr, ca, ys, nc, src, x, y, tx, ty, n, q2, p1, ⟨u, h, tk, rfl, F1, N1⟩, hys, hq2, ⟨v1, hp1⟩, hy0, hy1, ho1, hs1, hs2, hc1, hc2, hc3, hc4⟩
    dsimp only [kstB] at F1 N1
    simp only [List.cons_append, List.nil_append] at N1
    refine wpI_execs_any ?_
    (repeat' (first | (k_unfold; (try dsimp only)) | ((fail_if_success (with_reducible show wpAny _ _ (pyIter _) _ _ _)); (fail_if_success (with_reducible show InvEndN _ _ _ _ _ _ _)); (fail_if_success (with_reducible show wpAny _ _ (call (Value.ref _) _) _ _ _)); (fail_if_success (with_reducible show wpAny _ _ (exec (Stmt.For (Expr.Name _ _) _ _ _ _) _) _ _ _)); (fail_if_success (with_reducible show wpAny _ _ (exec (Stmt.Assign _ (Expr.ListComp _ _ _ _) _) _) _ _ _)); (fail_if_success (with_reducible show wpAny _ _ (eval (Expr.ListComp _ _ _ _) _) _ _ _)); (fail_if_success (with_reducible show LCg.CompSrc _ _ _ _ _ _ _ _ _ _ _ _ _ _)); (fail_if_success (with_reducible show SrcS _ _ _ _ _ _ _ _ _ _ _ _ _ _)); (fail_if_success (with_reducible show wpAny _ _ (exec (Stmt.For (Expr.Tuple _ _ _) _ _ _ _) _) _ _ _)); (fail_if_success (with_reducible show KswEnd _ _ _ _ _ _ _ _ _ _ _ _)); (fail_if_success (with_reducible show wpAny _ _ (exec (Stmt.While _ _ _ _) _) _ _ _)); first | ((k_here; (with_reducible show wpAny _ _ (subscriptTail _ _ (Value.str _ _) (Value.int _ _)) _ _ _); (refine item_hex ?p0 ?_; (case p0 => first | omega | (rw [fd (by decide)]; omega) | (rw [fm (by decide)]; omega))))) | (((with_reducible show wpAny _ _ (call (Value.builtin "str.join") _) _ _ _); (k_here; (refine join_hex2 (by assumption) (.head _) (by with_reducible assumption) (by omega) ?_); intro _ _; (try dsimp only)))) | (((with_reducible show wpAny _ _ (call (Value.builtin "str.join") _) _ _ _); (k_here; (refine join_sgn (by assumption) (by k_mem) (by assumption) (by omega) ?_); intro _ _; (try dsimp only)))) | walk1 | (dsimp only; walk1) | (leave1; (try dsimp only)))))
    rename_i oa _ lo _ F2 N2
    obtain ⟨lo1, lo2, lo3, lo4, lo5⟩ := lo
    have lo6 := allLt_own lo5
    refine wpI_cut (Mid3 s l L' own [] cs) ?_ ?_
    · k_dflt (refine For_invV s.heap (by rfl) (by rfl) ?_ (by intro _; rfl) PassesOwn.never)
      (repeat' (first | (k_unfold; (try dsimp only)) | ((fail_if_success (with_reducible show wpAny _ _ (pyIter _) _ _ _)); (fail_if_success (with_reducible show InvEndN _ _ _ _ _ _ _)); (fail_if_success (with_reducible show wpAny _ _ (call (Value.ref _) _) _ _ _)); (fail_if_success (with_reducible show wpAny _ _ (exec (Stmt.For (Expr.Name _ _) _ _ _ _) _) _ _ _)); (fail_if_success (with_reducible show wpAny _ _ (exec (Stmt.Assign _ (Expr.ListComp _ _ _ _) _) _) _ _ _)); (fail_if_success (with_reducible show wpAny _ _ (eval (Expr.ListComp _ _ _ _) _) _ _ _)); (fail_if_success (with_reducible show LCg.CompSrc _ _ _ _ _ _ _ _ _ _ _ _ _ _)); (fail_if_success (with_reducible show SrcS _ _ _ _ _ _ _ _ _ _ _ _ _ _)); (fail_if_success (with_reducible show wpAny _ _ (exec (Stmt.For (Expr.Tuple _ _ _) _ _ _ _) _) _ _ _)); (fail_if_success (with_reducible show KswEnd _ _ _ _ _ _ _ _ _ _ _ _)); (fail_if_success (with_reducible show wpAny _ _ (exec (Stmt.While _ _ _ _) _) _ _ _)); first | ((k_here; (with_reducible show wpAny _ _ (subscriptTail _ _ (Value.str _ _) (Value.int _ _)) _ _ _); (refine item_hex ?p0 ?_; (case p0 => first | omega | (rw [fd (by decide)]; omega) | (rw [fm (by decide)]; omega))))) | (((with_reducible show wpAny _ _ (call (Value.builtin "str.join") _) _ _ _); (k_here; (refine join_hex2 (by assumption) (.head _) (by with_reducible assumption) (by omega) ?_); intro _ _; (try dsimp only)))) | (((with_reducible show wpAny _ _ (call (Value.builtin "str.join") _) _ _ _); (k_here; (refine join_sgn (by assumption) (by k_mem) (by assumption) (by omega) ?_); intro _ _; (try dsimp only)))) | walk1 | (dsimp only; walk1) | (leave1; (try dsimp only)))))
      (rename Fr _ _ _ _ => lF'); (rename News _ _ _ _ => lN')
      with_unfolding_all refine' listV (σ := Addr × List Value × Nat) (nn := nc) (fun c => (c.1, W.listOf c.2.1.toArray c.2.2) :: (ca, W.listOf ys.toArray nc) :: (src, srcO x y tx ty n) :: (L' + 1, q2) :: (L' + 1 + 1, p1) :: own) (fun c => [(Str.ofString "octets", .ref c.1)]) (fun c => c.1 ≠ ca ∧ c.1 ≠ src ∧ c.1 ≠ L' + 1 ∧ c.1 ≠ L' + 1 + 1 ∧ ∀ p ∈ own, p.1 ≠ c.1) [] (fun pre c => IntsAre c.2.1 (pre.flatMap encF)) (oa, [], 0) (by rfl) ?hl hys lF' ?kn ?kf ?kk ?kp ?_ ?_
      case hl => intro _; exact .tail _ (.head _)
      case kn => exact lN'
      case kf => exact ⟨neN (Nat.ne_of_gt lo1), neN (Nat.ne_of_gt lo2), neN (Nat.ne_of_gt lo3), neN (Nat.ne_of_gt lo4), lo6⟩
      case kk => kst_all
      case kp => exact .nil
      all_goals (try clear lF' lN')
      · intro ⟨oa1, vo, no⟩ pre post c t u h tk I oI hns hnm hnI ⟨hf1, hf2, hf3, hf4, hf5⟩ hP F1 N1
        dsimp only [kstB] at F1 N1 hP hf1 hf2 hf3 hf4 hf5
        have hcc := hcr c hnm
        have hlp : (pre.flatMap encF).length ≤ 16 := by
          have h1 := utf_len pre
          have h2 : cs.length = pre.length + (post.length + 1) := by rw [hns]; simp
          omega
        have hle : (encF c).length ≤ 4 := by unfold encF; (repeat' split) <;> simp
        (try k_unmd); (try k_fold)
        (repeat' (first | (k_unfold; (try dsimp only)) | ((fail_if_success (with_reducible show wpAny _ _ (pyIter _) _ _ _)); (fail_if_success (with_reducible show InvEndN _ _ _ _ _ _ _)); (fail_if_success (with_reducible show wpAny _ _ (call (Value.ref _) _) _ _ _)); (fail_if_success (with_reducible show wpAny _ _ (exec (Stmt.For (Expr.Name _ _) _ _ _ _) _) _ _ _)); (fail_if_success (with_reducible show wpAny _ _ (exec (Stmt.Assign _ (Expr.ListComp _ _ _ _) _) _) _ _ _)); (fail_if_success (with_reducible show wpAny _ _ (eval (Expr.ListComp _ _ _ _) _) _ _ _)); (fail_if_success (with_reducible show LCg.CompSrc _ _ _ _ _ _ _ _ _ _ _ _ _ _)); (fail_if_success (with_reducible show SrcS _ _ _ _ _ _ _ _ _ _ _ _ _ _)); (fail_if_success (with_reducible show wpAny _ _ (exec (Stmt.For (Expr.Tuple _ _ _) _ _ _ _) _) _ _ _)); (fail_if_success (with_reducible show KswEnd _ _ _ _ _ _ _ _ _ _ _ _)); (fail_if_success (with_reducible show wpAny _ _ (exec (Stmt.While _ _ _ _) _) _ _ _)); first | ((k_here; (with_reducible show wpAny _ _ (subscriptTail _ _ (Value.str _ _) (Value.int _ _)) _ _ _); (refine item_hex ?p0 ?_; (case p0 => first | omega | (rw [fd (by decide)]; omega) | (rw [fm (by decide)]; omega))))) | (((with_reducible show wpAny _ _ (call (Value.builtin "str.join") _) _ _ _); (k_here; (refine join_hex2 (by assumption) (.head _) (by with_reducible assumption) (by omega) ?_); intro _ _; (try dsimp only)))) | (((with_reducible show wpAny _ _ (call (Value.builtin "str.join") _) _ _ _); (k_here; (refine join_sgn (by assumption) (by k_mem) (by assumption) (by omega) ?_); intro _ _; (try dsimp only)))) | walk1 | (dsimp only; walk1) | (leave1; (try dsimp only)))))
        k_dflt (refine' Cl.use (oct_cl w c _ _ hcc.1 hcc.2) ?k1 ?k2 ?k3 ?k4 ?k5 ?kK ?kd ?ku ?_; (case k4 => k_asm); (((case k1 => k_asm); (case k2 => k_asm); (case k3 => k_asm); (case k5 => k_asm); (case kK => first | exact rfl | assumption); (case kd => ktr_room); (case ku => ktr_units); k_whole)))
        rintro _ _ h9 tk9 ⟨ad, vs9, n9, rfl, hi9, rfl, l9⟩ F9 N9
        (try dsimp only); (try k_fold)
        (repeat' (first | (k_unfold; (try dsimp only)) | ((fail_if_success (with_reducible show wpAny _ _ (pyIter _) _ _ _)); (fail_if_success (with_reducible show InvEndN _ _ _ _ _ _ _)); (fail_if_success (with_reducible show wpAny _ _ (call (Value.ref _) _) _ _ _)); (fail_if_success (with_reducible show wpAny _ _ (exec (Stmt.For (Expr.Name _ _) _ _ _ _) _) _ _ _)); (fail_if_success (with_reducible show wpAny _ _ (exec (Stmt.Assign _ (Expr.ListComp _ _ _ _) _) _) _ _ _)); (fail_if_success (with_reducible show wpAny _ _ (eval (Expr.ListComp _ _ _ _) _) _ _ _)); (fail_if_success (with_reducible show LCg.CompSrc _ _ _ _ _ _ _ _ _ _ _ _ _ _)); (fail_if_success (with_reducible show SrcS _ _ _ _ _ _ _ _ _ _ _ _ _ _)); (fail_if_success (with_reducible show wpAny _ _ (exec (Stmt.For (Expr.Tuple _ _ _) _ _ _ _) _) _ _ _)); (fail_if_success (with_reducible show KswEnd _ _ _ _ _ _ _ _ _ _ _ _)); (fail_if_success (with_reducible show wpAny _ _ (exec (Stmt.While _ _ _ _) _) _ _ _)); first | ((k_here; (with_reducible show wpAny _ _ (subscriptTail _ _ (Value.str _ _) (Value.int _ _)) _ _ _); (refine item_hex ?p0 ?_; (case p0 => first | omega | (rw [fd (by decide)]; omega) | (rw [fm (by decide)]; omega))))) | (((with_reducible show wpAny _ _ (call (Value.builtin "str.join") _) _ _ _); (k_here; (refine join_hex2 (by assumption) (.head _) (by with_reducible assumption) (by omega) ?_); intro _ _; (try dsimp only)))) | (((with_reducible show wpAny _ _ (call (Value.builtin "str.join") _) _ _ _); (k_here; (refine join_sgn (by assumption) (by k_mem) (by assumption) (by omega) ?_); intro _ _; (try dsimp only)))) | walk1 | (dsimp only; walk1) | (leave1; (try dsimp only)))))
        rename_i D9 ws9 _ hI9 lD _ F8 N8
        obtain ⟨lD1, lD2, lD3, lD4, lD5, lD6, lD7, lD8⟩ := lD
        with_unfolding_all refine ⟨(D9, ws9, 0), _, _, _, rfl, F8, news_of N8 ?n1, ?n2, ⟨neN (Nat.ne_of_gt lD4), neN (Nat.ne_of_gt lD5), neN (Nat.ne_of_gt lD6), neN (Nat.ne_of_gt lD7), allLt_own lD8⟩, ?n3, ?n4, ?n5⟩
        case n1 => dsimp only; kst_inAny
        case n2 =>
          intro p hp
          rcases List.mem_cons.mp hp with rfl | hp
          · exact neN (Nat.ne_of_gt lD2)
          · exact hnI p (.tail _ hp)
        case n3 => kst_all
        case n4 => kst_same
        case n5 => dsimp only; rw [List.flatMap_append]; simpa using hI9
      · intro ⟨oa1, vo, no⟩ u h tk ⟨hf1, hf2, hf3, hf4, hf5⟩ hP F1 N1
        dsimp only [kstB] at F1 N1 hP hf1 hf2 hf3 hf4 hf5
        exact ⟨rfl, oa1, vo, no, ca, ys, nc, src, x, y, tx, ty, n, q2, p1, St.of F1 (by kst_all) N1, hP, hys, hq2, ⟨_, hp1⟩, hy0, hy1, ho1, hs1, hs2, hc1, hc2, hc3, hc4, hf5, hf1, hf2, hf3, hf4⟩
    rintro _ ⟨oa, vo, no, ca, ys, nc, src, x, y, tx, ty, n, q2, p1, ⟨u, h, tk, rfl, F1, N1⟩, hvo, hys, hq2, ⟨v1, hp1⟩, hNB⟩
    simp only [List.nil_append] at F1
    dsimp only [kstB] at F1 N1
    simp only [List.cons_append, List.nil_append] at N1
    refine wpI_cut (fun s' => ∃ t, Mid3 s l L' own [(Str.ofString "text", .str (KStt.txt cs) t)] cs s') ?_ ?_
    · (try k_fold)
      (repeat' (first | (k_unfold; (try dsimp only)) | ((fail_if_success (with_reducible show wpAny _ _ (pyIter _) _ _ _)); (fail_if_success (with_reducible show InvEndN _ _ _ _ _ _ _)); (fail_if_success (with_reducible show wpAny _ _ (call (Value.ref _) _) _ _ _)); (fail_if_success (with_reducible show wpAny _ _ (exec (Stmt.For (Expr.Name _ _) _ _ _ _) _) _ _ _)); (fail_if_success (with_reducible show wpAny _ _ (exec (Stmt.Assign _ (Expr.ListComp _ _ _ _) _) _) _ _ _)); (fail_if_success (with_reducible show wpAny _ _ (eval (Expr.ListComp _ _ _ _) _) _ _ _)); (fail_if_success (with_reducible show LCg.CompSrc _ _ _ _ _ _ _ _ _ _ _ _ _ _)); (fail_if_success (with_reducible show SrcS _ _ _ _ _ _ _ _ _ _ _ _ _ _)); (fail_if_success (with_reducible show wpAny _ _ (exec (Stmt.For (Expr.Tuple _ _ _) _ _ _ _) _) _ _ _)); (fail_if_success (with_reducible show KswEnd _ _ _ _ _ _ _ _ _ _ _ _)); (fail_if_success (with_reducible show wpAny _ _ (exec (Stmt.While _ _ _ _) _) _ _ _)); first | ((k_here; (with_reducible show wpAny _ _ (subscriptTail _ _ (Value.str _ _) (Value.int _ _)) _ _ _); (refine item_hex ?p0 ?_; (case p0 => first | omega | (rw [fd (by decide)]; omega) | (rw [fm (by decide)]; omega))))) | (((with_reducible show wpAny _ _ (call (Value.builtin "str.join") _) _ _ _); (k_here; (refine join_hex2 (by assumption) (.head _) (by with_reducible assumption) (by omega) ?_); intro _ _; (try dsimp only)))) | (((with_reducible show wpAny _ _ (call (Value.builtin "str.join") _) _ _ _); (k_here; (refine join_sgn (by assumption) (by k_mem) (by assumption) (by omega) ?_); intro _ _; (try dsimp only)))) | walk1 | (dsimp only; walk1) | (leave1; (try dsimp only)))))
      k_dflt (refine LCg.ListComp_U (F₀ := by k_asm) (by with_unfolding_all rfl) (by decide) (by rfl) (by decide) (by rfl) ?_)
      (repeat' (first | (k_unfold; (try dsimp only)) | ((fail_if_success (with_reducible show wpAny _ _ (pyIter _) _ _ _)); (fail_if_success (with_reducible show InvEndN _ _ _ _ _ _ _)); (fail_if_success (with_reducible show wpAny _ _ (call (Value.ref _) _) _ _ _)); (fail_if_success (with_reducible show wpAny _ _ (exec (Stmt.For (Expr.Name _ _) _ _ _ _) _) _ _ _)); (fail_if_success (with_reducible show wpAny _ _ (exec (Stmt.Assign _ (Expr.ListComp _ _ _ _) _) _) _ _ _)); (fail_if_success (with_reducible show wpAny _ _ (eval (Expr.ListComp _ _ _ _) _) _ _ _)); (fail_if_success (with_reducible show LCg.CompSrc _ _ _ _ _ _ _ _ _ _ _ _ _ _)); (fail_if_success (with_reducible show SrcS _ _ _ _ _ _ _ _ _ _ _ _ _ _)); (fail_if_success (with_reducible show wpAny _ _ (exec (Stmt.For (Expr.Tuple _ _ _) _ _ _ _) _) _ _ _)); (fail_if_success (with_reducible show KswEnd _ _ _ _ _ _ _ _ _ _ _ _)); (fail_if_success (with_reducible show wpAny _ _ (exec (Stmt.While _ _ _ _) _) _ _ _)); first | ((k_here; (with_reducible show wpAny _ _ (subscriptTail _ _ (Value.str _ _) (Value.int _ _)) _ _ _); (refine item_hex ?p0 ?_; (case p0 => first | omega | (rw [fd (by decide)]; omega) | (rw [fm (by decide)]; omega))))) | (((with_reducible show wpAny _ _ (call (Value.builtin "str.join") _) _ _ _); (k_here; (refine join_hex2 (by assumption) (.head _) (by with_reducible assumption) (by omega) ?_); intro _ _; (try dsimp only)))) | (((with_reducible show wpAny _ _ (call (Value.builtin "str.join") _) _ _ _); (k_here; (refine join_sgn (by assumption) (by k_mem) (by assumption) (by omega) ?_); intro _ _; (try dsimp only)))) | walk1 | (dsimp only; walk1) | (leave1; (try dsimp only)))))
      with_unfolding_all refine CompSrc.ledger (k := nc) (by rfl) (by assumption) (by assumption) (.tail _ (.head _)) ?_ (fun g => lc_rest hys (srcAt_led (.tail _ (.head _))) (fun i ys => StrsAre ys ((cs.take i).map sgn)) .nil ?_ ?_)
      · simp [hys.length, sizeLine_eq]; omega
      · intro i c t I oI C oC D m₂ ws h tk E' hc hR hC hx F1 N1 off ne mk
        have hcc := hcr c (List.mem_of_getElem? hc)
        (repeat' (first | (k_unfold; (try dsimp only)) | ((fail_if_success (with_reducible show wpAny _ _ (pyIter _) _ _ _)); (fail_if_success (with_reducible show InvEndN _ _ _ _ _ _ _)); (fail_if_success (with_reducible show wpAny _ _ (call (Value.ref _) _) _ _ _)); (fail_if_success (with_reducible show wpAny _ _ (exec (Stmt.For (Expr.Name _ _) _ _ _ _) _) _ _ _)); (fail_if_success (with_reducible show wpAny _ _ (exec (Stmt.Assign _ (Expr.ListComp _ _ _ _) _) _) _ _ _)); (fail_if_success (with_reducible show wpAny _ _ (eval (Expr.ListComp _ _ _ _) _) _ _ _)); (fail_if_success (with_reducible show LCg.CompSrc _ _ _ _ _ _ _ _ _ _ _ _ _ _)); (fail_if_success (with_reducible show SrcS _ _ _ _ _ _ _ _ _ _ _ _ _ _)); (fail_if_success (with_reducible show wpAny _ _ (exec (Stmt.For (Expr.Tuple _ _ _) _ _ _ _) _) _ _ _)); (fail_if_success (with_reducible show KswEnd _ _ _ _ _ _ _ _ _ _ _ _)); (fail_if_success (with_reducible show wpAny _ _ (exec (Stmt.While _ _ _ _) _) _ _ _)); first | ((k_here; (with_reducible show wpAny _ _ (subscriptTail _ _ (Value.str _ _) (Value.int _ _)) _ _ _); (refine item_hex ?p0 ?_; (case p0 => first | omega | (rw [fd (by decide)]; omega) | (rw [fm (by decide)]; omega))))) | (((with_reducible show wpAny _ _ (call (Value.builtin "str.join") _) _ _ _); (k_here; (refine join_hex2 (by assumption) (.head _) (by with_reducible assumption) (by omega) ?_); intro _ _; (try dsimp only)))) | (((with_reducible show wpAny _ _ (call (Value.builtin "str.join") _) _ _ _); (k_here; (refine join_sgn (by assumption) (by k_mem) (by assumption) (by omega) ?_); intro _ _; (try dsimp only)))) | walk1 | (dsimp only; walk1) | (leave1; (try dsimp only)))))
        exact CompEnd.intro (by assumption) (by assumption) _ (fun p hp => hp) off rfl (strs_take hR hc (by rfl))
      · intro ws hws
        rw [List.take_length] at hws
        intro D h tk F1 N1 hoD
        (repeat' (first | (k_unfold; (try dsimp only)) | ((fail_if_success (with_reducible show wpAny _ _ (pyIter _) _ _ _)); (fail_if_success (with_reducible show InvEndN _ _ _ _ _ _ _)); (fail_if_success (with_reducible show wpAny _ _ (call (Value.ref _) _) _ _ _)); (fail_if_success (with_reducible show wpAny _ _ (exec (Stmt.For (Expr.Name _ _) _ _ _ _) _) _ _ _)); (fail_if_success (with_reducible show wpAny _ _ (exec (Stmt.Assign _ (Expr.ListComp _ _ _ _) _) _) _ _ _)); (fail_if_success (with_reducible show wpAny _ _ (eval (Expr.ListComp _ _ _ _) _) _ _ _)); (fail_if_success (with_reducible show LCg.CompSrc _ _ _ _ _ _ _ _ _ _ _ _ _ _)); (fail_if_success (with_reducible show SrcS _ _ _ _ _ _ _ _ _ _ _ _ _ _)); (fail_if_success (with_reducible show wpAny _ _ (exec (Stmt.For (Expr.Tuple _ _ _) _ _ _ _) _) _ _ _)); (fail_if_success (with_reducible show KswEnd _ _ _ _ _ _ _ _ _ _ _ _)); (fail_if_success (with_reducible show wpAny _ _ (exec (Stmt.While _ _ _ _) _) _ _ _)); first | ((k_here; (with_reducible show wpAny _ _ (subscriptTail _ _ (Value.str _ _) (Value.int _ _)) _ _ _); (refine item_hex ?p0 ?_; (case p0 => first | omega | (rw [fd (by decide)]; omega) | (rw [fm (by decide)]; omega))))) | (((with_reducible show wpAny _ _ (call (Value.builtin "str.join") _) _ _ _); (k_here; (refine join_hex2 (by assumption) (.head _) (by with_reducible assumption) (by omega) ?_); intro _ _; (try dsimp only)))) | (((with_reducible show wpAny _ _ (call (Value.builtin "str.join") _) _ _ _); (k_here; (refine join_sgn (by assumption) (by k_mem) (by assumption) (by omega) ?_); intro _ _; (try dsimp only)))) | walk1 | (dsimp only; walk1) | (leave1; (try dsimp only)))))
        rename_i tq kq hq Fq Nq
        refine ⟨rfl, tq, oa, vo, no, ca, ys, nc, src, x, y, tx, ty, n, q2, p1, St.of Fq ?_ (news_tail Nq), hvo, hys, hq2, ⟨_, hp1⟩, hNB⟩
        simp only [List.cons_append, List.nil_append]; kst_all
    rintro _ ⟨tt, oa, vo, no, ca, ys, nc, src, x, y, tx, ty, n, q2, p1, ⟨u, h, tk, rfl, F1, N1⟩, hvo, hys, hq2, ⟨v1, hp1⟩, hNB⟩
    simp only [List.cons_append, List.nil_append] at F1
    dsimp only [kstB] at F1 N1
    simp only [List.cons_append, List.nil_append] at N1
    have hnn : ∀ c ∈ cs, 0 ≤ c := fun c hc => (hcr c hc).1
    have hol : (cs.flatMap encF).length ≤ 16 := by have := utf_len cs; omega
    have hor : ∀ o ∈ cs.flatMap encF, 0 ≤ o ∧ o < 256 := encs_range hcr
    refine wpI_cutI (fun s' => ∃ t, Mid3 s l L' own [(Str.ofString "text", .str (KStt.txt cs) t)] cs s') (wpI_If (isTrue_Or_I (isTrue_Compare_I (wpI_Call_Name ?_)))) ?_
    · (repeat' (first | (k_unfold; (try dsimp only)) | ((fail_if_success (with_reducible show wpAny _ _ (pyIter _) _ _ _)); (fail_if_success (with_reducible show InvEndN _ _ _ _ _ _ _)); (fail_if_success (with_reducible show wpAny _ _ (call (Value.ref _) _) _ _ _)); (fail_if_success (with_reducible show wpAny _ _ (exec (Stmt.For (Expr.Name _ _) _ _ _ _) _) _ _ _)); (fail_if_success (with_reducible show wpAny _ _ (exec (Stmt.Assign _ (Expr.ListComp _ _ _ _) _) _) _ _ _)); (fail_if_success (with_reducible show wpAny _ _ (eval (Expr.ListComp _ _ _ _) _) _ _ _)); (fail_if_success (with_reducible show LCg.CompSrc _ _ _ _ _ _ _ _ _ _ _ _ _ _)); (fail_if_success (with_reducible show SrcS _ _ _ _ _ _ _ _ _ _ _ _ _ _)); (fail_if_success (with_reducible show wpAny _ _ (exec (Stmt.For (Expr.Tuple _ _ _) _ _ _ _) _) _ _ _)); (fail_if_success (with_reducible show KswEnd _ _ _ _ _ _ _ _ _ _ _ _)); (fail_if_success (with_reducible show wpAny _ _ (exec (Stmt.While _ _ _ _) _) _ _ _)); first | ((k_here; (with_reducible show wpAny _ _ (subscriptTail _ _ (Value.str _ _) (Value.int _ _)) _ _ _); (refine item_hex ?p0 ?_; (case p0 => first | omega | (rw [fd (by decide)]; omega) | (rw [fm (by decide)]; omega))))) | (((with_reducible show wpAny _ _ (call (Value.builtin "str.join") _) _ _ _); (k_here; (refine join_hex2 (by assumption) (.head _) (by with_reducible assumption) (by omega) ?_); intro _ _; (try dsimp only)))) | (((with_reducible show wpAny _ _ (call (Value.builtin "str.join") _) _ _ _); (k_here; (refine join_sgn (by assumption) (by k_mem) (by assumption) (by omega) ?_); intro _ _; (try dsimp only)))) | walk1 | (dsimp only; walk1) | (leave1; (try dsimp only)))))
      refine callWith_type1_I (wpI_Call_Name ?_)
      (repeat' (first | (k_unfold; (try dsimp only)) | ((fail_if_success (with_reducible show wpAny _ _ (pyIter _) _ _ _)); (fail_if_success (with_reducible show InvEndN _ _ _ _ _ _ _)); (fail_if_success (with_reducible show wpAny _ _ (call (Value.ref _) _) _ _ _)); (fail_if_success (with_reducible show wpAny _ _ (exec (Stmt.For (Expr.Name _ _) _ _ _ _) _) _ _ _)); (fail_if_success (with_reducible show wpAny _ _ (exec (Stmt.Assign _ (Expr.ListComp _ _ _ _) _) _) _ _ _)); (fail_if_success (with_reducible show wpAny _ _ (eval (Expr.ListComp _ _ _ _) _) _ _ _)); (fail_if_success (with_reducible show LCg.CompSrc _ _ _ _ _ _ _ _ _ _ _ _ _ _)); (fail_if_success (with_reducible show SrcS _ _ _ _ _ _ _ _ _ _ _ _ _ _)); (fail_if_success (with_reducible show wpAny _ _ (exec (Stmt.For (Expr.Tuple _ _ _) _ _ _ _) _) _ _ _)); (fail_if_success (with_reducible show KswEnd _ _ _ _ _ _ _ _ _ _ _ _)); (fail_if_success (with_reducible show wpAny _ _ (exec (Stmt.While _ _ _ _) _) _ _ _)); first | ((k_here; (with_reducible show wpAny _ _ (subscriptTail _ _ (Value.str _ _) (Value.int _ _)) _ _ _); (refine item_hex ?p0 ?_; (case p0 => first | omega | (rw [fd (by decide)]; omega) | (rw [fm (by decide)]; omega))))) | (((with_reducible show wpAny _ _ (call (Value.builtin "str.join") _) _ _ _); (k_here; (refine join_hex2 (by assumption) (.head _) (by with_reducible assumption) (by omega) ?_); intro _ _; (try dsimp only)))) | (((with_reducible show wpAny _ _ (call (Value.builtin "str.join") _) _ _ _); (k_here; (refine join_sgn (by assumption) (by k_mem) (by assumption) (by omega) ?_); intro _ _; (try dsimp only)))) | walk1 | (dsimp only; walk1) | (leave1; (try dsimp only)))))
      k_dflt (refine callWith_K_I (K := Mine.hd.heap_39 w.params) (by k_is) (wpI_of ?_))
      (repeat' (first | (k_unfold; (try dsimp only)) | ((fail_if_success (with_reducible show wpAny _ _ (pyIter _) _ _ _)); (fail_if_success (with_reducible show InvEndN _ _ _ _ _ _ _)); (fail_if_success (with_reducible show wpAny _ _ (call (Value.ref _) _) _ _ _)); (fail_if_success (with_reducible show wpAny _ _ (exec (Stmt.For (Expr.Name _ _) _ _ _ _) _) _ _ _)); (fail_if_success (with_reducible show wpAny _ _ (exec (Stmt.Assign _ (Expr.ListComp _ _ _ _) _) _) _ _ _)); (fail_if_success (with_reducible show wpAny _ _ (eval (Expr.ListComp _ _ _ _) _) _ _ _)); (fail_if_success (with_reducible show LCg.CompSrc _ _ _ _ _ _ _ _ _ _ _ _ _ _)); (fail_if_success (with_reducible show SrcS _ _ _ _ _ _ _ _ _ _ _ _ _ _)); (fail_if_success (with_reducible show wpAny _ _ (exec (Stmt.For (Expr.Tuple _ _ _) _ _ _ _) _) _ _ _)); (fail_if_success (with_reducible show KswEnd _ _ _ _ _ _ _ _ _ _ _ _)); (fail_if_success (with_reducible show wpAny _ _ (exec (Stmt.While _ _ _ _) _) _ _ _)); first | ((k_here; (with_reducible show wpAny _ _ (subscriptTail _ _ (Value.str _ _) (Value.int _ _)) _ _ _); (refine item_hex ?p0 ?_; (case p0 => first | omega | (rw [fd (by decide)]; omega) | (rw [fm (by decide)]; omega))))) | (((with_reducible show wpAny _ _ (call (Value.builtin "str.join") _) _ _ _); (k_here; (refine join_hex2 (by assumption) (.head _) (by with_reducible assumption) (by omega) ?_); intro _ _; (try dsimp only)))) | (((with_reducible show wpAny _ _ (call (Value.builtin "str.join") _) _ _ _); (k_here; (refine join_sgn (by assumption) (by k_mem) (by assumption) (by omega) ?_); intro _ _; (try dsimp only)))) | walk1 | (dsimp only; walk1) | (leave1; (try dsimp only)))))
      have hU := utf_cl w (KStt.txt cs) tt ((oa, W.listOf vo.toArray no) :: (ca, W.listOf ys.toArray nc) :: (src, srcO x y tx ty n) :: (L' + 1, q2) :: (L' + 1 + 1, p1) :: own) (by rw [codes_txt hnn]; omega) (by rw [codes_txt hnn]; exact hcr)
      rw [codes_txt hnn] at hU
      k_dflt (refine' ClI.use hU ?k1 ?k2 ?k3 ?k4 ?k5 ?kK ?kd ?ku ?_; (case k4 => k_asm); (((case k1 => k_asm); (case k2 => k_asm); (case k3 => k_asm); (case k5 => k_asm); (case kK => first | exact rfl | assumption); (case kd => ktr_room); (case ku => ktr_units); k_whole)))
      rintro _ _ h9 tk9 ⟨t9, rfl, rfl⟩ F9 N9
      dsimp only
      refine wpI_of (list_bytesF (by rfl) F9 N9 hor (by omega) ?_)
      intro h8 tk8 D8 vs8 n8 F8 N8 l8 hi8
      (repeat' (first | (k_unfold; (try dsimp only)) | ((fail_if_success (with_reducible show wpAny _ _ (pyIter _) _ _ _)); (fail_if_success (with_reducible show InvEndN _ _ _ _ _ _ _)); (fail_if_success (with_reducible show wpAny _ _ (call (Value.ref _) _) _ _ _)); (fail_if_success (with_reducible show wpAny _ _ (exec (Stmt.For (Expr.Name _ _) _ _ _ _) _) _ _ _)); (fail_if_success (with_reducible show wpAny _ _ (exec (Stmt.Assign _ (Expr.ListComp _ _ _ _) _) _) _ _ _)); (fail_if_success (with_reducible show wpAny _ _ (eval (Expr.ListComp _ _ _ _) _) _ _ _)); (fail_if_success (with_reducible show LCg.CompSrc _ _ _ _ _ _ _ _ _ _ _ _ _ _)); (fail_if_success (with_reducible show SrcS _ _ _ _ _ _ _ _ _ _ _ _ _ _)); (fail_if_success (with_reducible show wpAny _ _ (exec (Stmt.For (Expr.Tuple _ _ _) _ _ _ _) _) _ _ _)); (fail_if_success (with_reducible show KswEnd _ _ _ _ _ _ _ _ _ _ _ _)); (fail_if_success (with_reducible show wpAny _ _ (exec (Stmt.While _ _ _ _) _) _ _ _)); first | ((k_here; (with_reducible show wpAny _ _ (subscriptTail _ _ (Value.str _ _) (Value.int _ _)) _ _ _); (refine item_hex ?p0 ?_; (case p0 => first | omega | (rw [fd (by decide)]; omega) | (rw [fm (by decide)]; omega))))) | (((with_reducible show wpAny _ _ (call (Value.builtin "str.join") _) _ _ _); (k_here; (refine join_hex2 (by assumption) (.head _) (by with_reducible assumption) (by omega) ?_); intro _ _; (try dsimp only)))) | (((with_reducible show wpAny _ _ (call (Value.builtin "str.join") _) _ _ _); (k_here; (refine join_sgn (by assumption) (by k_mem) (by assumption) (by omega) ?_); intro _ _; (try dsimp only)))) | walk1 | (dsimp only; walk1) | (leave1; (try dsimp only)))))
      refine wpI_of ?_
      (repeat' (first | (k_unfold; (try dsimp only)) | ((fail_if_success (with_reducible show wpAny _ _ (pyIter _) _ _ _)); (fail_if_success (with_reducible show InvEndN _ _ _ _ _ _ _)); (fail_if_success (with_reducible show wpAny _ _ (call (Value.ref _) _) _ _ _)); (fail_if_success (with_reducible show wpAny _ _ (exec (Stmt.For (Expr.Name _ _) _ _ _ _) _) _ _ _)); (fail_if_success (with_reducible show wpAny _ _ (exec (Stmt.Assign _ (Expr.ListComp _ _ _ _) _) _) _ _ _)); (fail_if_success (with_reducible show wpAny _ _ (eval (Expr.ListComp _ _ _ _) _) _ _ _)); (fail_if_success (with_reducible show LCg.CompSrc _ _ _ _ _ _ _ _ _ _ _ _ _ _)); (fail_if_success (with_reducible show SrcS _ _ _ _ _ _ _ _ _ _ _ _ _ _)); (fail_if_success (with_reducible show wpAny _ _ (exec (Stmt.For (Expr.Tuple _ _ _) _ _ _ _) _) _ _ _)); (fail_if_success (with_reducible show KswEnd _ _ _ _ _ _ _ _ _ _ _ _)); (fail_if_success (with_reducible show wpAny _ _ (exec (Stmt.While _ _ _ _) _) _ _ _)); first | ((k_here; (with_reducible show wpAny _ _ (subscriptTail _ _ (Value.str _ _) (Value.int _ _)) _ _ _); (refine item_hex ?p0 ?_; (case p0 => first | omega | (rw [fd (by decide)]; omega) | (rw [fm (by decide)]; omega))))) | (((with_reducible show wpAny _ _ (call (Value.builtin "str.join") _) _ _ _); (k_here; (refine join_hex2 (by assumption) (.head _) (by with_reducible assumption) (by omega) ?_); intro _ _; (try dsimp only)))) | (((with_reducible show wpAny _ _ (call (Value.builtin "str.join") _) _ _ _); (k_here; (refine join_sgn (by assumption) (by k_mem) (by assumption) (by omega) ?_); intro _ _; (try dsimp only)))) | walk1 | (dsimp only; walk1) | (leave1; (try dsimp only)))))
      k_dflt (refine' Cl.use (text_os w (cs.flatMap encF) _ _ (by omega) hor) ?k1 ?k2 ?k3 ?k4 ?k5 ?kK ?kd ?ku ?_; (case k4 => k_asm); (((case k1 => k_asm); (case k2 => k_asm); (case k3 => k_asm); (case k5 => k_asm); (case kK => first | exact rfl | assumption); (case kd => ktr_room); (case ku => ktr_units); k_whole)))
      rintro _ _ h7 tk7 ⟨rfl, t7, rfl⟩ F7 N7
      rw [dec_enc hcr]
      (try dsimp only); (try k_fold)
      (repeat' (first | (k_unfold; (try dsimp only)) | ((fail_if_success (with_reducible show wpAny _ _ (pyIter _) _ _ _)); (fail_if_success (with_reducible show InvEndN _ _ _ _ _ _ _)); (fail_if_success (with_reducible show wpAny _ _ (call (Value.ref _) _) _ _ _)); (fail_if_success (with_reducible show wpAny _ _ (exec (Stmt.For (Expr.Name _ _) _ _ _ _) _) _ _ _)); (fail_if_success (with_reducible show wpAny _ _ (exec (Stmt.Assign _ (Expr.ListComp _ _ _ _) _) _) _ _ _)); (fail_if_success (with_reducible show wpAny _ _ (eval (Expr.ListComp _ _ _ _) _) _ _ _)); (fail_if_success (with_reducible show LCg.CompSrc _ _ _ _ _ _ _ _ _ _ _ _ _ _)); (fail_if_success (with_reducible show SrcS _ _ _ _ _ _ _ _ _ _ _ _ _ _)); (fail_if_success (with_reducible show wpAny _ _ (exec (Stmt.For (Expr.Tuple _ _ _) _ _ _ _) _) _ _ _)); (fail_if_success (with_reducible show KswEnd _ _ _ _ _ _ _ _ _ _ _ _)); (fail_if_success (with_reducible show wpAny _ _ (exec (Stmt.While _ _ _ _) _) _ _ _)); first | ((k_here; (with_reducible show wpAny _ _ (subscriptTail _ _ (Value.str _ _) (Value.int _ _)) _ _ _); (refine item_hex ?p0 ?_; (case p0 => first | omega | (rw [fd (by decide)]; omega) | (rw [fm (by decide)]; omega))))) | (((with_reducible show wpAny _ _ (call (Value.builtin "str.join") _) _ _ _); (k_here; (refine join_hex2 (by assumption) (.head _) (by with_reducible assumption) (by omega) ?_); intro _ _; (try dsimp only)))) | (((with_reducible show wpAny _ _ (call (Value.builtin "str.join") _) _ _ _); (k_here; (refine join_sgn (by assumption) (by k_mem) (by assumption) (by omega) ?_); intro _ _; (try dsimp only)))) | walk1 | (dsimp only; walk1) | (leave1; (try dsimp only)))))
      · exact (bneS (by assumption)).elim
      refine wpI_execs_nil ?_
      refine ⟨rfl, tt, oa, vo, no, ca, ys, nc, src, x, y, tx, ty, n, q2, p1, St.of (by assumption) ?_ (news_of (by assumption) (by simp only [List.cons_append, List.nil_append]; kst_inAny)), hvo, hys, hq2, ⟨_, hp1⟩, hNB⟩
      simp only [List.cons_append, List.nil_append]; kst_all
    rintro _ ⟨tt, oa, vo, no, ca, ys, nc, src, x, y, tx, ty, n, q2, p1, ⟨u, h, tk, rfl, F1, N1⟩, hvo, hys, hq2, ⟨v1, hp1⟩, hNB⟩
    simp only [List.cons_append, List.nil_append] at F1
    dsimp only [kstB] at F1 N1
    simp only [List.cons_append, List.nil_append] at N1
    refine wpI_cut (fun s' => ∃ t, Mid3 s l L' own [(Str.ofString "text", .str (KStt.txt cs) t)] cs s') ?_ ?_
    · obtain ⟨hy0, hy1, ho1, hs1, hs2, hc1, hc2, hc3, hc4, hf5, hf1, hf2, hf3, hf4⟩ := hNB
      have hneS : ∀ p ∈ (oa, W.listOf vo.toArray no) :: (ca, W.listOf ys.toArray nc) :: (L' + 1, q2) :: (L' + 1 + 1, p1) :: own, p.1 ≠ src := cons_nn hf2 (cons_nn hc2 (cons_nn hs1.symm (cons_nn hs2.symm ho1)))
      (repeat' (first | (k_unfold; (try dsimp only)) | ((fail_if_success (with_reducible show wpAny _ _ (pyIter _) _ _ _)); (fail_if_success (with_reducible show InvEndN _ _ _ _ _ _ _)); (fail_if_success (with_reducible show wpAny _ _ (call (Value.ref _) _) _ _ _)); (fail_if_success (with_reducible show wpAny _ _ (exec (Stmt.For (Expr.Name _ _) _ _ _ _) _) _ _ _)); (fail_if_success (with_reducible show wpAny _ _ (exec (Stmt.Assign _ (Expr.ListComp _ _ _ _) _) _) _ _ _)); (fail_if_success (with_reducible show wpAny _ _ (eval (Expr.ListComp _ _ _ _) _) _ _ _)); (fail_if_success (with_reducible show LCg.CompSrc _ _ _ _ _ _ _ _ _ _ _ _ _ _)); (fail_if_success (with_reducible show SrcS _ _ _ _ _ _ _ _ _ _ _ _ _ _)); (fail_if_success (with_reducible show wpAny _ _ (exec (Stmt.For (Expr.Tuple _ _ _) _ _ _ _) _) _ _ _)); (fail_if_success (with_reducible show KswEnd _ _ _ _ _ _ _ _ _ _ _ _)); (fail_if_success (with_reducible show wpAny _ _ (exec (Stmt.While _ _ _ _) _) _ _ _)); first | ((k_here; (with_reducible show wpAny _ _ (subscriptTail _ _ (Value.str _ _) (Value.int _ _)) _ _ _); (refine item_hex ?p0 ?_; (case p0 => first | omega | (rw [fd (by decide)]; omega) | (rw [fm (by decide)]; omega))))) | (((with_reducible show wpAny _ _ (call (Value.builtin "str.join") _) _ _ _); (k_here; (refine join_hex2 (by assumption) (.head _) (by with_reducible assumption) (by omega) ?_); intro _ _; (try dsimp only)))) | (((with_reducible show wpAny _ _ (call (Value.builtin "str.join") _) _ _ _); (k_here; (refine join_sgn (by assumption) (by k_mem) (by assumption) (by omega) ?_); intro _ _; (try dsimp only)))) | walk1 | (dsimp only; walk1) | (leave1; (try dsimp only)))))
      k_dflt (refine' Cl.use (spoilt_cl w src oa x y tx ty n no vo _ ((ca, W.listOf ys.toArray nc) :: (L' + 1, q2) :: (L' + 1 + 1, p1) :: own) hvo (by omega) hor hy0 hy1 hneS) ?k1 ?k2 ?k3 ?k4 ?k5 ?kK ?kd ?ku ?_; (case k4 => exact news_of (by k_asm) (by kst_inAny)); (((case k1 => k_asm); (case k2 => k_asm); (case k3 => k_asm); (case k5 => k_asm); (case kK => first | exact rfl | assumption); (case kd => ktr_room); (case ku => ktr_units); k_whole)))
      rintro _ _ h9 tk9 ⟨ad, ws, ms, nn, x2, y2, tx2, ty2, n2, rfl, hws, hml, hmr, hy20, hy21, rfl, l91, l92, l93⟩ F9 N9
      (try dsimp only); (try k_fold)
      (repeat' (first | (k_unfold; (try dsimp only)) | ((fail_if_success (with_reducible show wpAny _ _ (pyIter _) _ _ _)); (fail_if_success (with_reducible show InvEndN _ _ _ _ _ _ _)); (fail_if_success (with_reducible show wpAny _ _ (call (Value.ref _) _) _ _ _)); (fail_if_success (with_reducible show wpAny _ _ (exec (Stmt.For (Expr.Name _ _) _ _ _ _) _) _ _ _)); (fail_if_success (with_reducible show wpAny _ _ (exec (Stmt.Assign _ (Expr.ListComp _ _ _ _) _) _) _ _ _)); (fail_if_success (with_reducible show wpAny _ _ (eval (Expr.ListComp _ _ _ _) _) _ _ _)); (fail_if_success (with_reducible show LCg.CompSrc _ _ _ _ _ _ _ _ _ _ _ _ _ _)); (fail_if_success (with_reducible show SrcS _ _ _ _ _ _ _ _ _ _ _ _ _ _)); (fail_if_success (with_reducible show wpAny _ _ (exec (Stmt.For (Expr.Tuple _ _ _) _ _ _ _) _) _ _ _)); (fail_if_success (with_reducible show KswEnd _ _ _ _ _ _ _ _ _ _ _ _)); (fail_if_success (with_reducible show wpAny _ _ (exec (Stmt.While _ _ _ _) _) _ _ _)); first | ((k_here; (with_reducible show wpAny _ _ (subscriptTail _ _ (Value.str _ _) (Value.int _ _)) _ _ _); (refine item_hex ?p0 ?_; (case p0 => first | omega | (rw [fd (by decide)]; omega) | (rw [fm (by decide)]; omega))))) | (((with_reducible show wpAny _ _ (call (Value.builtin "str.join") _) _ _ _); (k_here; (refine join_hex2 (by assumption) (.head _) (by with_reducible assumption) (by omega) ?_); intro _ _; (try dsimp only)))) | (((with_reducible show wpAny _ _ (call (Value.builtin "str.join") _) _ _ _); (k_here; (refine join_sgn (by assumption) (by k_mem) (by assumption) (by omega) ?_); intro _ _; (try dsimp only)))) | walk1 | (dsimp only; walk1) | (leave1; (try dsimp only)))))
      k_dflt (refine' Cl.use (right_cl w ad ws ms nn _ hws (by omega) hmr (cons_nn (Nat.ne_of_lt l91) (cons_nn (Nat.ne_of_lt l92) fun p hp => Nat.ne_of_lt (l93 p hp)))) ?k1 ?k2 ?k3 ?k4 ?k5 ?kK ?kd ?ku ?_; (case k4 => k_asm); (((case k1 => k_asm); (case k2 => k_asm); (case k3 => k_asm); (case k5 => k_asm); (case kK => first | exact rfl | assumption); (case kd => ktr_room); (case ku => ktr_units); k_whole)))
      rintro _ _ h8 tk8 ⟨rfl, rfl⟩ F8 N8
      (try dsimp only); (try k_fold)
      (repeat' (first | (k_unfold; (try dsimp only)) | ((fail_if_success (with_reducible show wpAny _ _ (pyIter _) _ _ _)); (fail_if_success (with_reducible show InvEndN _ _ _ _ _ _ _)); (fail_if_success (with_reducible show wpAny _ _ (call (Value.ref _) _) _ _ _)); (fail_if_success (with_reducible show wpAny _ _ (exec (Stmt.For (Expr.Name _ _) _ _ _ _) _) _ _ _)); (fail_if_success (with_reducible show wpAny _ _ (exec (Stmt.Assign _ (Expr.ListComp _ _ _ _) _) _) _ _ _)); (fail_if_success (with_reducible show wpAny _ _ (eval (Expr.ListComp _ _ _ _) _) _ _ _)); (fail_if_success (with_reducible show LCg.CompSrc _ _ _ _ _ _ _ _ _ _ _ _ _ _)); (fail_if_success (with_reducible show SrcS _ _ _ _ _ _ _ _ _ _ _ _ _ _)); (fail_if_success (with_reducible show wpAny _ _ (exec (Stmt.For (Expr.Tuple _ _ _) _ _ _ _) _) _ _ _)); (fail_if_success (with_reducible show KswEnd _ _ _ _ _ _ _ _ _ _ _ _)); (fail_if_success (with_reducible show wpAny _ _ (exec (Stmt.While _ _ _ _) _) _ _ _)); first | ((k_here; (with_reducible show wpAny _ _ (subscriptTail _ _ (Value.str _ _) (Value.int _ _)) _ _ _); (refine item_hex ?p0 ?_; (case p0 => first | omega | (rw [fd (by decide)]; omega) | (rw [fm (by decide)]; omega))))) | (((with_reducible show wpAny _ _ (call (Value.builtin "str.join") _) _ _ _); (k_here; (refine join_hex2 (by assumption) (.head _) (by with_reducible assumption) (by omega) ?_); intro _ _; (try dsimp only)))) | (((with_reducible show wpAny _ _ (call (Value.builtin "str.join") _) _ _ _); (k_here; (refine join_sgn (by assumption) (by k_mem) (by assumption) (by omega) ?_); intro _ _; (try dsimp only)))) | walk1 | (dsimp only; walk1) | (leave1; (try dsimp only)))))
      k_dflt (refine' Cl.use (any_cl w src x2 y2 tx2 ty2 n2 ((ad, W.listOf ws.toArray nn) :: (oa, W.listOf vo.toArray no) :: (ca, W.listOf ys.toArray nc) :: (L' + 1, q2) :: (L' + 1 + 1, p1) :: own) hy20 hy21 (cons_nn (Nat.ne_of_gt l91) hneS)) ?k1 ?k2 ?k3 ?k4 ?k5 ?kK ?kd ?ku ?_; (case k4 => exact news_of (by k_asm) (by kst_inAny)); (((case k1 => k_asm); (case k2 => k_asm); (case k3 => k_asm); (case k5 => k_asm); (case kK => first | exact rfl | assumption); (case kd => ktr_room); (case ku => ktr_units); k_whole)))
      rintro _ _ h7 tk7 ⟨ad7, ws7, ms7, nn7, x7, y7, tx7, ty7, n7, rfl, hws7, hml7, hmr7, hy70, hy71, rfl, l71, l72⟩ F7 N7
      (try dsimp only); (try k_fold)
      (repeat' (first | (k_unfold; (try dsimp only)) | ((fail_if_success (with_reducible show wpAny _ _ (pyIter _) _ _ _)); (fail_if_success (with_reducible show InvEndN _ _ _ _ _ _ _)); (fail_if_success (with_reducible show wpAny _ _ (call (Value.ref _) _) _ _ _)); (fail_if_success (with_reducible show wpAny _ _ (exec (Stmt.For (Expr.Name _ _) _ _ _ _) _) _ _ _)); (fail_if_success (with_reducible show wpAny _ _ (exec (Stmt.Assign _ (Expr.ListComp _ _ _ _) _) _) _ _ _)); (fail_if_success (with_reducible show wpAny _ _ (eval (Expr.ListComp _ _ _ _) _) _ _ _)); (fail_if_success (with_reducible show LCg.CompSrc _ _ _ _ _ _ _ _ _ _ _ _ _ _)); (fail_if_success (with_reducible show SrcS _ _ _ _ _ _ _ _ _ _ _ _ _ _)); (fail_if_success (with_reducible show wpAny _ _ (exec (Stmt.For (Expr.Tuple _ _ _) _ _ _ _) _) _ _ _)); (fail_if_success (with_reducible show KswEnd _ _ _ _ _ _ _ _ _ _ _ _)); (fail_if_success (with_reducible show wpAny _ _ (exec (Stmt.While _ _ _ _) _) _ _ _)); first | ((k_here; (with_reducible show wpAny _ _ (subscriptTail _ _ (Value.str _ _) (Value.int _ _)) _ _ _); (refine item_hex ?p0 ?_; (case p0 => first | omega | (rw [fd (by decide)]; omega) | (rw [fm (by decide)]; omega))))) | (((with_reducible show wpAny _ _ (call (Value.builtin "str.join") _) _ _ _); (k_here; (refine join_hex2 (by assumption) (.head _) (by with_reducible assumption) (by omega) ?_); intro _ _; (try dsimp only)))) | (((with_reducible show wpAny _ _ (call (Value.builtin "str.join") _) _ _ _); (k_here; (refine join_sgn (by assumption) (by k_mem) (by assumption) (by omega) ?_); intro _ _; (try dsimp only)))) | walk1 | (dsimp only; walk1) | (leave1; (try dsimp only)))))
      k_dflt (refine' Cl.use (right_cl w ad7 ws7 ms7 nn7 _ hws7 (by omega) hmr7 (cons_nn l71 l72)) ?k1 ?k2 ?k3 ?k4 ?k5 ?kK ?kd ?ku ?_; (case k4 => k_asm); (((case k1 => k_asm); (case k2 => k_asm); (case k3 => k_asm); (case k5 => k_asm); (case kK => first | exact rfl | assumption); (case kd => ktr_room); (case ku => ktr_units); k_whole)))
      rintro _ _ h6 tk6 ⟨rfl, rfl⟩ F6 N6
      (try dsimp only); (try k_fold)
      (repeat' (first | (k_unfold; (try dsimp only)) | ((fail_if_success (with_reducible show wpAny _ _ (pyIter _) _ _ _)); (fail_if_success (with_reducible show InvEndN _ _ _ _ _ _ _)); (fail_if_success (with_reducible show wpAny _ _ (call (Value.ref _) _) _ _ _)); (fail_if_success (with_reducible show wpAny _ _ (exec (Stmt.For (Expr.Name _ _) _ _ _ _) _) _ _ _)); (fail_if_success (with_reducible show wpAny _ _ (exec (Stmt.Assign _ (Expr.ListComp _ _ _ _) _) _) _ _ _)); (fail_if_success (with_reducible show wpAny _ _ (eval (Expr.ListComp _ _ _ _) _) _ _ _)); (fail_if_success (with_reducible show LCg.CompSrc _ _ _ _ _ _ _ _ _ _ _ _ _ _)); (fail_if_success (with_reducible show SrcS _ _ _ _ _ _ _ _ _ _ _ _ _ _)); (fail_if_success (with_reducible show wpAny _ _ (exec (Stmt.For (Expr.Tuple _ _ _) _ _ _ _) _) _ _ _)); (fail_if_success (with_reducible show KswEnd _ _ _ _ _ _ _ _ _ _ _ _)); (fail_if_success (with_reducible show wpAny _ _ (exec (Stmt.While _ _ _ _) _) _ _ _)); first | ((k_here; (with_reducible show wpAny _ _ (subscriptTail _ _ (Value.str _ _) (Value.int _ _)) _ _ _); (refine item_hex ?p0 ?_; (case p0 => first | omega | (rw [fd (by decide)]; omega) | (rw [fm (by decide)]; omega))))) | (((with_reducible show wpAny _ _ (call (Value.builtin "str.join") _) _ _ _); (k_here; (refine join_hex2 (by assumption) (.head _) (by with_reducible assumption) (by omega) ?_); intro _ _; (try dsimp only)))) | (((with_reducible show wpAny _ _ (call (Value.builtin "str.join") _) _ _ _); (k_here; (refine join_sgn (by assumption) (by k_mem) (by assumption) (by omega) ?_); intro _ _; (try dsimp only)))) | walk1 | (dsimp only; walk1) | (leave1; (try dsimp only)))))
      refine ⟨rfl, tt, oa, vo, no, ca, ys, nc, src, x7, y7, tx7, ty7, n7, q2, p1, St.of (by assumption) ?_ (news_of (by assumption) (by simp only [List.cons_append, List.nil_append]; kst_inAny)), hvo, hys, hq2, ⟨_, hp1⟩, hy70, hy71, ho1, hs1, hs2, hc1, hc2, hc3, hc4, hf5, hf1, hf2, hf3, hf4⟩
      simp only [List.cons_append, List.nil_append]; kst_all
    rintro _ ⟨tt, oa, vo, no, ca, ys, nc, src, x, y, tx, ty, n, q2, p1, ⟨u, h, tk, rfl, F1, N1⟩, hvo, hys, hq2, ⟨v1, hp1⟩, hNB⟩
    simp only [List.cons_append, List.nil_append] at F1
    dsimp only [kstB] at F1 N1
    simp only [List.cons_append, List.nil_append] at N1
    refine wpI_cut (fun s' => ∃ t tf, Mid4 s l L' own [(Str.ofString "text", .str (KStt.txt cs) t)] cs (.str (Str.ofString "0123456789ABCDEF") tf) s') ?_ ?_
    · have hNB9 := hNB
      obtain ⟨hy0, hy1, ho1, hs1, hs2, hc1, hc2, hc3, hc4, hf5, hf1, hf2, hf3, hf4⟩ := hNB
      (repeat' (first | (k_unfold; (try dsimp only)) | ((fail_if_success (with_reducible show wpAny _ _ (pyIter _) _ _ _)); (fail_if_success (with_reducible show InvEndN _ _ _ _ _ _ _)); (fail_if_success (with_reducible show wpAny _ _ (call (Value.ref _) _) _ _ _)); (fail_if_success (with_reducible show wpAny _ _ (exec (Stmt.For (Expr.Name _ _) _ _ _ _) _) _ _ _)); (fail_if_success (with_reducible show wpAny _ _ (exec (Stmt.Assign _ (Expr.ListComp _ _ _ _) _) _) _ _ _)); (fail_if_success (with_reducible show wpAny _ _ (eval (Expr.ListComp _ _ _ _) _) _ _ _)); (fail_if_success (with_reducible show LCg.CompSrc _ _ _ _ _ _ _ _ _ _ _ _ _ _)); (fail_if_success (with_reducible show SrcS _ _ _ _ _ _ _ _ _ _ _ _ _ _)); (fail_if_success (with_reducible show wpAny _ _ (exec (Stmt.For (Expr.Tuple _ _ _) _ _ _ _) _) _ _ _)); (fail_if_success (with_reducible show KswEnd _ _ _ _ _ _ _ _ _ _ _ _)); (fail_if_success (with_reducible show wpAny _ _ (exec (Stmt.While _ _ _ _) _) _ _ _)); first | ((k_here; (with_reducible show wpAny _ _ (subscriptTail _ _ (Value.str _ _) (Value.int _ _)) _ _ _); (refine item_hex ?p0 ?_; (case p0 => first | omega | (rw [fd (by decide)]; omega) | (rw [fm (by decide)]; omega))))) | (((with_reducible show wpAny _ _ (call (Value.builtin "str.join") _) _ _ _); (k_here; (refine join_hex2 (by assumption) (.head _) (by with_reducible assumption) (by omega) ?_); intro _ _; (try dsimp only)))) | (((with_reducible show wpAny _ _ (call (Value.builtin "str.join") _) _ _ _); (k_here; (refine join_sgn (by assumption) (by k_mem) (by assumption) (by omega) ?_); intro _ _; (try dsimp only)))) | walk1 | (dsimp only; walk1) | (leave1; (try dsimp only)))))
      rename_i h8 p9 F8 N8 hp9
      refine ⟨rfl, tt, _, oa, vo, no, ca, ys, nc, src, x, y, tx, ty, n, q2, p9, St.of F8 ?_ N8, hvo, hys, hq2, hp9, hNB9⟩
      simp only [List.cons_append, List.nil_append]; kst_all
    rintro _ ⟨tt, tf, oa, vo, no, ca, ys, nc, src, x, y, tx, ty, n, q2, p1, ⟨u, h, tk, rfl, F1, N1⟩, hvo, hys, hq2, hp1, hNB⟩
    simp only [List.cons_append, List.nil_append] at F1
    dsimp only [kstB] at F1 N1
    simp only [List.cons_append, List.nil_append] at N1
    refine wpI_cut (fun s' => ∃ t tf, Mid4 s l L' own [(Str.ofString "text", .str (KStt.txt cs) t)] cs (.str (Str.ofString "0123456789ABCDEF") tf) s') ?_ ?_
    · (repeat' (first | (k_unfold; (try dsimp only)) | ((fail_if_success (with_reducible show wpAny _ _ (pyIter _) _ _ _)); (fail_if_success (with_reducible show InvEndN _ _ _ _ _ _ _)); (fail_if_success (with_reducible show wpAny _ _ (call (Value.ref _) _) _ _ _)); (fail_if_success (with_reducible show wpAny _ _ (exec (Stmt.For (Expr.Name _ _) _ _ _ _) _) _ _ _)); (fail_if_success (with_reducible show wpAny _ _ (exec (Stmt.Assign _ (Expr.ListComp _ _ _ _) _) _) _ _ _)); (fail_if_success (with_reducible show wpAny _ _ (eval (Expr.ListComp _ _ _ _) _) _ _ _)); (fail_if_success (with_reducible show LCg.CompSrc _ _ _ _ _ _ _ _ _ _ _ _ _ _)); (fail_if_success (with_reducible show SrcS _ _ _ _ _ _ _ _ _ _ _ _ _ _)); (fail_if_success (with_reducible show wpAny _ _ (exec (Stmt.For (Expr.Tuple _ _ _) _ _ _ _) _) _ _ _)); (fail_if_success (with_reducible show KswEnd _ _ _ _ _ _ _ _ _ _ _ _)); (fail_if_success (with_reducible show wpAny _ _ (exec (Stmt.While _ _ _ _) _) _ _ _)); first | ((k_here; (with_reducible show wpAny _ _ (subscriptTail _ _ (Value.str _ _) (Value.int _ _)) _ _ _); (refine item_hex ?p0 ?_; (case p0 => first | omega | (rw [fd (by decide)]; omega) | (rw [fm (by decide)]; omega))))) | (((with_reducible show wpAny _ _ (call (Value.builtin "str.join") _) _ _ _); (k_here; (refine join_hex2 (by assumption) (.head _) (by with_reducible assumption) (by omega) ?_); intro _ _; (try dsimp only)))) | (((with_reducible show wpAny _ _ (call (Value.builtin "str.join") _) _ _ _); (k_here; (refine join_sgn (by assumption) (by k_mem) (by assumption) (by omega) ?_); intro _ _; (try dsimp only)))) | walk1 | (dsimp only; walk1) | (leave1; (try dsimp only)))))
      have hX := hex_cl w (byteArr (cs.flatMap encF))
      rw [KBa.ints_make hor] at hX
      k_dflt (refine' Cl.use (hX _ _ (by rw [byteArr_size]; omega)) ?k1 ?k2 ?k3 ?k4 ?k5 ?kK ?kd ?ku ?_; (case k4 => k_asm); (((case k1 => k_asm); (case k2 => k_asm); (case k3 => k_asm); (case k5 => k_asm); (case kK => first | exact rfl | assumption); (case kd => ktr_room); (case ku => ktr_units); k_whole)))
      rintro _ _ h9 tk9 ⟨rfl, t9, rfl⟩ F9 N9
      (try dsimp only); (try k_fold)
      (repeat' (first | (k_unfold; (try dsimp only)) | ((fail_if_success (with_reducible show wpAny _ _ (pyIter _) _ _ _)); (fail_if_success (with_reducible show InvEndN _ _ _ _ _ _ _)); (fail_if_success (with_reducible show wpAny _ _ (call (Value.ref _) _) _ _ _)); (fail_if_success (with_reducible show wpAny _ _ (exec (Stmt.For (Expr.Name _ _) _ _ _ _) _) _ _ _)); (fail_if_success (with_reducible show wpAny _ _ (exec (Stmt.Assign _ (Expr.ListComp _ _ _ _) _) _) _ _ _)); (fail_if_success (with_reducible show wpAny _ _ (eval (Expr.ListComp _ _ _ _) _) _ _ _)); (fail_if_success (with_reducible show LCg.CompSrc _ _ _ _ _ _ _ _ _ _ _ _ _ _)); (fail_if_success (with_reducible show SrcS _ _ _ _ _ _ _ _ _ _ _ _ _ _)); (fail_if_success (with_reducible show wpAny _ _ (exec (Stmt.For (Expr.Tuple _ _ _) _ _ _ _) _) _ _ _)); (fail_if_success (with_reducible show KswEnd _ _ _ _ _ _ _ _ _ _ _ _)); (fail_if_success (with_reducible show wpAny _ _ (exec (Stmt.While _ _ _ _) _) _ _ _)); first | ((k_here; (with_reducible show wpAny _ _ (subscriptTail _ _ (Value.str _ _) (Value.int _ _)) _ _ _); (refine item_hex ?p0 ?_; (case p0 => first | omega | (rw [fd (by decide)]; omega) | (rw [fm (by decide)]; omega))))) | (((with_reducible show wpAny _ _ (call (Value.builtin "str.join") _) _ _ _); (k_here; (refine join_hex2 (by assumption) (.head _) (by with_reducible assumption) (by omega) ?_); intro _ _; (try dsimp only)))) | (((with_reducible show wpAny _ _ (call (Value.builtin "str.join") _) _ _ _); (k_here; (refine join_sgn (by assumption) (by k_mem) (by assumption) (by omega) ?_); intro _ _; (try dsimp only)))) | walk1 | (dsimp only; walk1) | (leave1; (try dsimp only)))))
      k_dflt (refine LCg.ListComp_U (F₀ := by k_asm) (by with_unfolding_all rfl) (by decide) (by rfl) (by decide) (by rfl) ?_)
      (repeat' (first | (k_unfold; (try dsimp only)) | ((fail_if_success (with_reducible show wpAny _ _ (pyIter _) _ _ _)); (fail_if_success (with_reducible show InvEndN _ _ _ _ _ _ _)); (fail_if_success (with_reducible show wpAny _ _ (call (Value.ref _) _) _ _ _)); (fail_if_success (with_reducible show wpAny _ _ (exec (Stmt.For (Expr.Name _ _) _ _ _ _) _) _ _ _)); (fail_if_success (with_reducible show wpAny _ _ (exec (Stmt.Assign _ (Expr.ListComp _ _ _ _) _) _) _ _ _)); (fail_if_success (with_reducible show wpAny _ _ (eval (Expr.ListComp _ _ _ _) _) _ _ _)); (fail_if_success (with_reducible show LCg.CompSrc _ _ _ _ _ _ _ _ _ _ _ _ _ _)); (fail_if_success (with_reducible show SrcS _ _ _ _ _ _ _ _ _ _ _ _ _ _)); (fail_if_success (with_reducible show wpAny _ _ (exec (Stmt.For (Expr.Tuple _ _ _) _ _ _ _) _) _ _ _)); (fail_if_success (with_reducible show KswEnd _ _ _ _ _ _ _ _ _ _ _ _)); (fail_if_success (with_reducible show wpAny _ _ (exec (Stmt.While _ _ _ _) _) _ _ _)); first | ((k_here; (with_reducible show wpAny _ _ (subscriptTail _ _ (Value.str _ _) (Value.int _ _)) _ _ _); (refine item_hex ?p0 ?_; (case p0 => first | omega | (rw [fd (by decide)]; omega) | (rw [fm (by decide)]; omega))))) | (((with_reducible show wpAny _ _ (call (Value.builtin "str.join") _) _ _ _); (k_here; (refine join_hex2 (by assumption) (.head _) (by with_reducible assumption) (by omega) ?_); intro _ _; (try dsimp only)))) | (((with_reducible show wpAny _ _ (call (Value.builtin "str.join") _) _ _ _); (k_here; (refine join_sgn (by assumption) (by k_mem) (by assumption) (by omega) ?_); intro _ _; (try dsimp only)))) | walk1 | (dsimp only; walk1) | (leave1; (try dsimp only)))))
      with_unfolding_all refine CompSrc.ledger (k := no) (by rfl) (by assumption) (by assumption) (.head _) ?_ (fun g => lc_rest hvo (srcAt_led (.head _)) (fun i ys => StrsAre ys (((cs.flatMap encF).take i).map hex2)) .nil ?_ ?_)
      · have := hvo.length; simp only [List.size_toArray, sizeLine_eq]; omega
      · intro i c t I oI C oC D m₂ ws h tk E' hc hR hC hx F1 N1 off ne mk
        have hcc := hor c (List.mem_of_getElem? hc)
        (repeat' (first | (k_unfold; (try dsimp only)) | ((fail_if_success (with_reducible show wpAny _ _ (pyIter _) _ _ _)); (fail_if_success (with_reducible show InvEndN _ _ _ _ _ _ _)); (fail_if_success (with_reducible show wpAny _ _ (call (Value.ref _) _) _ _ _)); (fail_if_success (with_reducible show wpAny _ _ (exec (Stmt.For (Expr.Name _ _) _ _ _ _) _) _ _ _)); (fail_if_success (with_reducible show wpAny _ _ (exec (Stmt.Assign _ (Expr.ListComp _ _ _ _) _) _) _ _ _)); (fail_if_success (with_reducible show wpAny _ _ (eval (Expr.ListComp _ _ _ _) _) _ _ _)); (fail_if_success (with_reducible show LCg.CompSrc _ _ _ _ _ _ _ _ _ _ _ _ _ _)); (fail_if_success (with_reducible show SrcS _ _ _ _ _ _ _ _ _ _ _ _ _ _)); (fail_if_success (with_reducible show wpAny _ _ (exec (Stmt.For (Expr.Tuple _ _ _) _ _ _ _) _) _ _ _)); (fail_if_success (with_reducible show KswEnd _ _ _ _ _ _ _ _ _ _ _ _)); (fail_if_success (with_reducible show wpAny _ _ (exec (Stmt.While _ _ _ _) _) _ _ _)); first | ((k_here; (with_reducible show wpAny _ _ (subscriptTail _ _ (Value.str _ _) (Value.int _ _)) _ _ _); (refine item_hex ?p0 ?_; (case p0 => first | omega | (rw [fd (by decide)]; omega) | (rw [fm (by decide)]; omega))))) | (((with_reducible show wpAny _ _ (call (Value.builtin "str.join") _) _ _ _); (k_here; (refine join_hex2 (by assumption) (.head _) (by with_reducible assumption) (by omega) ?_); intro _ _; (try dsimp only)))) | (((with_reducible show wpAny _ _ (call (Value.builtin "str.join") _) _ _ _); (k_here; (refine join_sgn (by assumption) (by k_mem) (by assumption) (by omega) ?_); intro _ _; (try dsimp only)))) | walk1 | (dsimp only; walk1) | (leave1; (try dsimp only)))))
        exact CompEnd.intro (by assumption) (by assumption) _ (fun p hp => hp) off rfl (strs_take hR hc (by rw [fd (by decide), fm (by decide)]; rfl))
      · intro ws hws
        rw [List.take_length] at hws
        intro D h tk F1 N1 hoD
        (repeat' (first | (k_unfold; (try dsimp only)) | ((fail_if_success (with_reducible show wpAny _ _ (pyIter _) _ _ _)); (fail_if_success (with_reducible show InvEndN _ _ _ _ _ _ _)); (fail_if_success (with_reducible show wpAny _ _ (call (Value.ref _) _) _ _ _)); (fail_if_success (with_reducible show wpAny _ _ (exec (Stmt.For (Expr.Name _ _) _ _ _ _) _) _ _ _)); (fail_if_success (with_reducible show wpAny _ _ (exec (Stmt.Assign _ (Expr.ListComp _ _ _ _) _) _) _ _ _)); (fail_if_success (with_reducible show wpAny _ _ (eval (Expr.ListComp _ _ _ _) _) _ _ _)); (fail_if_success (with_reducible show LCg.CompSrc _ _ _ _ _ _ _ _ _ _ _ _ _ _)); (fail_if_success (with_reducible show SrcS _ _ _ _ _ _ _ _ _ _ _ _ _ _)); (fail_if_success (with_reducible show wpAny _ _ (exec (Stmt.For (Expr.Tuple _ _ _) _ _ _ _) _) _ _ _)); (fail_if_success (with_reducible show KswEnd _ _ _ _ _ _ _ _ _ _ _ _)); (fail_if_success (with_reducible show wpAny _ _ (exec (Stmt.While _ _ _ _) _) _ _ _)); first | ((k_here; (with_reducible show wpAny _ _ (subscriptTail _ _ (Value.str _ _) (Value.int _ _)) _ _ _); (refine item_hex ?p0 ?_; (case p0 => first | omega | (rw [fd (by decide)]; omega) | (rw [fm (by decide)]; omega))))) | (((with_reducible show wpAny _ _ (call (Value.builtin "str.join") _) _ _ _); (k_here; (refine join_hex2 (by assumption) (.head _) (by with_reducible assumption) (by omega) ?_); intro _ _; (try dsimp only)))) | (((with_reducible show wpAny _ _ (call (Value.builtin "str.join") _) _ _ _); (k_here; (refine join_sgn (by assumption) (by k_mem) (by assumption) (by omega) ?_); intro _ _; (try dsimp only)))) | walk1 | (dsimp only; walk1) | (leave1; (try dsimp only)))))
        · exact (bneS (by assumption)).elim
        refine ⟨rfl, tt, tf, oa, vo, no, ca, ys, nc, src, x, y, tx, ty, n, q2, p1, St.of (by assumption) ?_ (news_of (by assumption) (by simp only [List.cons_append, List.nil_append]; kst_inAny)), hvo, hys, hq2, hp1, hNB⟩
        simp only [List.cons_append, List.nil_append]; kst_all
    rintro _ ⟨tt, tf, oa, vo, no, ca, ys, nc, src, x, y, tx, ty, n, q2, p1, ⟨u, h, tk, rfl, F1, N1⟩, hvo, hys, hq2, hp1, hNB⟩
    simp only [List.cons_append, List.nil_append] at F1
    dsimp only [kstB] at F1 N1
    simp only [List.cons_append, List.nil_append] at N1
    refine wpI_cut (fun s' => ∃ t tf, Mid4 s l L' own [(Str.ofString "text", .str (KStt.txt cs) t)] cs (.str (Str.ofString "0123456789ABCDEF") tf) s') ?_ ?_
    · (repeat' (first | (k_unfold; (try dsimp only)) | ((fail_if_success (with_reducible show wpAny _ _ (pyIter _) _ _ _)); (fail_if_success (with_reducible show InvEndN _ _ _ _ _ _ _)); (fail_if_success (with_reducible show wpAny _ _ (call (Value.ref _) _) _ _ _)); (fail_if_success (with_reducible show wpAny _ _ (exec (Stmt.For (Expr.Name _ _) _ _ _ _) _) _ _ _)); (fail_if_success (with_reducible show wpAny _ _ (exec (Stmt.Assign _ (Expr.ListComp _ _ _ _) _) _) _ _ _)); (fail_if_success (with_reducible show wpAny _ _ (eval (Expr.ListComp _ _ _ _) _) _ _ _)); (fail_if_success (with_reducible show LCg.CompSrc _ _ _ _ _ _ _ _ _ _ _ _ _ _)); (fail_if_success (with_reducible show SrcS _ _ _ _ _ _ _ _ _ _ _ _ _ _)); (fail_if_success (with_reducible show wpAny _ _ (exec (Stmt.For (Expr.Tuple _ _ _) _ _ _ _) _) _ _ _)); (fail_if_success (with_reducible show KswEnd _ _ _ _ _ _ _ _ _ _ _ _)); (fail_if_success (with_reducible show wpAny _ _ (exec (Stmt.While _ _ _ _) _) _ _ _)); first | ((k_here; (with_reducible show wpAny _ _ (subscriptTail _ _ (Value.str _ _) (Value.int _ _)) _ _ _); (refine item_hex ?p0 ?_; (case p0 => first | omega | (rw [fd (by decide)]; omega) | (rw [fm (by decide)]; omega))))) | (((with_reducible show wpAny _ _ (call (Value.builtin "str.join") _) _ _ _); (k_here; (refine join_hex2 (by assumption) (.head _) (by with_reducible assumption) (by omega) ?_); intro _ _; (try dsimp only)))) | (((with_reducible show wpAny _ _ (call (Value.builtin "str.join") _) _ _ _); (k_here; (refine join_sgn (by assumption) (by k_mem) (by assumption) (by omega) ?_); intro _ _; (try dsimp only)))) | walk1 | (dsimp only; walk1) | (leave1; (try dsimp only)))))
      k_dflt (refine ListComp_S (F₀ := by k_asm) (by with_unfolding_all rfl) (by decide) (by rfl) (by decide) (by rfl) ?_)
      (repeat' (first | (k_unfold; (try dsimp only)) | ((fail_if_success (with_reducible show wpAny _ _ (pyIter _) _ _ _)); (fail_if_success (with_reducible show InvEndN _ _ _ _ _ _ _)); (fail_if_success (with_reducible show wpAny _ _ (call (Value.ref _) _) _ _ _)); (fail_if_success (with_reducible show wpAny _ _ (exec (Stmt.For (Expr.Name _ _) _ _ _ _) _) _ _ _)); (fail_if_success (with_reducible show wpAny _ _ (exec (Stmt.Assign _ (Expr.ListComp _ _ _ _) _) _) _ _ _)); (fail_if_success (with_reducible show wpAny _ _ (eval (Expr.ListComp _ _ _ _) _) _ _ _)); (fail_if_success (with_reducible show LCg.CompSrc _ _ _ _ _ _ _ _ _ _ _ _ _ _)); (fail_if_success (with_reducible show SrcS _ _ _ _ _ _ _ _ _ _ _ _ _ _)); (fail_if_success (with_reducible show wpAny _ _ (exec (Stmt.For (Expr.Tuple _ _ _) _ _ _ _) _) _ _ _)); (fail_if_success (with_reducible show KswEnd _ _ _ _ _ _ _ _ _ _ _ _)); (fail_if_success (with_reducible show wpAny _ _ (exec (Stmt.While _ _ _ _) _) _ _ _)); first | ((k_here; (with_reducible show wpAny _ _ (subscriptTail _ _ (Value.str _ _) (Value.int _ _)) _ _ _); (refine item_hex ?p0 ?_; (case p0 => first | omega | (rw [fd (by decide)]; omega) | (rw [fm (by decide)]; omega))))) | (((with_reducible show wpAny _ _ (call (Value.builtin "str.join") _) _ _ _); (k_here; (refine join_hex2 (by assumption) (.head _) (by with_reducible assumption) (by omega) ?_); intro _ _; (try dsimp only)))) | (((with_reducible show wpAny _ _ (call (Value.builtin "str.join") _) _ _ _); (k_here; (refine join_sgn (by assumption) (by k_mem) (by assumption) (by omega) ?_); intro _ _; (try dsimp only)))) | walk1 | (dsimp only; walk1) | (leave1; (try dsimp only)))))
      have hX := fold_cl w (KStt.txt cs) tt ((oa, W.listOf vo.toArray no) :: (ca, W.listOf ys.toArray nc) :: (src, srcO x y tx ty n) :: (L' + 1, q2) :: (L' + 1 + 1, p1) :: own) (by rw [codes_txt hnn]; omega) (by rw [codes_txt hnn]; exact hcr)
      rw [codes_txt hnn] at hX
      k_dflt (refine' Cl.use hX ?k1 ?k2 ?k3 ?k4 ?k5 ?kK ?kd ?ku ?_; (case k4 => k_asm); (((case k1 => k_asm); (case k2 => k_asm); (case k3 => k_asm); (case k5 => k_asm); (case kK => first | exact rfl | assumption); (case kd => ktr_room); (case ku => ktr_units); k_whole)))
      rintro _ _ h9 tk9 ⟨rfl, t9, rfl⟩ F9 N9
      (try dsimp only); (try k_fold)
      (repeat' (first | (k_unfold; (try dsimp only)) | ((fail_if_success (with_reducible show wpAny _ _ (pyIter _) _ _ _)); (fail_if_success (with_reducible show InvEndN _ _ _ _ _ _ _)); (fail_if_success (with_reducible show wpAny _ _ (call (Value.ref _) _) _ _ _)); (fail_if_success (with_reducible show wpAny _ _ (exec (Stmt.For (Expr.Name _ _) _ _ _ _) _) _ _ _)); (fail_if_success (with_reducible show wpAny _ _ (exec (Stmt.Assign _ (Expr.ListComp _ _ _ _) _) _) _ _ _)); (fail_if_success (with_reducible show wpAny _ _ (eval (Expr.ListComp _ _ _ _) _) _ _ _)); (fail_if_success (with_reducible show LCg.CompSrc _ _ _ _ _ _ _ _ _ _ _ _ _ _)); (fail_if_success (with_reducible show SrcS _ _ _ _ _ _ _ _ _ _ _ _ _ _)); (fail_if_success (with_reducible show wpAny _ _ (exec (Stmt.For (Expr.Tuple _ _ _) _ _ _ _) _) _ _ _)); (fail_if_success (with_reducible show KswEnd _ _ _ _ _ _ _ _ _ _ _ _)); (fail_if_success (with_reducible show wpAny _ _ (exec (Stmt.While _ _ _ _) _) _ _ _)); first | ((k_here; (with_reducible show wpAny _ _ (subscriptTail _ _ (Value.str _ _) (Value.int _ _)) _ _ _); (refine item_hex ?p0 ?_; (case p0 => first | omega | (rw [fd (by decide)]; omega) | (rw [fm (by decide)]; omega))))) | (((with_reducible show wpAny _ _ (call (Value.builtin "str.join") _) _ _ _); (k_here; (refine join_hex2 (by assumption) (.head _) (by with_reducible assumption) (by omega) ?_); intro _ _; (try dsimp only)))) | (((with_reducible show wpAny _ _ (call (Value.builtin "str.join") _) _ _ _); (k_here; (refine join_sgn (by assumption) (by k_mem) (by assumption) (by omega) ?_); intro _ _; (try dsimp only)))) | walk1 | (dsimp only; walk1) | (leave1; (try dsimp only)))))
      have hnl : ∀ c ∈ cs.map lowF, 0 ≤ c := by
        intro c hc
        obtain ⟨d, hd, rfl⟩ := List.mem_map.mp hc
        have := hnn d hd
        unfold lowF; split <;> omega
      refine ⟨_, _, _, rfl, by rfl, by k_asm, by assumption, ?_, fun g => kcs_rest (fun k => k) ?_ ?_⟩
      · show (KStt.txt (cs.map lowF)).cps.size ≤ sizeLine
        rw [sizeLine_eq, ← codes_len', codes_txt hnl, List.length_map]; omega
      · intro k t I oI C oC D m₂ ys h tk E' hk hC hx F1 N1 off ne mk
        (repeat' (first | (k_unfold; (try dsimp only)) | ((fail_if_success (with_reducible show wpAny _ _ (pyIter _) _ _ _)); (fail_if_success (with_reducible show InvEndN _ _ _ _ _ _ _)); (fail_if_success (with_reducible show wpAny _ _ (call (Value.ref _) _) _ _ _)); (fail_if_success (with_reducible show wpAny _ _ (exec (Stmt.For (Expr.Name _ _) _ _ _ _) _) _ _ _)); (fail_if_success (with_reducible show wpAny _ _ (exec (Stmt.Assign _ (Expr.ListComp _ _ _ _) _) _) _ _ _)); (fail_if_success (with_reducible show wpAny _ _ (eval (Expr.ListComp _ _ _ _) _) _ _ _)); (fail_if_success (with_reducible show LCg.CompSrc _ _ _ _ _ _ _ _ _ _ _ _ _ _)); (fail_if_success (with_reducible show SrcS _ _ _ _ _ _ _ _ _ _ _ _ _ _)); (fail_if_success (with_reducible show wpAny _ _ (exec (Stmt.For (Expr.Tuple _ _ _) _ _ _ _) _) _ _ _)); (fail_if_success (with_reducible show KswEnd _ _ _ _ _ _ _ _ _ _ _ _)); (fail_if_success (with_reducible show wpAny _ _ (exec (Stmt.While _ _ _ _) _) _ _ _)); first | ((k_here; (with_reducible show wpAny _ _ (subscriptTail _ _ (Value.str _ _) (Value.int _ _)) _ _ _); (refine item_hex ?p0 ?_; (case p0 => first | omega | (rw [fd (by decide)]; omega) | (rw [fm (by decide)]; omega))))) | (((with_reducible show wpAny _ _ (call (Value.builtin "str.join") _) _ _ _); (k_here; (refine join_hex2 (by assumption) (.head _) (by with_reducible assumption) (by omega) ?_); intro _ _; (try dsimp only)))) | (((with_reducible show wpAny _ _ (call (Value.builtin "str.join") _) _ _ _); (k_here; (refine join_sgn (by assumption) (by k_mem) (by assumption) (by omega) ?_); intro _ _; (try dsimp only)))) | walk1 | (dsimp only; walk1) | (leave1; (try dsimp only)))))
      · intro zs hzs
        rw [codes_txt hnl, List.map_id'] at hzs
        intro D h tk F1 N1 hoD
        (repeat' (first | (k_unfold; (try dsimp only)) | ((fail_if_success (with_reducible show wpAny _ _ (pyIter _) _ _ _)); (fail_if_success (with_reducible show InvEndN _ _ _ _ _ _ _)); (fail_if_success (with_reducible show wpAny _ _ (call (Value.ref _) _) _ _ _)); (fail_if_success (with_reducible show wpAny _ _ (exec (Stmt.For (Expr.Name _ _) _ _ _ _) _) _ _ _)); (fail_if_success (with_reducible show wpAny _ _ (exec (Stmt.Assign _ (Expr.ListComp _ _ _ _) _) _) _ _ _)); (fail_if_success (with_reducible show wpAny _ _ (eval (Expr.ListComp _ _ _ _) _) _ _ _)); (fail_if_success (with_reducible show LCg.CompSrc _ _ _ _ _ _ _ _ _ _ _ _ _ _)); (fail_if_success (with_reducible show SrcS _ _ _ _ _ _ _ _ _ _ _ _ _ _)); (fail_if_success (with_reducible show wpAny _ _ (exec (Stmt.For (Expr.Tuple _ _ _) _ _ _ _) _) _ _ _)); (fail_if_success (with_reducible show KswEnd _ _ _ _ _ _ _ _ _ _ _ _)); (fail_if_success (with_reducible show wpAny _ _ (exec (Stmt.While _ _ _ _) _) _ _ _)); first | ((k_here; (with_reducible show wpAny _ _ (subscriptTail _ _ (Value.str _ _) (Value.int _ _)) _ _ _); (refine item_hex ?p0 ?_; (case p0 => first | omega | (rw [fd (by decide)]; omega) | (rw [fm (by decide)]; omega))))) | (((with_reducible show wpAny _ _ (call (Value.builtin "str.join") _) _ _ _); (k_here; (refine join_hex2 (by assumption) (.head _) (by with_reducible assumption) (by omega) ?_); intro _ _; (try dsimp only)))) | (((with_reducible show wpAny _ _ (call (Value.builtin "str.join") _) _ _ _); (k_here; (refine join_sgn (by assumption) (by k_mem) (by assumption) (by omega) ?_); intro _ _; (try dsimp only)))) | walk1 | (dsimp only; walk1) | (leave1; (try dsimp only)))))
        k_dflt (refine LCg.ListComp_U (F₀ := by k_asm) (by with_unfolding_all rfl) (by decide) (by rfl) (by decide) (by rfl) ?_)
        (repeat' (first | (k_unfold; (try dsimp only)) | ((fail_if_success (with_reducible show wpAny _ _ (pyIter _) _ _ _)); (fail_if_success (with_reducible show InvEndN _ _ _ _ _ _ _)); (fail_if_success (with_reducible show wpAny _ _ (call (Value.ref _) _) _ _ _)); (fail_if_success (with_reducible show wpAny _ _ (exec (Stmt.For (Expr.Name _ _) _ _ _ _) _) _ _ _)); (fail_if_success (with_reducible show wpAny _ _ (exec (Stmt.Assign _ (Expr.ListComp _ _ _ _) _) _) _ _ _)); (fail_if_success (with_reducible show wpAny _ _ (eval (Expr.ListComp _ _ _ _) _) _ _ _)); (fail_if_success (with_reducible show LCg.CompSrc _ _ _ _ _ _ _ _ _ _ _ _ _ _)); (fail_if_success (with_reducible show SrcS _ _ _ _ _ _ _ _ _ _ _ _ _ _)); (fail_if_success (with_reducible show wpAny _ _ (exec (Stmt.For (Expr.Tuple _ _ _) _ _ _ _) _) _ _ _)); (fail_if_success (with_reducible show KswEnd _ _ _ _ _ _ _ _ _ _ _ _)); (fail_if_success (with_reducible show wpAny _ _ (exec (Stmt.While _ _ _ _) _) _ _ _)); first | ((k_here; (with_reducible show wpAny _ _ (subscriptTail _ _ (Value.str _ _) (Value.int _ _)) _ _ _); (refine item_hex ?p0 ?_; (case p0 => first | omega | (rw [fd (by decide)]; omega) | (rw [fm (by decide)]; omega))))) | (((with_reducible show wpAny _ _ (call (Value.builtin "str.join") _) _ _ _); (k_here; (refine join_hex2 (by assumption) (.head _) (by with_reducible assumption) (by omega) ?_); intro _ _; (try dsimp only)))) | (((with_reducible show wpAny _ _ (call (Value.builtin "str.join") _) _ _ _); (k_here; (refine join_sgn (by assumption) (by k_mem) (by assumption) (by omega) ?_); intro _ _; (try dsimp only)))) | walk1 | (dsimp only; walk1) | (leave1; (try dsimp only)))))
        with_unfolding_all refine CompSrc.ledger (k := nc) (by rfl) (by assumption) (by assumption) (.tail _ (.tail _ (.head _))) ?_ (fun g => lc_rest hys (srcAt_led (.tail _ (.tail _ (.head _)))) (fun i ys => IntsAre ys ((cs.take i).map lowF)) .nil ?_ ?_)
        · have := hys.length; simp only [List.size_toArray, sizeLine_eq]; omega
        · intro i c t I oI C oC D m₂ ws h tk E' hc hR hC hx F1 N1 off ne mk
          have hcc := hcr c (List.mem_of_getElem? hc)
          (repeat' (first | (k_unfold; (try dsimp only)) | ((fail_if_success (with_reducible show wpAny _ _ (pyIter _) _ _ _)); (fail_if_success (with_reducible show InvEndN _ _ _ _ _ _ _)); (fail_if_success (with_reducible show wpAny _ _ (call (Value.ref _) _) _ _ _)); (fail_if_success (with_reducible show wpAny _ _ (exec (Stmt.For (Expr.Name _ _) _ _ _ _) _) _ _ _)); (fail_if_success (with_reducible show wpAny _ _ (exec (Stmt.Assign _ (Expr.ListComp _ _ _ _) _) _) _ _ _)); (fail_if_success (with_reducible show wpAny _ _ (eval (Expr.ListComp _ _ _ _) _) _ _ _)); (fail_if_success (with_reducible show LCg.CompSrc _ _ _ _ _ _ _ _ _ _ _ _ _ _)); (fail_if_success (with_reducible show SrcS _ _ _ _ _ _ _ _ _ _ _ _ _ _)); (fail_if_success (with_reducible show wpAny _ _ (exec (Stmt.For (Expr.Tuple _ _ _) _ _ _ _) _) _ _ _)); (fail_if_success (with_reducible show KswEnd _ _ _ _ _ _ _ _ _ _ _ _)); (fail_if_success (with_reducible show wpAny _ _ (exec (Stmt.While _ _ _ _) _) _ _ _)); first | ((k_here; (with_reducible show wpAny _ _ (subscriptTail _ _ (Value.str _ _) (Value.int _ _)) _ _ _); (refine item_hex ?p0 ?_; (case p0 => first | omega | (rw [fd (by decide)]; omega) | (rw [fm (by decide)]; omega))))) | (((with_reducible show wpAny _ _ (call (Value.builtin "str.join") _) _ _ _); (k_here; (refine join_hex2 (by assumption) (.head _) (by with_reducible assumption) (by omega) ?_); intro _ _; (try dsimp only)))) | (((with_reducible show wpAny _ _ (call (Value.builtin "str.join") _) _ _ _); (k_here; (refine join_sgn (by assumption) (by k_mem) (by assumption) (by omega) ?_); intro _ _; (try dsimp only)))) | walk1 | (dsimp only; walk1) | (leave1; (try dsimp only)))))
          · refine CompEnd.intro (by assumption) (by assumption) _ (fun p hp => hp) off rfl (ints_take hR hc ?_)
            show c + 32 = lowF c
            unfold lowF; rw [if_pos ⟨by assumption, by assumption⟩]
          · refine CompEnd.intro (by assumption) (by assumption) _ (fun p hp => hp) off rfl (ints_take hR hc ?_)
            unfold lowF; rw [if_neg (fun q => absurd q.2 (by assumption))]
          · refine CompEnd.intro (by assumption) (by assumption) _ (fun p hp => hp) off rfl (ints_take hR hc ?_)
            unfold lowF; rw [if_neg (fun q => absurd q.1 (by assumption))]
        · intro ws hws
          rw [List.take_length] at hws
          intro D2 h2 tk2 F2 N2 hoD2
          (repeat' (first | (k_unfold; (try dsimp only)) | ((fail_if_success (with_reducible show wpAny _ _ (pyIter _) _ _ _)); (fail_if_success (with_reducible show InvEndN _ _ _ _ _ _ _)); (fail_if_success (with_reducible show wpAny _ _ (call (Value.ref _) _) _ _ _)); (fail_if_success (with_reducible show wpAny _ _ (exec (Stmt.For (Expr.Name _ _) _ _ _ _) _) _ _ _)); (fail_if_success (with_reducible show wpAny _ _ (exec (Stmt.Assign _ (Expr.ListComp _ _ _ _) _) _) _ _ _)); (fail_if_success (with_reducible show wpAny _ _ (eval (Expr.ListComp _ _ _ _) _) _ _ _)); (fail_if_success (with_reducible show LCg.CompSrc _ _ _ _ _ _ _ _ _ _ _ _ _ _)); (fail_if_success (with_reducible show SrcS _ _ _ _ _ _ _ _ _ _ _ _ _ _)); (fail_if_success (with_reducible show wpAny _ _ (exec (Stmt.For (Expr.Tuple _ _ _) _ _ _ _) _) _ _ _)); (fail_if_success (with_reducible show KswEnd _ _ _ _ _ _ _ _ _ _ _ _)); (fail_if_success (with_reducible show wpAny _ _ (exec (Stmt.While _ _ _ _) _) _ _ _)); first | ((k_here; (with_reducible show wpAny _ _ (subscriptTail _ _ (Value.str _ _) (Value.int _ _)) _ _ _); (refine item_hex ?p0 ?_; (case p0 => first | omega | (rw [fd (by decide)]; omega) | (rw [fm (by decide)]; omega))))) | (((with_reducible show wpAny _ _ (call (Value.builtin "str.join") _) _ _ _); (k_here; (refine join_hex2 (by assumption) (.head _) (by with_reducible assumption) (by omega) ?_); intro _ _; (try dsimp only)))) | (((with_reducible show wpAny _ _ (call (Value.builtin "str.join") _) _ _ _); (k_here; (refine join_sgn (by assumption) (by k_mem) (by assumption) (by omega) ?_); intro _ _; (try dsimp only)))) | walk1 | (dsimp only; walk1) | (leave1; (try dsimp only)))))
          refine ⟨rfl, tt, tf, oa, vo, no, ca, ys, nc, src, x, y, tx, ty, n, q2, p1, St.of F2 ?_ (news_of N2 (by simp only [List.cons_append, List.nil_append]; kst_inAny)), hvo, hys, hq2, hp1, hNB⟩
          simp only [List.cons_append, List.nil_append]; kst_all
    rintro _ ⟨tt, tf, oa, vo, no, ca, ys, nc, src, x, y, tx, ty, n, q2, p1, ⟨u, h, tk, rfl, F1, N1⟩, hvo, hys, hq2, hp1, hNB⟩
    simp only [List.cons_append, List.nil_append] at F1
    dsimp only [kstB] at F1 N1
    simp only [List.cons_append, List.nil_append] at N1
    refine wpI_execs_nil ?_
    show InvEndN _ _ _ _ _ _ _
    refine JS.end (p1, q2) F1 N1 (by kst_inAny) (by kst_inAny) (by rfl) ⟨⟨_, hp1⟩, _, hq2⟩ (by kst_all)
  · intro ⟨p1, p2⟩ u h tk _ F1 N1
    dsimp only [kstB] at F1 N1
    refine wpI_execs_any ?_
    (repeat' (first | (k_unfold; (try dsimp only)) | ((fail_if_success (with_reducible show wpAny _ _ (pyIter _) _ _ _)); (fail_if_success (with_reducible show InvEndN _ _ _ _ _ _ _)); (fail_if_success (with_reducible show wpAny _ _ (call (Value.ref _) _) _ _ _)); (fail_if_success (with_reducible show wpAny _ _ (exec (Stmt.For (Expr.Name _ _) _ _ _ _) _) _ _ _)); (fail_if_success (with_reducible show wpAny _ _ (exec (Stmt.Assign _ (Expr.ListComp _ _ _ _) _) _) _ _ _)); (fail_if_success (with_reducible show wpAny _ _ (eval (Expr.ListComp _ _ _ _) _) _ _ _)); (fail_if_success (with_reducible show LCg.CompSrc _ _ _ _ _ _ _ _ _ _ _ _ _ _)); (fail_if_success (with_reducible show SrcS _ _ _ _ _ _ _ _ _ _ _ _ _ _)); (fail_if_success (with_reducible show wpAny _ _ (exec (Stmt.For (Expr.Tuple _ _ _) _ _ _ _) _) _ _ _)); (fail_if_success (with_reducible show KswEnd _ _ _ _ _ _ _ _ _ _ _ _)); (fail_if_success (with_reducible show wpAny _ _ (exec (Stmt.While _ _ _ _) _) _ _ _)); first | ((k_here; (with_reducible show wpAny _ _ (subscriptTail _ _ (Value.str _ _) (Value.int _ _)) _ _ _); (refine item_hex ?p0 ?_; (case p0 => first | omega | (rw [fd (by decide)]; omega) | (rw [fm (by decide)]; omega))))) | (((with_reducible show wpAny _ _ (call (Value.builtin "str.join") _) _ _ _); (k_here; (refine join_hex2 (by assumption) (.head _) (by with_reducible assumption) (by omega) ?_); intro _ _; (try dsimp only)))) | (((with_reducible show wpAny _ _ (call (Value.builtin "str.join") _) _ _ _); (k_here; (refine join_sgn (by assumption) (by k_mem) (by assumption) (by omega) ?_); intro _ _; (try dsimp only)))) | walk1 | (dsimp only; walk1) | (leave1; (try dsimp only)))))
    exact hret _ _ h tk F1
end Mine
end
open PySem PySem.W PyProof.Rows
set_option maxRecDepth 100000 in
set_option maxHeartbeats 8000000 in
theorem PySem.Challenge.cw_nt0091_01_holds : PySem.Challenge.rw_nt0091_01.Holds := by
  refine Mine.hd ?_
  intro w s₀ s₁ mg mb G Y fa o pm cd doc dV kV ho hd hcd hD hmg hg args vals as hpre hlay hrd hwl hlo
  have KX := kIn_of Y
  refine Ground.open G ?_
  intro T B D TE TW
  have e := mg_of (n := PySem.Str.ofString "law") (v := .ref 127) KX T.g (by rfl)
  have hfa : fa = 127 := by
    have q := hmg.symm.trans e
    injection q with q; injection q
  subst hfa
  wrow_args hpre hlay hrd hwl hlo
  refine Mine.law_I w _ _ _ (by assumption) (by omega) s₁ _ KX T (by assumption) fun L' m' h' tk' F => ?_
  refine GoodW.toG (goodW_bool F hg (raisesW_false ?_) ?_)
  · wrow_none_raised
  · wrow_post
