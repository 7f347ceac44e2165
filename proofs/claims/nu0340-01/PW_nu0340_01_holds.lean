import PyProof.Rows.All
import Wide.All
import OpenK.AllK
import Wide.FinOn
import Lean
import PySem.Challenge.RW_nu0340_01
open PySem PySem.W PyProof.Rows
set_option Elab.async false
set_option linter.all false
set_option maxRecDepth 100000
namespace Mine
/-- the top's run over a tree of objects -/
noncomputable def topRunT (tb : String → Option Builtin) (p : Program) (w : World) (n₀ : Nat) (ann : Option Value) : Nat → SharedT → Thread → Option SharedT
  | 0, _, _ => none
  | n + 1, s, t => match through t with
    | true => some s
    | false => match stepOk n₀ ann t with
      | false => none
      | true => match stepT (denote tb) p w s t with
        | some (s', t') => topRunT tb p w n₀ ann n s' t'
        | none => none
theorem topRunT_spec {tb : String → Option Builtin} {p : Program} {w : World} {n₀ : Nat} {ann : Option Value} : ∀ {n : Nat} {s s' : SharedT} {t : Thread}, topRunT tb p w n₀ ann n s t = some s' → topRun tb p w n₀ ann n s.abs t = some s'.abs
  | 0, _, _, _, h => by cases h
  | n + 1, s, s', t, h => by
    unfold topRunT at h
    unfold topRun
    cases ht : through t with
    | true => rw [ht] at h; cases h; rfl
    | false =>
      rw [ht] at h
      cases hk : stepOk n₀ ann t with
      | false => rw [hk] at h; cases h
      | true =>
        rw [hk] at h
        cases hs : stepT (denote tb) p w s t with
        | none => rw [hs] at h; cases h
        | some r =>
          obtain ⟨s₁, t₁⟩ := r
          rw [hs] at h
          have e := stepT_spec hs
          simp only [e]
          exact topRunT_spec h
noncomputable def treeOf : List Obj → Nat → BT → BT
  | [], _, T => T
  | o :: l, i, T => treeOf l (i + 1) (T.ins i o)
noncomputable def T0 (P : Params) : BT := treeOf (boot_heap P).objs.toList 0 .nil
/-- the head's looks, all over the tree's run -/
theorem left_of {p q : Program} {loose : List Str} {Xt : Shared → Bool} {α : Type} {Yf : Shared → α} {Ya : World → α} {N : Nat} {T₀ : Params → BT} {n₀ : Nat} {life : Life} {gs₀ : Array GenState} {d₀ : Drawn} {k₀ m₀ : Nat} {ann : Option Value}
    (open_ : ∀ w : World, (fencedOpening treeTable p w N).map (fun s => (s.heap, s.gens, s.drawn, s.toks)) = some (absHeap (T₀ w.params) n₀ life, gs₀, d₀, k₀))
    (size : ∀ w : World, ((absHeap (T₀ w.params) n₀ life).isNs mainGlobals && gs₀.size == 0, (absHeap (T₀ w.params) n₀ life).objs.size, (absHeap (T₀ w.params) n₀ life).nsMap mainGlobals "__annotations__") = (true, m₀, ann))
    (chk : ∀ (w : World) (os : OsState), (topRunT treeTable p w m₀ ann N ⟨T₀ w.params, n₀, life, gs₀, d₀, k₀, os⟩ (topStub p)).map (fun s =>
        (staticsOk (importedModules p.main.body) (absHeap (T₀ w.params) n₀ life) s.abs.heap && namesBound p s.abs.heap && gensDone s.abs && laidKept (absHeap (T₀ w.params) n₀ life) s.abs.heap,
         openSeen q loose (importedModules p.main.body) Xt true s.abs, Yf s.abs)) = some (true, openGood q loose, Ya w)) : LeftO p q loose Xt Yf Ya N := fun w => by
  obtain ⟨⟨h, gs, d, k, os⟩, e, e'⟩ := Option.map_eq_some_iff.mp (open_ w)
  obtain ⟨rfl, rfl, rfl, rfl⟩ : h = absHeap (T₀ w.params) n₀ life ∧ gs = gs₀ ∧ d = d₀ ∧ k = k₀ := by simpa using e'
  obtain ⟨z1, z2, z3⟩ : _ ∧ _ ∧ _ := by simpa only [Prod.mk.injEq] using size w
  obtain ⟨s', r, l⟩ := Option.map_eq_some_iff.mp (chk w os)
  obtain ⟨l1, l2, l3⟩ : _ ∧ _ ∧ _ := by simpa only [Prod.mk.injEq] using l
  have r' := topRunT_spec r
  have t : topFrom treeTable p w N ⟨absHeap (T₀ w.params) n₀ life, gs, d, k, os⟩ = some s'.abs := by
    unfold topFrom
    dsimp only
    rw [z1, z2, z3]
    show (topRun treeTable p w m₀ ann N (SharedT.abs ⟨T₀ w.params, n₀, life, gs, d, k, os⟩) (topStub p)).bind _ = _
    rw [r']
    show (match staticsOk (importedModules p.main.body) (absHeap (T₀ w.params) n₀ life) s'.abs.heap && namesBound p s'.abs.heap && gensDone s'.abs && laidKept (absHeap (T₀ w.params) n₀ life) s'.abs.heap with | true => _ | false => _) = _
    rw [l1]
  unfold openEnds
  rw [e]
  show (topFrom treeTable p w N _).map _ = _
  rw [t]
  exact congrArg some (Prod.ext l2 l3)
noncomputable def PW : Program := PySem.Challenge.pw_nu0340_01
noncomputable def VQ : Program := view PySem.Challenge.pw_nu0340_01 [0, 2, 3, 4, 5, 7, 8, 9, 10, 11, 13, 15, 16, 17, 18, 19, 20, 21, 22, 23, 24, 25, 26, 27, 28, 29, 30, 31, 32, 33, 34, 35, 36, 38, 40, 41, 42, 44, 45, 46, 47, 48, 49, 50, 51]
set_option maxHeartbeats 0 in
theorem opened : ∀ w : World, (fencedOpening treeTable PySem.Challenge.pw_nu0340_01 w 5304).map (fun s => (s.heap, s.gens, s.drawn, s.toks)) = some (absHeap (T0 w.params) 11 {}, #[], boot_drawn, boot_toks) := by
  have e : opening PySem.Challenge.pw_nu0340_01 = plainProg PySem.Challenge.pw_nu0340_01.main.scope.names := by kernel_rfl
  have b : ∀ P, boot_heap P = absHeap (T0 P) 11 {} := fun P => by kernel_rfl
  intro w
  rw [← b]
  exact boot_open e rfl (fun s => by kernel_rfl) w
set_option maxHeartbeats 0 in
theorem sized : ∀ w : World, ((absHeap (T0 w.params) 11 {}).isNs mainGlobals && (#[] : Array GenState).size == 0, (absHeap (T0 w.params) 11 {}).objs.size, (absHeap (T0 w.params) 11 {}).nsMap mainGlobals "__annotations__") = (true, 11, some (.ref 6)) := fun w => by kernel_rfl
set_option maxHeartbeats 0 in
theorem ws : OpenLaw.wellSaid PySem.Challenge.rw_nu0340_01 = true := by kernel_rfl
set_option hygiene false in
local macro_rules | `(tactic| o_law) => `(tactic| refine holds_law Mine.ws fun said => ?_)
set_option hygiene false in
local macro_rules | `(tactic| o_head $H) => `(tactic| (
  refine holds_open (q := Mine.VQ) (loose := []) (Xt := fun s => xlAt Mine.VQ [] s && recOk (RowW.records PySem.Challenge.rw_nu0340_01.row.toRowW) s) (XP := XL Mine.VQ []) (Yf := Hook.obs $H) (Ya := Hook.val $H) (YP := Hook.says $H) (N := 5304) ?hl (Hook.of $H) (Hook.keeps $H) (fun s e => xl_of s (Bool.and_eq_true_iff.mp e).1) XL.keeps (by rfl) (by rfl) (by rfl) (fun s e => recFacts_of (Bool.and_eq_true_iff.mp e).2) (by rfl) (by assumption) (by decide +kernel) ⟨rfl, rfl, rfl, rfl, rfl, by decide +kernel⟩ ?hw ?hc
  case hl => exact left_of opened sized (fun w os => by kernel_rfl)))
set_option maxHeartbeats 0 in
open_top hd for PySem.Challenge.rw_nu0340_01
end Mine
open PySem PySem.W PyProof.Rows PySem.Calls PySem.Spec PySem.SeqAt
set_option genSizeOf false
set_option genSizeOfSpec false
set_option genInjectivity false
namespace Mine
/-- a frame's names as a list, the newest first -/
noncomputable def look (l : List (Str × Value)) (y : Str) : Option Value := l.lookup y
theorem look_hit {x : Str} {v : Value} {l : List (Str × Value)} : look ((x, v) :: l) x = some v := by simp [look, List.lookup]
theorem look_miss {x y : Str} {v w : Value} {l : List (Str × Value)} (h : (y == x) = false) (k : look l y = some w) : look ((x, v) :: l) y = some w := by
  unfold look at k ⊢
  rw [List.lookup_cons, h]
  exact k
theorem look_store {x : Str} {v : Value} {l : List (Str × Value)} : (fun y => if y = x then some v else look l y) = look ((x, v) :: l) := by
  funext y
  unfold look
  rw [List.lookup_cons]
  by_cases h : y = x
  · subst h; simp
  · rw [if_neg h, show (y == x) = false from beq_eq_false_iff_ne.mpr h]
noncomputable def okL (cs : Scope) (x : Str) : Bool := (match cs.kind with | .function => true | _ => false) && (match cs.names.lookup x with | some .local => true | _ => false) && !(x == ("__debug__" : Str))
theorem okL_of {cs : Scope} {x : Str} (h : okL cs x = true) : cs.kind = .function ∧ cs.names.lookup x = some .local ∧ (x == ("__debug__" : Str)) = false := by
  unfold okL at h
  simp only [Bool.and_eq_true, Bool.not_eq_true'] at h
  obtain ⟨⟨h1, h2⟩, h3⟩ := h
  refine ⟨?_, ?_, h3⟩
  · cases hk : cs.kind <;> rw [hk] at h1 <;> first | rfl | cases h1
  · cases hk : cs.names.lookup x with
    | none => rw [hk] at h2; cases h2
    | some k => rw [hk] at h2; cases k <;> first | rfl | cases h2
section
variable {prog : Program} {w : World} {M : Model} {A A₀ : Around} {E : Value → Shared → Prop} {s : Shared} {K : Frag} {L a : Addr} {h₀ base : Heap} {m mg mb : Str → Option Value} {news : List (Addr × Obj)} {p : Program} {loose : List Str} {mean : ExcName → Option Value} {cn : Str} {cs : Scope} {ccd : Value} {cl : List (Str × Addr)} {l : List (Str × Value)} {x : Str} {v : Value}
theorem nameL {pos : Pos} {Q : Value → Shared → Prop} (F : Fr h₀ L s.heap (look l)) (hv : look l x = some v) (ok : okL cs x = true) (h : Q v s) : wpAny M A (eval (.Name x pos) (envX cn cs L a ccd cl)) Q E s :=
  nameX_L F hv h (okL_of ok).1 (okL_of ok).2.1 (okL_of ok).2.2
theorem storeL {Q : Unit → Shared → Prop} (F : Fr h₀ L s.heap (look l)) (N : News h₀ L s.heap news) (ok : okL cs x = true)
    (h : ∀ h', Fr h₀ L h' (look ((x, v) :: l)) → News h₀ L h' news → Q () { s with heap := h', toks := s.toks + 1 }) : wpAny M A (storeName (envX cn cs L a ccd cl) x v) Q E s :=
  storeX_L F N (fun h' F' N' => h h' (look_store ▸ F') N') (okL_of ok).1 (okL_of ok).2.1
theorem nameO {pos : Pos} {Q : Value → Shared → Prop} (F : Fr h₀ L s.heap (look l)) (hv : look l x = some v) (ok : okL cs x = true) (h : Q v s) : wpAny M A (eval (.Name x pos) (envOf cn cs L a ccd)) Q E s := nameL (cl := []) F hv ok h
theorem storeO {Q : Unit → Shared → Prop} (F : Fr h₀ L s.heap (look l)) (N : News h₀ L s.heap news) (ok : okL cs x = true)
    (h : ∀ h' tk, Fr h₀ L h' (look ((x, v) :: l)) → News h₀ L h' news → Q () { s with heap := h', toks := tk }) : wpAny M A (storeName (envOf cn cs L a ccd) x v) Q E s := storeL (cl := []) F N ok fun h' => h h' _
/-- a def's call: its frame as a list -/
theorem enterL {env : Env} {outer : List Env} {R : Result → Shared → Prop} {name qual : Str} {params : Arguments} {body : List Stmt} {scope : Scope} {dV kV doc pm cdv ct oc : Value} {an od : Option Addr} {osl : Array (Option Value)} {f : Addr} {args : Args} {binds : List (Str × Value)}
    (l : List (Str × Value))
    (B : Below A₀ base outer h₀) (F : Fr h₀ L s.heap m) (X₀ : K.In h₀) (N : News h₀ L s.heap news) (T : Top p loose mean mg mb h₀) (hA : A.frames = some (env :: outer)) (hf : env.frame = some L) (hke : env.scope.kind = .function)
    (ho : K.lookup f = some ⟨oc, od, .func (fnOf name qual params body scope dV kV doc pm an cdv ct), osl⟩) (hcd : codeIn K cdv qual = true) (hroom : A.depth < recursionLimit)
    (hbind : BindsTo s (fnOf name qual params body scope dV kV doc pm an cdv ct) args binds) (hl : binds.reverse = l) (hloc : ∀ y ∈ binds, scope.names.lookup y.1 = some .local)
    (h : ∀ g L' h₁, Fr h₀ L g m → Fr g L' h₁ (look l) → News g L' h₁ news → Below A base (env :: outer) g → K.In g → Top p loose mean mg mb g →
      wpAny (model prog w) (A.deeper (envOf qual scope L' f cdv)) (execs body (envOf qual scope L' f cdv))
        (fun fl s' => LeaveK h₀ L m g R (match fl with | .ret v => v | _ => .none) s')
        (fun e s' => wpAny (model prog w) (A.deeper (envOf qual scope L' f cdv)) (leaving (envOf qual scope L' f cdv) e) (fun _ s'' => R (.error e) s'') (fun e' s'' => R (.error e') s'') s')
        { s with heap := h₁, toks := s.toks + binds.length })
    (hco : scope.isCoroutine = false) (hgen : scope.isGenerator = false) (hk : scope.kind = .function)
    (hcell : ∀ x ∈ scope.names, x.2 ≠ .cell) : codeAny (model prog w) A (.call (.ref f) args) R s :=
  code_def B F X₀ N T hA hf hke ho hcd hroom hbind hloc (fun g L' h₁ FG F' => h g L' h₁ FG (by subst hl; exact F')) hco hgen hk hcell
/-- the same, the names and the values side by side -/
theorem enterP {env : Env} {outer : List Env} {R : Result → Shared → Prop} {name qual : Str} {params : Arguments} {body : List Stmt} {scope : Scope} {dV kV doc pm cdv ct oc : Value} {an od : Option Addr} {osl : Array (Option Value)} {f : Addr} {vals : List Value}
    (dv : List Value) {l : List (Str × Value)}
    (B : Below A₀ base outer h₀) (F : Fr h₀ L s.heap m) (X₀ : K.In h₀) (N : News h₀ L s.heap news) (T : Top p loose mean mg mb h₀) (hA : A.frames = some (env :: outer)) (hf : env.frame = some L) (hke : env.scope.kind = .function)
    (ho : K.lookup f = some ⟨oc, od, .func (fnOf name qual params body scope dV kV doc pm an cdv ct), osl⟩) (hcd : codeIn K cdv qual = true) (hroom : A.depth < recursionLimit)
    (hbind : BindsTo s (fnOf name qual params body scope dV kV doc pm an cdv ct) ⟨vals, []⟩ ((params.args.map (·.arg)).zip (vals ++ dv))) (hl : ((params.args.map (·.arg)).zip (vals ++ dv)).reverse = l)
    (hloc : (((params.args.map (·.arg)).zip (vals ++ dv)).all fun x => decide (scope.names.lookup x.1 = some .local)) = true)
    (h : ∀ g L' h₁ tk, Fr h₀ L g m → Fr g L' h₁ (look l) → News g L' h₁ news → Below A base (env :: outer) g → K.In g → Top p loose mean mg mb g →
      wpAny (model prog w) (A.deeper (envOf qual scope L' f cdv)) (execs body (envOf qual scope L' f cdv))
        (fun fl s' => LeaveK h₀ L m g R (match fl with | .ret v => v | _ => .none) s')
        (fun e s' => wpAny (model prog w) (A.deeper (envOf qual scope L' f cdv)) (leaving (envOf qual scope L' f cdv) e) (fun _ s'' => R (.error e) s'') (fun e' s'' => R (.error e') s'') s')
        { s with heap := h₁, toks := tk })
    (hco : scope.isCoroutine = false) (hgen : scope.isGenerator = false) (hk : scope.kind = .function)
    (hcell : (scope.names.all fun x => match x.2 with | .cell => false | _ => true) = true) : codeAny (model prog w) A (.call (.ref f) ⟨vals, []⟩) R s :=
  enterL l B F X₀ N T hA hf hke ho hcd hroom hbind hl (locs hloc) (fun g L' h₁ a1 a2 a3 a4 a5 a6 => h g L' h₁ _ a1 a2 a3 a4 a5 a6) hco hgen hk (fun x hx e => by
    have := List.all_eq_true.mp hcell x hx
    rw [e] at this
    cases this)
/-- the same, its premises in the order in which the walk shows them -/
theorem enterW {env : Env} {outer : List Env} {R : Result → Shared → Prop} {name qual : Str} {params : Arguments} {body : List Stmt} {scope : Scope} {dV kV doc pm cdv ct oc : Value} {an od : Option Addr} {osl : Array (Option Value)} {f : Addr} {vals : List Value}
    (dv : List Value) {l : List (Str × Value)} (hA : A.frames = some (env :: outer)) (hf : env.frame = some L) (hke : env.scope.kind = .function)
    (B : Below A₀ base outer h₀) (F : Fr h₀ L s.heap m) (X₀ : K.In h₀) (N : News h₀ L s.heap news) (T : Top p loose mean mg mb h₀)
    (ho : K.lookup f = some ⟨oc, od, .func (fnOf name qual params body scope dV kV doc pm an cdv ct), osl⟩) (hcd : codeIn K cdv qual = true) (hroom : A.depth < recursionLimit)
    (hbind : BindsTo s (fnOf name qual params body scope dV kV doc pm an cdv ct) ⟨vals, []⟩ ((params.args.map (·.arg)).zip (vals ++ dv))) (hl : ((params.args.map (·.arg)).zip (vals ++ dv)).reverse = l)
    (hcell : (scope.names.all fun x => match x.2 with | .cell => false | _ => true) = true)
    (hloc : (((params.args.map (·.arg)).zip (vals ++ dv)).all fun x => decide (scope.names.lookup x.1 = some .local)) = true)
    (hco : scope.isCoroutine = false) (hgen : scope.isGenerator = false) (hk : scope.kind = .function)
    (h : ∀ g L' h₁ tk, Fr h₀ L g m → Fr g L' h₁ (look l) → News g L' h₁ news → Below A base (env :: outer) g → K.In g → Top p loose mean mg mb g →
      wpAny (model prog w) (A.deeper (envOf qual scope L' f cdv)) (execs body (envOf qual scope L' f cdv))
        (fun fl s' => LeaveK h₀ L m g R (match fl with | .ret v => v | _ => .none) s')
        (fun e s' => wpAny (model prog w) (A.deeper (envOf qual scope L' f cdv)) (leaving (envOf qual scope L' f cdv) e) (fun _ s'' => R (.error e) s'') (fun e' s'' => R (.error e') s'') s')
        { s with heap := h₁, toks := tk }) : codeAny (model prog w) A (.call (.ref f) ⟨vals, []⟩) R s :=
  enterP dv B F X₀ N T hA hf hke ho hcd hroom hbind hl hloc h hco hgen hk hcell
end
/-- a call of a def's, as a caller inside the text sees it: what it hands back and the ledger behind it -/
noncomputable def CallOk (w : World) (f : Addr) (k : Nat) (news : List (Addr × Obj)) (vs : List Value) (Post : Value → List (Addr × Obj) → Prop) : Prop :=
  ∀ (loose : List Str) (mean : ExcName → Option Value) (mg mb : Str → Option Value) (dp un : Nat) (gd : Option (List Code)) (cn : Str) (cs : Scope) (a : Addr) (ccd : Value) (cl : List (Str × Addr)) (outer : List Env) (A₀ : Around) (base h₀ : Heap) (L : Addr) (m : Str → Option Value) (s : Shared)
    (Q E : Value → Shared → Prop),
    Below A₀ base outer h₀ → Fr h₀ L s.heap m → (hd.heap_1 w.params).In h₀ → News h₀ L s.heap news → Top VQ loose mean mg mb h₀ → cs.kind = .function → dp + k < recursionLimit → un + 8 * k < cLine →
    (∀ r news' h' tk', Fr h₀ L h' m → News h₀ L h' news' → Post r news' → Q r { s with heap := h', toks := tk' }) →
    wpAny (model PySem.Challenge.pw_nu0340_01 w) (ktrTop dp un gd cn cs L a ccd cl outer) (call (.ref f) vs) Q E s
theorem CallOk.use {w : World} {f : Addr} {k : Nat} {news : List (Addr × Obj)} {vs : List Value} {Post : Value → List (Addr × Obj) → Prop} {loose : List Str} {mean : ExcName → Option Value} {mg mb : Str → Option Value} {dp un : Nat} {gd : Option (List Code)} {cn : Str} {cs : Scope} {a : Addr} {ccd : Value} {cl : List (Str × Addr)} {outer : List Env} {A₀ : Around} {base h₀ : Heap} {L : Addr} {m : Str → Option Value} {s : Shared} {Q E : Value → Shared → Prop}
    (B : Below A₀ base outer h₀) (F : Fr h₀ L s.heap m) (X : (hd.heap_1 w.params).In h₀) (N : News h₀ L s.heap news) (T : Top VQ loose mean mg mb h₀) (hk : cs.kind = .function) (C : CallOk w f k news vs Post) (hd : dp + k < recursionLimit) (hu : un + 8 * k < cLine)
    (ret : ∀ r news' h' tk', Fr h₀ L h' m → News h₀ L h' news' → Post r news' → Q r { s with heap := h', toks := tk' }) :
    wpAny (model PySem.Challenge.pw_nu0340_01 w) (ktrTop dp un gd cn cs L a ccd cl outer) (call (.ref f) vs) Q E s := C _ _ _ _ _ _ _ _ _ _ _ _ _ _ _ _ _ _ _ _ _ B F X N T hk hd hu ret
theorem useA {w : World} {f : Addr} {k : Nat} {news : List (Addr × Obj)} {vs : List Value} {Post : Value → List (Addr × Obj) → Prop} {loose : List Str} {mean : ExcName → Option Value} {mg mb : Str → Option Value} {dp un : Nat} {gd : Option (List Code)} {cn : Str} {cs : Scope} {a : Addr} {ccd : Value} {cl : List (Str × Addr)} {outer : List Env} {A₀ : Around} {base h₀ : Heap} {L : Addr} {m : Str → Option Value} {s : Shared} {Q E : Value → Shared → Prop}
    (B : Below A₀ base outer h₀) (F : Fr h₀ L s.heap m) (X : (hd.heap_1 w.params).In h₀) (N : News h₀ L s.heap news) (T : Top VQ loose mean mg mb h₀) (hk : cs.kind = .function) (C : CallOk w f k news vs Post) (hd : dp + k < recursionLimit) (hu : un + 8 * k < cLine)
    (ret : ∀ r news' h' tk', Fr h₀ L h' m → News h₀ L h' news' → Post r news' → Q r { s with heap := h', toks := tk' }) :
    wpAny (model PySem.Challenge.pw_nu0340_01 w) (ktrTop dp un gd cn cs L a ccd cl outer) (call (.ref f) vs) Q E s := CallOk.use B F X N T hk C hd hu ret
theorem useB {w : World} {f : Addr} {k : Nat} {news : List (Addr × Obj)} {vs : List Value} {Post : Value → List (Addr × Obj) → Prop} {loose : List Str} {mean : ExcName → Option Value} {mg mb : Str → Option Value} {dp un : Nat} {gd : Option (List Code)} {cn : Str} {cs : Scope} {a : Addr} {ccd : Value} {cl : List (Str × Addr)} {outer : List Env} {A₀ : Around} {base h₀ : Heap} {L : Addr} {m : Str → Option Value} {s : Shared} {Q E : Value → Shared → Prop}
    (C : CallOk w f k news vs Post) (B : Below A₀ base outer h₀) (F : Fr h₀ L s.heap m) (X : (hd.heap_1 w.params).In h₀) (N : News h₀ L s.heap news) (T : Top VQ loose mean mg mb h₀) (hk : cs.kind = .function) (hd : dp + k < recursionLimit) (hu : un + 8 * k < cLine)
    (ret : ∀ r news' h' tk', Fr h₀ L h' m → News h₀ L h' news' → Post r news' → Q r { s with heap := h', toks := tk' }) :
    wpAny (model PySem.Challenge.pw_nu0340_01 w) (ktrTop dp un gd cn cs L a ccd cl outer) (call (.ref f) vs) Q E s := CallOk.use B F X N T hk C hd hu ret
abbrev ent (P : Params) (k : Str) (t : Tok) (v : Value) : DictEntry := ⟨PyData.keyHash P k, .str k t, v⟩
/-- a node's letters -/
structure NZ where
  dx : Addr
  k1 : Tok
  k2 : Tok
  k3 : Tok
  k4 : Tok
  k5 : Tok
  k6 : Tok
/-- a type's letters -/
structure TZ where
  dx : Addr
  k1 : Tok
  k2 : Tok
  k3 : Tok
  k4 : Tok
  k5 : Tok
  k6 : Tok
  k7 : Tok
  k8 : Tok
  k9 : Tok
  k10 : Tok
  k11 : Tok
  k12 : Tok
  t1 : Tok
  t2 : Tok
  t3 : Tok
  t4 : Tok
  b1 : Value
  f1 : Value
  l1 : Value
  p1 : Value
  m1 : Value
  la : Value
  hi : Value
  e1 : Value
abbrev nodeDict (P : Params) (z : NZ) (op place ty kids value sure : Value) : Obj :=
  dictOf [ent P (Str.ofString "op") z.k1 op, ent P (Str.ofString "place") z.k2 place, ent P (Str.ofString "type") z.k3 ty, ent P (Str.ofString "kids") z.k4 kids, ent P (Str.ofString "value") z.k5 value, ent P (Str.ofString "sure") z.k6 sure] 6
abbrev typeEs (P : Params) (z : TZ) (number form size length : Value) : List DictEntry :=
  [ent P (Str.ofString "number") z.k1 number, ent P (Str.ofString "form") z.k2 form, ent P (Str.ofString "size") z.k3 size, ent P (Str.ofString "base") z.k4 z.b1, ent P (Str.ofString "length") z.k5 length, ent P (Str.ofString "fields") z.k6 z.f1, ent P (Str.ofString "level") z.k7 z.l1, ent P (Str.ofString "params") z.k8 z.p1, ent P (Str.ofString "module") z.k9 z.m1, ent P (Str.ofString "label") z.k10 z.la, ent P (Str.ofString "hidden") z.k11 z.hi, ent P (Str.ofString "exno") z.k12 z.e1]
abbrev typeDict (P : Params) (z : TZ) (number form size length : Value) : Obj := dictOf (typeEs P z number form size length) 12
/-- the ledger bears a node at a -/
noncomputable def NodeAt (P : Params) (news : List (Addr × Obj)) (a : Addr) (op : Str) (place : Int) (ty kids value : Value) : Prop :=
  ∃ (z : NZ) (t1 t2 : Tok) (sure : Value), (a, instObj 60 z.dx) ∈ news ∧ (z.dx, nodeDict P z (.str op t1) (.int place t2) ty kids value sure) ∈ news
/-- the ledger bears a type at a -/
noncomputable def TypeAt (P : Params) (news : List (Addr × Obj)) (a : Addr) (form : Str) (size length number : Int) : Prop :=
  ∃ z : TZ, (a, instObj 310 z.dx) ∈ news ∧ (z.dx, typeDict P z (.int number z.t1) (.str form z.t2) (.int size z.t3) (.int length z.t4)) ∈ news
theorem NodeAt.mono {P : Params} {n n' : List (Addr × Obj)} {a : Addr} {op : Str} {pl : Int} {ty kids v : Value} (h : NodeAt P n a op pl ty kids v) (s : ∀ q ∈ n, q ∈ n') : NodeAt P n' a op pl ty kids v := by
  obtain ⟨z, t1, t2, su, h1, h2⟩ := h
  exact ⟨z, t1, t2, su, s _ h1, s _ h2⟩
theorem TypeAt.mono {P : Params} {n n' : List (Addr × Obj)} {a : Addr} {f : Str} {sz ln nu : Int} (h : TypeAt P n a f sz ln nu) (s : ∀ q ∈ n, q ∈ n') : TypeAt P n' a f sz ln nu := by
  obtain ⟨z, h1, h2⟩ := h
  exact ⟨z, s _ h1, s _ h2⟩
end Mine
namespace Mine
/-- a call that leaves the ledger as it stood and hands back one value (up to its token) -/
noncomputable def Pure (news : List (Addr × Obj)) (f : Tok → Value) : Value → List (Addr × Obj) → Prop := fun r nw => nw = news ∧ ∃ t, r = f t
theorem useP {w : World} {f : Addr} {k : Nat} {news : List (Addr × Obj)} {vs : List Value} {loose : List Str} {mean : ExcName → Option Value} {mg mb : Str → Option Value} {dp un : Nat} {gd : Option (List Code)} {cn : Str} {cs : Scope} {a : Addr} {ccd : Value} {cl : List (Str × Addr)} {outer : List Env} {A₀ : Around} {base h₀ : Heap} {L : Addr} {m : Str → Option Value} {s : Shared} {Q E : Value → Shared → Prop} {fv : Tok → Value}
    (B : Below A₀ base outer h₀) (F : Fr h₀ L s.heap m) (X : (hd.heap_1 w.params).In h₀) (N : News h₀ L s.heap news) (T : Top VQ loose mean mg mb h₀) (hk : cs.kind = .function) (C : CallOk w f k news vs (Pure news fv)) (hd : dp + k < recursionLimit) (hu : un + 8 * k < cLine)
    (ret : ∀ t h' tk', Fr h₀ L h' m → News h₀ L h' news → Q (fv t) { s with heap := h', toks := tk' }) :
    wpAny (model PySem.Challenge.pw_nu0340_01 w) (ktrTop dp un gd cn cs L a ccd cl outer) (call (.ref f) vs) Q E s := CallOk.use B F X N T hk C hd hu fun r nw h' tk' F' N' P => by
      obtain ⟨e, t, e'⟩ := P
      subst e; subst e'
      exact ret t h' tk' F' N'
section
variable {h₀ h' : Heap} {L : Addr} {m : Str → Option Value} {news nw : List (Addr × Obj)} {s : Shared} {Q : Value → Shared → Prop} {t : Tok} {tk' : Nat}
theorem retS {x y : Str} (hret : ∀ r news' h' tk', Fr h₀ L h' m → News h₀ L h' news' → Pure news (fun t => .str y t) r news' → Q r { s with heap := h', toks := tk' }) (e : x = y) (F : Fr h₀ L h' m) (N : News h₀ L h' nw) (sub : ∀ p ∈ news, p ∈ nw) : Q (.str x t) { s with heap := h', toks := tk' } :=
  hret _ news _ _ F (cb_drop N sub) ⟨rfl, t, by rw [e]⟩
theorem retI {x y : Int} (hret : ∀ r news' h' tk', Fr h₀ L h' m → News h₀ L h' news' → Pure news (fun t => .int y t) r news' → Q r { s with heap := h', toks := tk' }) (e : x = y) (F : Fr h₀ L h' m) (N : News h₀ L h' nw) (sub : ∀ p ∈ news, p ∈ nw) : Q (.int x t) { s with heap := h', toks := tk' } :=
  hret _ news _ _ F (cb_drop N sub) ⟨rfl, t, by rw [e]⟩
theorem retB {x y : Bool} (hret : ∀ r news' h' tk', Fr h₀ L h' m → News h₀ L h' news' → Pure news (fun _ => .bool y) r news' → Q r { s with heap := h', toks := tk' }) (e : x = y) (F : Fr h₀ L h' m) (N : News h₀ L h' nw) (sub : ∀ p ∈ news, p ∈ nw) : Q (.bool x) { s with heap := h', toks := tk' } :=
  hret _ news _ _ F (cb_drop N sub) ⟨rfl, 0, by rw [e]⟩
end
section
variable {prog : Program} {w : World} {A : Around} {E : Value → Shared → Prop} {s : Shared} {h₀ : Heap} {L l : Addr} {news : List (Addr × Obj)} {its : Array Value} {n : Nat} {k : Int} {u : Tok} {v : Value} {Q : Value → Shared → Prop} {value slice : PySem.Expr}
/-- an item of a list of the ledger's -/
theorem itemL (N : News h₀ L s.heap news) (hm : (l, W.listOf its n) ∈ news) (h0 : decide (0 ≤ k ∧ k < 100) = true) (hx : its.toList[k.toNat]? = some v) (h : Q v s)
    (hs : subscripted slice false (.ref l) (.int k u) = operate [.ref l, .int k u] (getItem (.ref l) (.int k u)) := by with_unfolding_all rfl) :
    wpAny (model prog w) A (subscriptTail value slice (.ref l) (.int k u)) Q E s := by
  have hk := of_decide_eq_true h0
  have hl : s.heap.IsList l its := ⟨_, (N _ hm).1, rfl, n, rfl⟩
  exact tail_any hl.typeIs slot_list_getitem.lookup (wpAny_getItem_list hl hk.1 (by omega) (by simpa using hx) h) hs
end
section
variable {prog : Program} {w : World} {A : Around} {E : Value → Shared → Prop} {s : Shared} {env : Env} {h₀ : Heap} {x : Str} {body : List Stmt} {Q : Flow → Shared → Prop}
theorem listRest_cons {I : Addr} {lp : Addr × Obj} {v : Value} {r : List Value} {l : List (Str × Value)} {news : List (Addr × Obj)}
    (h : ∀ (it : Obj) h tk, it.cls = .type "list_iterator" → Fr h₀ env.locals h (look ((x, v) :: l)) → News h₀ env.locals h ((I, it) :: news) →
      wpAny (model prog w) A (execs body env) (UnrPost h₀ env.locals { s with heap := h, toks := tk } I it (fun m' n' => lp ∈ n' ∧ ListRest prog w A E h₀ env x body Q s I lp r m' n') Q) E { s with heap := h, toks := tk }) :
    ListRest prog w A E h₀ env x body Q s I lp (v :: r) (look l) news := fun it h' tk c F N => h it h' tk c (look_store ▸ F) N
end
theorem unrL {h₀ : Heap} {L I : Addr} {it : Obj} {rest : (Str → Option Value) → List (Addr × Obj) → Prop} {s₁ : Shared} {h' : Heap} {tk : Nat} {m' : Str → Option Value} {all news' : List (Addr × Obj)} (off : ∀ p ∈ news', p.1 < I) (F : Fr h₀ L h' m') (N : News h₀ L h' all)
    (sub : ∀ p ∈ (I, it) :: news', p ∈ all) (r : rest m' news') : UnrEnd h₀ L s₁ I it rest { s₁ with heap := h', toks := tk } := UnrEnd.intro F N news' sub (fun p hp => Nat.ne_of_lt (off p hp)) r
end Mine
namespace Mine
noncomputable def isF (n : Str) : Bool := [Str.ofString "ABS", Str.ofString "ODD", Str.ofString "LEN", Str.ofString "LSL", Str.ofString "ASR", Str.ofString "ROR", Str.ofString "ORD", Str.ofString "CHR", Str.ofString "VAL", Str.ofString "SIZE"].any fun x => x == n
noncomputable def isID (n : Str) : Bool := [Str.ofString "INC", Str.ofString "DEC"].any fun x => x == n
noncomputable def isTwo (n : Str) : Bool := [Str.ofString "LSL", Str.ofString "ASR", Str.ofString "ROR", Str.ofString "INCL", Str.ofString "EXCL", Str.ofString "VAL"].any fun x => x == n
noncomputable def isIE (n : Str) : Bool := [Str.ofString "INCL", Str.ofString "EXCL"].any fun x => x == n
noncomputable def least (n : Str) : Int := if isID n = true then 1 else if isTwo n = true then 2 else 1
noncomputable def most (n : Str) : Int := if isID n = true then 2 else if isTwo n = true then 2 else 1
noncomputable def useCode (n : Str) (count : Int) (stmt : Bool) : Str :=
  if stmt = true ∧ isF n = true then Str.ofString "is_a_function" else if stmt = false ∧ isF n = false then Str.ofString "not_a_function" else if count < least n ∨ most n < count then Str.ofString "wrong_count" else Str.ofString ""
noncomputable def isInt (f : Str) : Bool := f == Str.ofString "integer" || f == Str.ofString "byte"
noncomputable def intCode (f : Str) : Str := if isInt f = true then Str.ofString "" else Str.ofString "not_an_integer"
/-- what a node is -/
inductive Sh where
  | var (ro : Bool)
  | neg
  | typ
  | cint (i : Int)
  | letter
  | text
noncomputable def Sh.op : Sh → Str
  | .var _ => Str.ofString "var"
  | .neg => Str.ofString "neg"
  | .typ => Str.ofString "type"
  | .cint _ => Str.ofString "const"
  | .letter => Str.ofString "const"
  | .text => Str.ofString "const"
noncomputable def Sh.isStr : Sh → Bool
  | .letter => true
  | .text => true
  | _ => false
structure Sd where
  sh : Sh
  form : Str
  sz : Int
  ln : Int
  nu : Int
/-- an object's letters -/
structure OZ where
  dx : Addr
  k1 : Tok
  k2 : Tok
  k3 : Tok
  k4 : Tok
  k5 : Tok
  k6 : Tok
  k7 : Tok
  k8 : Tok
  k9 : Tok
  k10 : Tok
  k11 : Tok
  k12 : Tok
  k13 : Tok
  k14 : Tok
  v1 : Value
  v2 : Value
  v3 : Value
  v4 : Value
  v5 : Value
  v7 : Value
  v8 : Value
  v9 : Value
  v10 : Value
  v11 : Value
  v12 : Value
  v13 : Value
  v14 : Value
abbrev objEs (P : Params) (z : OZ) (ro : Bool) : List DictEntry :=
  [ent P (Str.ofString "name") z.k1 z.v1, ent P (Str.ofString "kind") z.k2 z.v2, ent P (Str.ofString "type") z.k3 z.v3, ent P (Str.ofString "place") z.k4 z.v4, ent P (Str.ofString "exported") z.k5 z.v5, ent P (Str.ofString "readonly") z.k6 (.bool ro), ent P (Str.ofString "level") z.k7 z.v7, ent P (Str.ofString "module") z.k8 z.v8, ent P (Str.ofString "value") z.k9 z.v9, ent P (Str.ofString "slot") z.k10 z.v10, ent P (Str.ofString "offset") z.k11 z.v11, ent P (Str.ofString "number") z.k12 z.v12, ent P (Str.ofString "isparam") z.k13 z.v13, ent P (Str.ofString "narrowed") z.k14 z.v14]
abbrev objDict (P : Params) (z : OZ) (ro : Bool) : Obj := dictOf (objEs P z ro) 14
noncomputable def ObjAt (P : Params) (news : List (Addr × Obj)) (a : Addr) (ro : Bool) : Prop :=
  ∃ z : OZ, (a, instObj 331 z.dx) ∈ news ∧ (z.dx, objDict P z ro) ∈ news
noncomputable def ValIs (P : Params) (news : List (Addr × Obj)) (v : Value) (ty : Addr) : Sh → Prop
  | .var ro => ∃ o, v = .ref o ∧ ObjAt P news o ro
  | .neg => v = .none
  | .typ => v = .ref ty
  | .cint i => ∃ t, v = .int i t
  | .letter => ∃ t, v = .str (Str.ofString "a") t
  | .text => ∃ t, v = .str (Str.ofString "ab") t
/-- the ledger bears an argument at a -/
noncomputable def SideAt (P : Params) (news : List (Addr × Obj)) (a : Addr) (pl : Int) (d : Sd) : Prop :=
  ∃ ty kids v, NodeAt P news a d.sh.op pl (.ref ty) (.ref kids) v ∧ TypeAt P news ty d.form d.sz d.ln d.nu ∧ ValIs P news v ty d.sh
theorem ObjAt.mono {P : Params} {n n' : List (Addr × Obj)} {a : Addr} {ro : Bool} (h : ObjAt P n a ro) (s : ∀ q ∈ n, q ∈ n') : ObjAt P n' a ro := by
  obtain ⟨z, h1, h2⟩ := h
  exact ⟨z, s _ h1, s _ h2⟩
theorem ValIs.mono {P : Params} {n n' : List (Addr × Obj)} {v : Value} {ty : Addr} {sh : Sh} (h : ValIs P n v ty sh) (s : ∀ q ∈ n, q ∈ n') : ValIs P n' v ty sh := by
  cases sh <;> simp only [ValIs] at h ⊢
  case var ro =>
    obtain ⟨o, e, h⟩ := h
    exact ⟨o, e, h.mono s⟩
  all_goals exact h
theorem SideAt.mono {P : Params} {n n' : List (Addr × Obj)} {a : Addr} {pl : Int} {d : Sd} (h : SideAt P n a pl d) (s : ∀ q ∈ n, q ∈ n') : SideAt P n' a pl d := by
  obtain ⟨ty, kids, v, h1, h2, h3⟩ := h
  exact ⟨ty, kids, v, h1.mono s, h2.mono s, h3.mono s⟩
abbrev errSeg (P : Params) (er de r p : Addr) (k1 k2 : Tok) (o : Obj) : List (Addr × Obj) :=
  [(p, o), (r, W.listOf #[] 0), (er, instObj 289 de), (de, dictOf [ent P (Str.ofString "rows") k1 (.ref r), ent P (Str.ofString "places") k2 (.ref p)] 2)]
abbrev tupObj (vs : Array Value) : Obj := { cls := .type "tuple", data := .seq vs }
noncomputable def RowsAt (news : List (Addr × Obj)) (r : Addr) : List (Int × Str) → Prop
  | [] => ∃ n, (r, W.listOf #[] n) ∈ news
  | [(pl, c)] => ∃ n tp t1 t2, (r, W.listOf #[.ref tp] n) ∈ news ∧ (tp, tupObj #[.int pl t1, .str c t2]) ∈ news
  | _ => False
/-- the ledger bears an error list at a, its rows -/
noncomputable def ErrAt (P : Params) (news : List (Addr × Obj)) (a : Addr) (rows : List (Int × Str)) : Prop :=
  ∃ de r p k1 k2, (a, instObj 289 de) ∈ news ∧ (de, dictOf [ent P (Str.ofString "rows") k1 (.ref r), ent P (Str.ofString "places") k2 (.ref p)] 2) ∈ news ∧ RowsAt news r rows
/-- a fresh error list, its four objects apart from all else -/
structure ErrPre (w : World) (er de r p : Addr) (k1 k2 : Tok) (o : Obj) (rest : List (Addr × Obj)) : Prop where
  lo : (p == sysModules) = false
  hs : Obj.IsDictOf (PySem.strKind PySem.Challenge.pw_nu0340_01 w) o []
  hi : Obj.IsDictOf (intKind PySem.Challenge.pw_nu0340_01 w) o []
  fi : PyProof.V.FlatPairs PyData.int [] []
  h1 : @Ne Nat p r ∧ @Ne Nat p er ∧ @Ne Nat p de ∧ @Ne Nat r er ∧ @Ne Nat r de ∧ @Ne Nat er de
  hr : ∀ q ∈ rest, q.1 ≠ r
  hp : ∀ q ∈ rest, q.1 ≠ p
/-- behind a call that may mark: no mark and the ledger as it stood, or the one mark -/
noncomputable def Marked (P : Params) (seg rest : List (Addr × Obj)) (er : Addr) (pl : Int) (code : Str) (nw : List (Addr × Obj)) : Prop :=
  ((code == Str.ofString "") = true ∧ nw = seg ++ rest) ∨ ((code == Str.ofString "") = false ∧ ∃ E', nw = E' ++ rest ∧ ErrAt P E' er [(pl, code)])
noncomputable def MPost (P : Params) (seg rest : List (Addr × Obj)) (er : Addr) (pl : Int) (code : Str) : Value → List (Addr × Obj) → Prop := fun v nw => (∃ t', v = .str code t') ∧ Marked P seg rest er pl code nw
theorem useM {w : World} {f : Addr} {k : Nat} {news : List (Addr × Obj)} {vs : List Value} {loose : List Str} {mean : ExcName → Option Value} {mg mb : Str → Option Value} {dp un : Nat} {gd : Option (List Code)} {cn : Str} {cs : Scope} {a : Addr} {ccd : Value} {cl : List (Str × Addr)} {outer : List Env} {A₀ : Around} {base h₀ : Heap} {L : Addr} {m : Str → Option Value} {s : Shared} {Q E : Value → Shared → Prop} {seg rest : List (Addr × Obj)} {er : Addr} {pl : Int} {code : Str}
    (C : CallOk w f k news vs (MPost w.params seg rest er pl code)) (B : Below A₀ base outer h₀) (F : Fr h₀ L s.heap m) (X : (hd.heap_1 w.params).In h₀) (N : News h₀ L s.heap news) (T : Top VQ loose mean mg mb h₀) (hk : cs.kind = .function) (hd : dp + k < recursionLimit) (hu : un + 8 * k < cLine)
    (ret0 : (code == Str.ofString "") = true → (code != Str.ofString "") = false → ∀ t h' tk', Fr h₀ L h' m → News h₀ L h' (seg ++ rest) → Q (.str code t) { s with heap := h', toks := tk' })
    (ret1 : (code == Str.ofString "") = false → (code != Str.ofString "") = true → ∀ E' t h' tk', Fr h₀ L h' m → News h₀ L h' (E' ++ rest) → ErrAt w.params E' er [(pl, code)] → Q (.str code t) { s with heap := h', toks := tk' }) :
    wpAny (model PySem.Challenge.pw_nu0340_01 w) (ktrTop dp un gd cn cs L a ccd cl outer) (call (.ref f) vs) Q E s := CallOk.use B F X N T hk C hd hu fun r nw h' tk' F' N' P => by
      obtain ⟨⟨t, e⟩, (⟨c, e'⟩ | ⟨c, E', e', o⟩)⟩ := P
      · subst e; subst e'
        exact ret0 c (by simp only [bne, c]; rfl) t h' tk' F' N'
      · subst e; subst e'
        exact ret1 c (by simp only [bne, c]; rfl) E' t h' tk' F' N' o
noncomputable def varCode (sh : Sh) : Str := match sh with
  | .var ro => if ro = true then Str.ofString "read_only" else Str.ofString ""
  | _ => Str.ofString "not_a_variable"
noncomputable def targetCode (n f : Str) : Str := if (n == Str.ofString "NEW") = true then (if (f == Str.ofString "pointer") = true then Str.ofString "" else Str.ofString "not_a_pointer") else if isIE n = true then (if (f == Str.ofString "set") = true then Str.ofString "" else Str.ofString "bad_argument") else intCode f
noncomputable def rangeCode (sh : Sh) (code : Str) : Str := match sh with
  | .cint i => if i < 0 ∨ 31 < i then code else Str.ofString ""
  | _ => Str.ofString ""
noncomputable def isLetter (d : Sd) : Bool := match d.sh with
  | .letter => true
  | _ => false
noncomputable def isCBS (f : Str) : Bool := [Str.ofString "char", Str.ofString "boolean", Str.ofString "set"].any fun x => x == f
noncomputable def ordCode (d : Sd) : Str := if isCBS d.form = true ∨ isLetter d = true then Str.ofString "" else Str.ofString "bad_argument"
noncomputable def isPlain (f : Str) : Bool := [Str.ofString "integer", Str.ofString "set", Str.ofString "byte", Str.ofString "char", Str.ofString "boolean"].any fun x => x == f
noncomputable def valCode (f : Str) (d : Sd) : Str := if isPlain f = true ∧ (isPlain d.form = true ∨ isLetter d = true) then Str.ofString "" else Str.ofString "bad_argument"
theorem and_full (x : Int) : (Builtin.bitAnd x 4294967295).natAbs < 2 ^ 64 := by
  rw [bitAnd_m32]
  omega
noncomputable def wrapS (n : Int) : Int := if 2147483647 < Builtin.bitAnd n 4294967295 then Builtin.bitAnd n 4294967295 - 4294967295 - 1 else Builtin.bitAnd n 4294967295
noncomputable def valValue (f : Str) (x : Int) : Int := if (f == Str.ofString "integer") = true then wrapS x else if (f == Str.ofString "set") = true then Int.fmod x 4294967296 else if (f == Str.ofString "boolean") = true then Int.fmod x 2 else Int.fmod x 256
noncomputable def foldShift (op : Str) (x n : Int) : Int := if (op == Str.ofString "LSL") = true then wrapS (x * 2 ^ n.toNat) else if (op == Str.ofString "ASR") = true then Int.fdiv x (2 ^ n.toNat)
  else wrapS (Builtin.bitOr (Int.fdiv (Builtin.bitAnd x 4294967295) (2 ^ n.toNat)) (Builtin.bitAnd x 4294967295 * 2 ^ (32 - n).toNat))
noncomputable def folded1 (n : Str) (x : Int) : Int × Str :=
  if (n == Str.ofString "ABS") = true then (if (if x < 0 then -x else x) ≤ 2147483647 then ((if x < 0 then -x else x), Str.ofString "") else (0, Str.ofString "constant_overflow"))
  else if (n == Str.ofString "ODD") = true then (Int.fmod x 2, Str.ofString "")
  else if (n == Str.ofString "ORD") = true then (wrapS x, Str.ofString "")
  else (if x < 0 ∨ 255 < x then (0, Str.ofString "bad_char") else (x, Str.ofString ""))
/-- a side's shape and its form go together -/
noncomputable def Sd.wf (d : Sd) : Prop := match d.sh with
  | .cint _ => (d.form == Str.ofString "string") = false
  | .letter => (d.form == Str.ofString "string") = true
  | .text => (d.form == Str.ofString "string") = true
  | _ => True
theorem wf_int {d : Sd} (h : d.wf) (hi : isInt d.form = true) : d.sh.isStr = false := by
  obtain ⟨sh, f, a, b, c⟩ := d
  cases sh with
  | letter =>
    have hf : f = Str.ofString "string" := by simpa [Sd.wf] using h
    subst hf
    exact absurd (show isInt (Str.ofString "string") = true from hi) (by decide)
  | text =>
    have hf : f = Str.ofString "string" := by simpa [Sd.wf] using h
    subst hf
    exact absurd (show isInt (Str.ofString "string") = true from hi) (by decide)
  | _ => rfl
theorem op_four (sh : Sh) : sh.op = Str.ofString "var" ∨ sh.op = Str.ofString "neg" ∨ sh.op = Str.ofString "type" ∨ sh.op = Str.ofString "const" := by cases sh <;> simp [Sh.op]
theorem op_loop (sh : Sh) : ([Str.ofString "field", Str.ofString "index", Str.ofString "guard"].any fun x => x == sh.op) = false := by
  rcases op_four sh with h | h | h | h <;> rw [h] <;> decide
theorem op_deref (sh : Sh) : (sh.op == Str.ofString "deref") = false := by
  rcases op_four sh with h | h | h | h <;> rw [h] <;> decide
theorem op_var (sh : Sh) (hv : ¬ ∃ ro, sh = .var ro) : (sh.op == Str.ofString "var") = false := by
  cases sh with
  | var ro => exact absurd ⟨ro, rfl⟩ hv
  | neg => exact (by decide : (Str.ofString "neg" == Str.ofString "var") = false)
  | typ => exact (by decide : (Str.ofString "type" == Str.ofString "var") = false)
  | _ => exact (by decide : (Str.ofString "const" == Str.ofString "var") = false)
theorem varCode_no (sh : Sh) (hv : ¬ ∃ ro, sh = .var ro) : varCode sh = Str.ofString "not_a_variable" := by
  cases sh with
  | var ro => exact absurd ⟨ro, rfl⟩ hv
  | _ => rfl
noncomputable def fcode1 (n : Str) (pl : Int) (d : Sd) : Int × Str :=
  (pl, if (n == Str.ofString "SIZE") = true then (if (d.sh.op != Str.ofString "type") = true then Str.ofString "not_a_type" else Str.ofString "")
    else if (n == Str.ofString "LEN") = true then (if (d.form == Str.ofString "array") = true then Str.ofString "" else Str.ofString "not_an_array")
    else if (n == Str.ofString "ORD") = true then ordCode d else intCode d.form)
noncomputable def fcode2 (n : Str) (pl1 pl2 : Int) (d1 d2 : Sd) : Int × Str :=
  if (n == Str.ofString "VAL") = true then (if (d1.sh.op != Str.ofString "type") = true then (pl1, Str.ofString "not_a_type") else (pl2, valCode d1.form d2))
  else if (intCode d1.form == Str.ofString "") = false then (pl1, intCode d1.form) else if (intCode d2.form == Str.ofString "") = false then (pl2, intCode d2.form) else (pl2, rangeCode d2.sh (Str.ofString "bad_shift"))
noncomputable def scode1 (n : Str) (pl : Int) (d : Sd) : Int × Str :=
  (pl, if (n == Str.ofString "ASSERT") = true then (if (d.form == Str.ofString "boolean") = true then Str.ofString "" else Str.ofString "not_boolean")
    else if (varCode d.sh == Str.ofString "") = true then targetCode n d.form else varCode d.sh)
noncomputable def scode2 (n : Str) (pl1 pl2 : Int) (d1 d2 : Sd) : Int × Str :=
  if (varCode d1.sh == Str.ofString "") = false then (pl1, varCode d1.sh)
  else if (targetCode n d1.form == Str.ofString "") = false then (pl1, targetCode n d1.form)
  else if (intCode d2.form == Str.ofString "") = false then (pl2, intCode d2.form)
  else if isIE n = true then (pl2, rangeCode d2.sh (Str.ofString "bad_element")) else (pl2, intCode d2.form)
theorem intCode_yes {f : Str} (h : (intCode f == Str.ofString "") = true) : isInt f = true := by
  unfold intCode at h
  split at h
  · assumption
  · exact absurd h (by decide)
theorem intCode_no {f : Str} (h : (intCode f == Str.ofString "") = false) : isInt f = false := by
  unfold intCode at h
  split at h
  · exact absurd h (by decide)
  · simpa using ‹¬ isInt f = true›
theorem intCode_of {f : Str} (h : isInt f = false) : intCode f = Str.ofString "not_an_integer" := by
  unfold intCode
  rw [if_neg (by rw [h]; decide)]
theorem op_typ {sh : Sh} (h : sh ≠ .typ) : (sh.op != Str.ofString "type") = true := by
  cases sh with
  | typ => exact absurd rfl h
  | var _ => exact (by decide : (Str.ofString "var" != Str.ofString "type") = true)
  | neg => exact (by decide : (Str.ofString "neg" != Str.ofString "type") = true)
  | _ => exact (by decide : (Str.ofString "const" != Str.ofString "type") = true)
/-- a tuple of an int and a text, new on the ledger -/
noncomputable def TupIS (news : List (Addr × Obj)) (v : Int) (c : Str) : Value → List (Addr × Obj) → Prop := fun r nw => ∃ tp t1 t2, r = .ref tp ∧ nw = (tp, tupObj #[.int v t1, .str c t2]) :: news
section
variable {h₀ h' : Heap} {L : Addr} {m : Str → Option Value} {news nw : List (Addr × Obj)} {s : Shared} {Q : Value → Shared → Prop} {tk' : Nat}
theorem retT {x v : Int} {y c : Str} {tp : Addr} {t1 t2 : Tok} (hret : ∀ r news' h' tk', Fr h₀ L h' m → News h₀ L h' news' → TupIS news v c r news' → Q r { s with heap := h', toks := tk' }) (N : News h₀ L h' nw) (hm : (tp, tupObj #[.int x t1, .str y t2]) ∈ nw) (e : (v, c) = (x, y)) (F : Fr h₀ L h' m) (sub : ∀ p ∈ news, p ∈ nw) : Q (.ref tp) { s with heap := h', toks := tk' } := by
  cases e
  exact hret _ _ _ _ F (cb_drop N (List.forall_mem_cons.mpr ⟨hm, sub⟩)) ⟨tp, t1, t2, rfl, rfl⟩
end
section
variable {P : Params} {seg rest nw : List (Addr × Obj)} {er : Addr} {h₀ h' : Heap} {L : Addr} {m : Str → Option Value} {s : Shared} {Q : Value → Shared → Prop} {t : Tok} {tk' : Nat} {x : Str} {pl : Int} {y : Int × Str}
/-- the end of a call that may mark, nothing marked -/
theorem retM0 (hret : ∀ r news' h' tk', Fr h₀ L h' m → News h₀ L h' news' → ((∃ t', r = .str y.2 t') ∧ Marked P seg rest er y.1 y.2 news') → Q r { s with heap := h', toks := tk' }) (e : y.2 = x) (c : (x == Str.ofString "") = true) (F : Fr h₀ L h' m) (N : News h₀ L h' nw) (sub : ∀ p ∈ seg ++ rest, p ∈ nw) : Q (.str x t) { s with heap := h', toks := tk' } :=
  hret _ (seg ++ rest) _ _ F (cb_drop N sub) ⟨⟨t, by rw [e]⟩, .inl ⟨by rw [e]; exact c, rfl⟩⟩
/-- the same, marked -/
theorem retM1 {E' : List (Addr × Obj)} (hret : ∀ r news' h' tk', Fr h₀ L h' m → News h₀ L h' news' → ((∃ t', r = .str y.2 t') ∧ Marked P seg rest er y.1 y.2 news') → Q r { s with heap := h', toks := tk' }) (N : News h₀ L h' (E' ++ rest)) (o : ErrAt P E' er [(pl, x)]) (e : y = (pl, x)) (c : (x == Str.ofString "") = false) (F : Fr h₀ L h' m) : Q (.str x t) { s with heap := h', toks := tk' } := by
  subst e
  exact hret _ (E' ++ rest) _ _ F N ⟨⟨t, rfl⟩, .inr ⟨c, E', rfl, o⟩⟩
end
/-- the letters of the types' own object -/
structure YZ where
  td : Addr
  k1 : Tok
  k2 : Tok
  k3 : Tok
  k4 : Tok
  k5 : Tok
  k6 : Tok
  k7 : Tok
  k8 : Tok
  k9 : Tok
  c1 : Value
  c2 : Value
  c3 : Value
  c4 : Value
  c5 : Value
  c6 : Value
noncomputable def TysAt (P : Params) (news : List (Addr × Obj)) (a tb tc ti : Addr) : Prop :=
  ∃ z : YZ, (a, instObj 367 z.td) ∈ news ∧
    (z.td, dictOf [ent P (Str.ofString "counter") z.k1 z.c1, ent P (Str.ofString "known") z.k2 z.c2, ent P (Str.ofString "boolean") z.k3 (.ref tb), ent P (Str.ofString "char") z.k4 (.ref tc), ent P (Str.ofString "byte") z.k5 z.c3, ent P (Str.ofString "integer") z.k6 (.ref ti), ent P (Str.ofString "mask") z.k7 z.c4, ent P (Str.ofString "nil") z.k8 z.c5, ent P (Str.ofString "none") z.k9 z.c6] 9) ∈ news
theorem TysAt.mono {P : Params} {n n' : List (Addr × Obj)} {a tb tc ti : Addr} (h : TysAt P n a tb tc ti) (s : ∀ q ∈ n, q ∈ n') : TysAt P n' a tb tc ti := by
  obtain ⟨z, h1, h2⟩ := h
  exact ⟨z, s _ h1, s _ h2⟩
noncomputable def resT (n : Str) (tb tc ti : Addr) : Addr := if (n == Str.ofString "ODD") = true then tb else if (n == Str.ofString "CHR") = true then tc else ti
theorem retR {h₀ h' : Heap} {L : Addr} {m : Str → Option Value} {news nw : List (Addr × Obj)} {s : Shared} {Q : Value → Shared → Prop} {tk' : Nat} {x y : Addr} (hret : ∀ r news' h' tk', Fr h₀ L h' m → News h₀ L h' news' → Pure news (fun _ => .ref y) r news' → Q r { s with heap := h', toks := tk' }) (e : x = y) (F : Fr h₀ L h' m) (N : News h₀ L h' nw) (sub : ∀ p ∈ news, p ∈ nw) : Q (.ref x) { s with heap := h', toks := tk' } :=
  hret _ news _ _ F (cb_drop N sub) ⟨rfl, 0, by rw [e]⟩
/-- what a function's node is -/
inductive Res where
  | const (ty : Addr) (v : Int)
  | std (ty : Addr) (kids : List Addr)
noncomputable def Fres (P : Params) (nw : List (Addr × Obj)) (x : Addr) (pl : Int) (name : Str) : Res → Prop
  | .const ty v => ∃ k t, NodeAt P nw x (Str.ofString "const") pl (.ref ty) (.ref k) (.int v t)
  | .std ty kids => ∃ k t n, NodeAt P nw x (Str.ofString "std") pl (.ref ty) (.ref k) (.str name t) ∧ (k, W.listOf (kids.map Value.ref).toArray n) ∈ nw
noncomputable def vnode (ty1 : Addr) (form1 : Str) (a : Addr) (d : Sd) : Res := match d.sh with
  | .cint i => .const ty1 (valValue form1 i)
  | .letter => .const ty1 (valValue form1 97)
  | _ => .std ty1 [a]
noncomputable def rowsOf (pl : Int) (c : Str) : List (Int × Str) := if (c == Str.ofString "") = true then [] else [(pl, c)]
theorem ErrAt.mono {P : Params} {n n' : List (Addr × Obj)} {a : Addr} {rows : List (Int × Str)} (h : ErrAt P n a rows) (s : ∀ q ∈ n, q ∈ n') : ErrAt P n' a rows := by
  obtain ⟨de, r, p, k1, k2, h1, h2, h3⟩ := h
  refine ⟨de, r, p, k1, k2, s _ h1, s _ h2, ?_⟩
  match rows, h3 with
  | [], ⟨n, hm⟩ => exact ⟨n, s _ hm⟩
  | [(pl, c)], ⟨n, tp, t1, t2, hm, hm'⟩ => exact ⟨n, tp, t1, t2, s _ hm, s _ hm'⟩
noncomputable def fnode1 (n : Str) (tb tc ti a1 : Addr) (d : Sd) : Res × Str :=
  if (n == Str.ofString "SIZE") = true then (.const ti d.sz, Str.ofString "")
  else if (n == Str.ofString "LEN") = true then (if 0 ≤ d.ln then (.const ti d.ln, Str.ofString "") else (.std ti [a1], Str.ofString ""))
  else match d.sh with
    | .cint i => (.const (resT n tb tc ti) (folded1 n i).1, (folded1 n i).2)
    | .letter => (.const (resT n tb tc ti) (folded1 n 97).1, (folded1 n 97).2)
    | _ => (.std (resT n tb tc ti) [a1], Str.ofString "")
noncomputable def fnode2 (n : Str) (tb tc ti a1 a2 : Addr) (d1 d2 : Sd) : Res × Str :=
  match d1.sh, d2.sh with
    | .cint i, .cint j => (.const (resT n tb tc ti) (foldShift n i j), Str.ofString "")
    | _, _ => (.std (resT n tb tc ti) [a1, a2], Str.ofString "")
section
variable {P : Params} {rest nw : List (Addr × Obj)} {er : Addr} {h₀ h' : Heap} {L : Addr} {m : Str → Option Value} {s : Shared} {Q : Value → Shared → Prop} {t : Tok} {tk' : Nat} {x ty k : Addr} {place v : Int} {y : Res × Str} {name : Str}
abbrev FPost (P : Params) (rest : List (Addr × Obj)) (er : Addr) (place : Int) (name : Str) (y : Res × Str) : Value → List (Addr × Obj) → Prop := fun r nw => ∃ x, r = .ref x ∧ (∀ q ∈ rest, q ∈ nw) ∧ ErrAt P nw er (rowsOf place y.2) ∧ Fres P nw x place name y.1
theorem retFc0 (hret : ∀ r news' h' tk', Fr h₀ L h' m → News h₀ L h' news' → FPost P rest er place name y r news' → Q r { s with heap := h', toks := tk' }) (N : News h₀ L h' nw) (F : Fr h₀ L h' m) (sub : ∀ q ∈ rest, q ∈ nw) (hE : ErrAt P nw er []) (hR : NodeAt P nw x (Str.ofString "const") place (.ref ty) (.ref k) (.int v t)) (e : y = (.const ty v, Str.ofString "")) : Q (.ref x) { s with heap := h', toks := tk' } := by
  subst e
  exact hret _ nw _ _ F N ⟨x, rfl, sub, hE, k, t, hR⟩
theorem retFc1 {c : Str} (hret : ∀ r news' h' tk', Fr h₀ L h' m → News h₀ L h' news' → FPost P rest er place name y r news' → Q r { s with heap := h', toks := tk' }) (N : News h₀ L h' nw) (F : Fr h₀ L h' m) (sub : ∀ q ∈ rest, q ∈ nw) (hE : ErrAt P nw er [(place, c)]) (hR : NodeAt P nw x (Str.ofString "const") place (.ref ty) (.ref k) (.int v t)) (hc : (c == Str.ofString "") = false) (e : y = (.const ty v, c)) : Q (.ref x) { s with heap := h', toks := tk' } := by
  subst e
  refine hret _ nw _ _ F N ⟨x, rfl, sub, ?_, k, t, hR⟩
  unfold rowsOf
  rw [if_neg (by rw [hc]; decide)]
  exact hE
theorem retFs {kids : List Addr} {n : Nat} (hret : ∀ r news' h' tk', Fr h₀ L h' m → News h₀ L h' news' → FPost P rest er place name y r news' → Q r { s with heap := h', toks := tk' }) (N : News h₀ L h' nw) (F : Fr h₀ L h' m) (sub : ∀ q ∈ rest, q ∈ nw) (hE : ErrAt P nw er []) (hR : NodeAt P nw x (Str.ofString "std") place (.ref ty) (.ref k) (.str name t)) (hk : (k, W.listOf (kids.map Value.ref).toArray n) ∈ nw) (e : y = (.std ty kids, Str.ofString "")) : Q (.ref x) { s with heap := h', toks := tk' } := by
  subst e
  exact hret _ nw _ _ F N ⟨x, rfl, sub, hE, k, t, n, hR, hk⟩
end
theorem size_typ {n : Str} {pl : Int} {d : Sd} (h : ((fcode1 n pl d).2 == Str.ofString "") = true) (hS : (n == Str.ofString "SIZE") = true) : d.sh = .typ := by
  by_cases e : d.sh = .typ
  · exact e
  · unfold fcode1 at h
    rw [if_pos hS, if_pos (op_typ e)] at h
    exact absurd (show (Str.ofString "not_a_type" == Str.ofString "") = true from h) (by decide)
theorem letter_ord {n : Str} {pl : Int} {d : Sd} (h : ((fcode1 n pl d).2 == Str.ofString "") = true) (hw : (d.form == Str.ofString "string") = true) (hS : (n == Str.ofString "SIZE") = false) (hL : (n == Str.ofString "LEN") = false) : n = Str.ofString "ORD" := by
  by_cases hO : (n == Str.ofString "ORD") = true
  · exact eq_of_beq hO
  · unfold fcode1 at h
    rw [if_neg (by rw [hS]; decide), if_neg (by rw [hL]; decide), if_neg hO, eq_of_beq hw] at h
    exact absurd (show (intCode (Str.ofString "string") == Str.ofString "") = true from h) (by decide)
theorem text_no {n : Str} {pl : Int} {d : Sd} (h : ((fcode1 n pl d).2 == Str.ofString "") = true) (hw : d.wf) (hd : d.sh = .text) (hS : (n == Str.ofString "SIZE") = false) (hL : (n == Str.ofString "LEN") = false) : False := by
  have hf : (d.form == Str.ofString "string") = true := by simpa [Sd.wf, hd] using hw
  have hn := letter_ord h hf hS hL
  subst hn
  obtain ⟨sh, f, a, b, c⟩ := d
  dsimp only at hd hf
  subst hd
  have hf' := eq_of_beq hf
  subst hf'
  exact absurd (show ((fcode1 (Str.ofString "ORD") pl ⟨.text, Str.ofString "string", a, b, c⟩).2 == Str.ofString "") = true from h) (by
    show ¬ (ordCode ⟨.text, Str.ofString "string", 0, 0, 0⟩ == Str.ofString "") = true
    decide)
theorem sh_cases (sh : Sh) : (∃ i, sh = .cint i) ∨ sh = .letter ∨ sh = .text ∨ ((sh.op == Str.ofString "const") = false ∧ ∀ f a b c, isLetter ⟨sh, f, a, b, c⟩ = false) := by
  cases sh with
  | cint i => exact .inl ⟨i, rfl⟩
  | letter => exact .inr (.inl rfl)
  | text => exact .inr (.inr (.inl rfl))
  | var ro => exact .inr (.inr (.inr ⟨(by decide : (Str.ofString "var" == Str.ofString "const") = false), fun _ _ _ _ => rfl⟩))
  | neg => exact .inr (.inr (.inr ⟨(by decide : (Str.ofString "neg" == Str.ofString "const") = false), fun _ _ _ _ => rfl⟩))
  | typ => exact .inr (.inr (.inr ⟨(by decide : (Str.ofString "type" == Str.ofString "const") = false), fun _ _ _ _ => rfl⟩))
theorem fnode1_letter {tb tc ti a1 : Addr} {f : Str} {sz ln nu : Int} : fnode1 (Str.ofString "ORD") tb tc ti a1 ⟨.letter, f, sz, ln, nu⟩ = (.const (resT (Str.ofString "ORD") tb tc ti) (folded1 (Str.ofString "ORD") ((Str.ofString "a").cps.getD 0 0 : Nat)).1, Str.ofString "") := by
  have e : ((Str.ofString "a").cps.getD 0 0) = 97 := by decide
  rw [e]
  unfold fnode1
  rw [if_neg (by decide), if_neg (by decide)]
  exact Prod.ext rfl (show (folded1 (Str.ofString "ORD") 97).2 = Str.ofString "" by decide)
theorem fnode1_std {n : Str} {tb tc ti a1 : Addr} {d : Sd} (hS : (n == Str.ofString "SIZE") = false) (hL : (n == Str.ofString "LEN") = false) (ho : (d.sh.op == Str.ofString "const") = false) : fnode1 n tb tc ti a1 d = (.std (resT n tb tc ti) [a1], Str.ofString "") := by
  unfold fnode1
  rw [if_neg (by rw [hS]; decide), if_neg (by rw [hL]; decide)]
  obtain ⟨sh, f, a, b, c⟩ := d
  cases sh with
  | cint i => exact absurd (show (Str.ofString "const" == Str.ofString "const") = false from ho) (by decide)
  | letter => exact absurd (show (Str.ofString "const" == Str.ofString "const") = false from ho) (by decide)
  | text => exact absurd (show (Str.ofString "const" == Str.ofString "const") = false from ho) (by decide)
  | _ => rfl
theorem fnode2_std {n : Str} {tb tc ti a1 a2 : Addr} {d1 d2 : Sd} (ho : (d1.sh.op == Str.ofString "const") = false ∨ (d2.sh.op == Str.ofString "const") = false) : fnode2 n tb tc ti a1 a2 d1 d2 = (.std (resT n tb tc ti) [a1, a2], Str.ofString "") := by
  unfold fnode2
  obtain ⟨sh1, f1, x1, y1, z1⟩ := d1
  obtain ⟨sh2, f2, x2, y2, z2⟩ := d2
  cases sh1 <;> cases sh2 <;> first | rfl | (exact absurd (ho.elim id id : (Str.ofString "const" == Str.ofString "const") = false) (by decide))
theorem int_sh {d : Sd} (h : d.wf) (hi : isInt d.form = true) : (∃ i, d.sh = .cint i) ∨ ((d.sh.op == Str.ofString "const") = false ∧ isLetter d = false) := by
  have hs := wf_int h hi
  rcases sh_cases d.sh with h | h | h | h
  · exact .inl h
  · rw [h] at hs; cases hs
  · rw [h] at hs; cases hs
  · exact .inr ⟨h.1, h.2 _ _ _ _⟩
theorem code2_ints {n : Str} {pl1 pl2 : Int} {d1 d2 : Sd} (hV : (n == Str.ofString "VAL") = false) (h : ((fcode2 n pl1 pl2 d1 d2).2 == Str.ofString "") = true) : isInt d1.form = true ∧ isInt d2.form = true ∧ (rangeCode d2.sh (Str.ofString "bad_shift") == Str.ofString "") = true := by
  unfold fcode2 at h
  rw [if_neg (by rw [hV]; decide)] at h
  split at h
  · rename_i h1; exact absurd h (by rw [show (pl1, intCode d1.form).2 = intCode d1.form from rfl, h1]; decide)
  · rename_i h1
    split at h
    · rename_i h2; exact absurd h (by rw [show (pl2, intCode d2.form).2 = intCode d2.form from rfl, h2]; decide)
    · rename_i h2
      exact ⟨intCode_yes (by simpa using h1), intCode_yes (by simpa using h2), h⟩
theorem range_in {i : Int} (h : (rangeCode (.cint i) (Str.ofString "bad_shift") == Str.ofString "") = true) : 0 ≤ i ∧ i ≤ 31 := by
  unfold rangeCode at h
  dsimp only at h
  split at h
  · exact absurd h (by decide)
  · omega
theorem val_code2 {n : Str} {pl1 pl2 : Int} {d1 d2 : Sd} (hV : (n == Str.ofString "VAL") = true) (ht : d1.sh = .typ) (h : ((fcode2 n pl1 pl2 d1 d2).2 == Str.ofString "") = true) : (valCode d1.form d2 == Str.ofString "") = true := by
  unfold fcode2 at h
  rw [if_pos hV, if_neg (by rw [ht]; decide)] at h
  exact h
theorem val_no_text {f : Str} {d : Sd} (hw : d.wf) (h : (valCode f d == Str.ofString "") = true) : d.sh ≠ .text := by
  intro e
  obtain ⟨sh, g, a, b, c⟩ := d
  dsimp only at e
  subst e
  have hg : g = Str.ofString "string" := by simpa [Sd.wf] using hw
  subst hg
  unfold valCode at h
  split at h
  · rename_i hx
    rcases hx.2 with q | q
    · exact absurd (show isPlain (Str.ofString "string") = true from q) (by decide)
    · exact absurd (show false = true from q) (by decide)
  · exact absurd h (by decide)
abbrev VPost (P : Params) (rest : List (Addr × Obj)) (er : Addr) (place : Int) (y : Res) : Value → List (Addr × Obj) → Prop := fun r nw => ∃ x, r = .ref x ∧ (∀ q ∈ rest, q ∈ nw) ∧ ErrAt P nw er [] ∧ Fres P nw x place (Str.ofString "VAL") y
theorem push_mem {nw : List (Addr × Obj)} {k : Addr} {x y : Value} {n : Nat} (h : (k, W.listOf (#[x].push y) n) ∈ nw) : (k, W.listOf #[x, y] n) ∈ nw := h
noncomputable def Kids (P : Params) (nw : List (Addr × Obj)) (k : Addr) (name : Str) (place : Int) (ti : Addr) : List Addr → Prop
  | [a1] => (isID name = true ∧ ∃ n c kc t1, (k, W.listOf #[.ref a1, .ref c] n) ∈ nw ∧ NodeAt P nw c (Str.ofString "const") place (.ref ti) (.ref kc) (.int 1 t1)) ∨ (isID name = false ∧ ∃ n, (k, W.listOf #[.ref a1] n) ∈ nw)
  | [a1, a2] => ∃ n, (k, W.listOf #[.ref a1, .ref a2] n) ∈ nw
  | _ => False
noncomputable def SPost (P : Params) (news : List (Addr × Obj)) (name : Str) (place : Int) (ti : Addr) (as : List Addr) : Value → List (Addr × Obj) → Prop := fun r nw =>
  ∃ x k t, r = .ref x ∧ (∀ q ∈ news, q ∈ nw) ∧ NodeAt P nw x (Str.ofString "std") place .none (.ref k) (.str name t) ∧ Kids P nw k name place ti as
noncomputable def errOp (stmt : Bool) : Str := if stmt = true then Str.ofString "block" else Str.ofString "const"
/-- a call that was marked: the mark, a harmless node -/
noncomputable def EPost (P : Params) (rest : List (Addr × Obj)) (er : Addr) (pl : Int) (code : Str) (stmt : Bool) (place : Int) : Value → List (Addr × Obj) → Prop := fun r nw =>
  ∃ x ty kd v, r = .ref x ∧ (∀ q ∈ rest, q ∈ nw) ∧ ErrAt P nw er [(pl, code)] ∧ NodeAt P nw x (errOp stmt) place ty kd v
noncomputable def CallS (P : Params) (rest : List (Addr × Obj)) (er : Addr) (y : Int × Str) (name : Str) (place : Int) (ti : Addr) (as : List Addr) : Value → List (Addr × Obj) → Prop := fun r nw =>
  ((y.2 == Str.ofString "") = false ∧ EPost P rest er y.1 y.2 true place r nw) ∨ ((y.2 == Str.ofString "") = true ∧ ErrAt P nw er [] ∧ SPost P rest name place ti as r nw)
noncomputable def CallF (P : Params) (rest : List (Addr × Obj)) (er : Addr) (y : Int × Str) (name : Str) (place : Int) (z : Res × Str) : Value → List (Addr × Obj) → Prop := fun r nw =>
  ((y.2 == Str.ofString "") = false ∧ EPost P rest er y.1 y.2 false place r nw) ∨ ((y.2 == Str.ofString "") = true ∧ FPost P rest er place name z r nw)
theorem ne_of_eqt {x y : Str} (h : (x == y) = true) : (x != y) = false := by simp only [bne, h]; rfl
theorem ne_of_eqf {x y : Str} (h : (x == y) = false) : (x != y) = true := by simp only [bne, h]; rfl
/-- the first argument, where one is -/
noncomputable def HeadAt (P : Params) (news : List (Addr × Obj)) : List Addr → Prop
  | [] => True
  | a1 :: _ => ∃ op pl ty kd v, NodeAt P news a1 op pl ty kd v ∧ ((op == Str.ofString "type") = true → ∃ t, v = .ref t)
theorem HeadAt.mono {P : Params} {n n' : List (Addr × Obj)} {as : List Addr} (h : HeadAt P n as) (s : ∀ q ∈ n, q ∈ n') : HeadAt P n' as := by
  cases as with
  | nil => trivial
  | cons a l => obtain ⟨op, pl, ty, kd, v, h1, h2⟩ := h; exact ⟨op, pl, ty, kd, v, h1.mono s, h2⟩
section
variable {prog : Program} {w : World} {A : Around} {E : Value → Shared → Prop} {s : Shared} {h₀ : Heap} {L l : Addr} {news : List (Addr × Obj)} {its : Array Value} {n : Nat} {Q : Value → Shared → Prop}
/-- the length of a list of the ledger's -/
theorem lenL (N : News h₀ L s.heap news) (hm : (l, W.listOf its n) ∈ news) (hs : its.size ≤ 3) (h : Q (.int (its.size : Nat) (s.toks + 1)) { s with toks := s.toks + 1 + 1 }) :
    wpAny (model prog w) A (call (.builtin "len") [.ref l]) Q E s :=
  Calls.call_len_list ⟨_, (N _ hm).1, rfl, n, rfl⟩ (by omega) h
end
theorem pos_cons {a : Value} {l : List Value} : decide (0 < (((a :: l).toArray.size : Nat) : Int)) = true := by
  rw [decide_eq_true_eq, List.size_toArray, List.length_cons]
  omega
noncomputable def VPostF (P : Params) (rest : List (Addr × Obj)) (er : Addr) (y : Int × Str) (place : Int) (z : Res) : Value → List (Addr × Obj) → Prop := fun r nw =>
  ((y.2 == Str.ofString "") = false ∧ EPost P rest er y.1 y.2 false place r nw) ∨ ((y.2 == Str.ofString "") = true ∧ VPost P rest er place z r nw)
theorem val_text3 {pl1 pl2 : Int} {f : Str} {a b c : Int} {d2 : Sd} (hw : d2.wf) (h : ((fcode2 (Str.ofString "VAL") pl1 pl2 ⟨.typ, f, a, b, c⟩ d2).2 == Str.ofString "") = true) : d2.sh ≠ .text :=
  val_no_text hw (val_code2 (by decide) rfl h)
/-- a new type -/
noncomputable def newTy (P : Params) (news : List (Addr × Obj)) (number form size : Value) : Value → List (Addr × Obj) → Prop := fun r nw =>
  ∃ (x : Addr) (z : TZ) (t : Tok), r = .ref x ∧ nw = [(x, instObj 310 z.dx), (z.dx, typeDict P z number form size (.int 0 t))] ++ news ∧ (∀ p ∈ news, p.1 < z.dx) ∧ @LT.lt Nat _ z.dx x
/-- a new object of the text's -/
noncomputable def newObj (P : Params) (news : List (Addr × Obj)) : Value → List (Addr × Obj) → Prop := fun r nw =>
  ∃ (x : Addr) (z : OZ), r = .ref x ∧ nw = [(x, instObj 331 z.dx), (z.dx, objDict P z false)] ++ news ∧ (∀ p ∈ news, p.1 < z.dx) ∧ @LT.lt Nat _ z.dx x
noncomputable def newNode (P : Params) (news : List (Addr × Obj)) (op place ty kids value : Value) : Value → List (Addr × Obj) → Prop := fun r nw =>
  ∃ (x : Addr) (z : NZ), r = .ref x ∧ nw = [(x, instObj 60 z.dx), (z.dx, nodeDict P z op place ty kids value (.bool false))] ++ news ∧ (∀ p ∈ news, p.1 < z.dx) ∧ @LT.lt Nat _ z.dx x
theorem useN {w : World} {f : Addr} {k : Nat} {news : List (Addr × Obj)} {vs : List Value} {loose : List Str} {mean : ExcName → Option Value} {mg mb : Str → Option Value} {dp un : Nat} {gd : Option (List Code)} {cn : Str} {cs : Scope} {a : Addr} {ccd : Value} {cl : List (Str × Addr)} {outer : List Env} {A₀ : Around} {base h₀ : Heap} {L : Addr} {m : Str → Option Value} {s : Shared} {Q E : Value → Shared → Prop} {op place ty kids value : Value}
    (B : Below A₀ base outer h₀) (F : Fr h₀ L s.heap m) (X : (hd.heap_1 w.params).In h₀) (N : News h₀ L s.heap news) (T : Top VQ loose mean mg mb h₀) (hk : cs.kind = .function) (C : CallOk w f k news vs (newNode w.params news op place ty kids value)) (hd : dp + k < recursionLimit) (hu : un + 8 * k < cLine)
    (ret : ∀ x z h' tk', Fr h₀ L h' m → News h₀ L h' ((x, instObj 60 z.dx) :: (z.dx, nodeDict w.params z op place ty kids value (.bool false)) :: news) → (∀ p ∈ news, p.1 < z.dx) → @LT.lt Nat _ z.dx x → Q (.ref x) { s with heap := h', toks := tk' }) :
    wpAny (model PySem.Challenge.pw_nu0340_01 w) (ktrTop dp un gd cn cs L a ccd cl outer) (call (.ref f) vs) Q E s := CallOk.use B F X N T hk C hd hu fun r nw h' tk' F' N' P => by
      obtain ⟨x, z, e, e', p1, p3⟩ := P
      subst e; subst e'
      exact ret x z h' tk' F' N' p1 p3
theorem useO {w : World} {f : Addr} {k : Nat} {news : List (Addr × Obj)} {vs : List Value} {loose : List Str} {mean : ExcName → Option Value} {mg mb : Str → Option Value} {dp un : Nat} {gd : Option (List Code)} {cn : Str} {cs : Scope} {a : Addr} {ccd : Value} {cl : List (Str × Addr)} {outer : List Env} {A₀ : Around} {base h₀ : Heap} {L : Addr} {m : Str → Option Value} {s : Shared} {Q E : Value → Shared → Prop}
    (B : Below A₀ base outer h₀) (F : Fr h₀ L s.heap m) (X : (hd.heap_1 w.params).In h₀) (N : News h₀ L s.heap news) (T : Top VQ loose mean mg mb h₀) (hk : cs.kind = .function) (C : CallOk w f k news vs (newObj w.params news)) (hd : dp + k < recursionLimit) (hu : un + 8 * k < cLine)
    (ret : ∀ x z h' tk', Fr h₀ L h' m → News h₀ L h' ((x, instObj 331 z.dx) :: (z.dx, objDict w.params z false) :: news) → (∀ p ∈ news, p.1 < z.dx) → @LT.lt Nat _ z.dx x → Q (.ref x) { s with heap := h', toks := tk' }) :
    wpAny (model PySem.Challenge.pw_nu0340_01 w) (ktrTop dp un gd cn cs L a ccd cl outer) (call (.ref f) vs) Q E s := CallOk.use B F X N T hk C hd hu fun r nw h' tk' F' N' P => by
      obtain ⟨x, z, e, e', p1, p3⟩ := P
      subst e; subst e'
      exact ret x z h' tk' F' N' p1 p3
theorem useTy {w : World} {f : Addr} {k : Nat} {news : List (Addr × Obj)} {vs : List Value} {loose : List Str} {mean : ExcName → Option Value} {mg mb : Str → Option Value} {dp un : Nat} {gd : Option (List Code)} {cn : Str} {cs : Scope} {a : Addr} {ccd : Value} {cl : List (Str × Addr)} {outer : List Env} {A₀ : Around} {base h₀ : Heap} {L : Addr} {m : Str → Option Value} {s : Shared} {Q E : Value → Shared → Prop} {nu fo si : Value}
    (B : Below A₀ base outer h₀) (F : Fr h₀ L s.heap m) (X : (hd.heap_1 w.params).In h₀) (N : News h₀ L s.heap news) (T : Top VQ loose mean mg mb h₀) (hk : cs.kind = .function) (C : CallOk w f k news vs (newTy w.params news nu fo si)) (hd : dp + k < recursionLimit) (hu : un + 8 * k < cLine)
    (ret : ∀ x z t h' tk', Fr h₀ L h' m → News h₀ L h' ((x, instObj 310 z.dx) :: (z.dx, typeDict w.params z nu fo si (.int 0 t)) :: news) → (∀ p ∈ news, p.1 < z.dx) → @LT.lt Nat _ z.dx x → Q (.ref x) { s with heap := h', toks := tk' }) :
    wpAny (model PySem.Challenge.pw_nu0340_01 w) (ktrTop dp un gd cn cs L a ccd cl outer) (call (.ref f) vs) Q E s := CallOk.use B F X N T hk C hd hu fun r nw h' tk' F' N' P => by
      obtain ⟨x, z, t, e, e', p1, p3⟩ := P
      subst e; subst e'
      exact ret x z t h' tk' F' N' p1 p3
theorem useT {w : World} {f : Addr} {k : Nat} {news : List (Addr × Obj)} {vs : List Value} {loose : List Str} {mean : ExcName → Option Value} {mg mb : Str → Option Value} {dp un : Nat} {gd : Option (List Code)} {cn : Str} {cs : Scope} {a : Addr} {ccd : Value} {cl : List (Str × Addr)} {outer : List Env} {A₀ : Around} {base h₀ : Heap} {L : Addr} {m : Str → Option Value} {s : Shared} {Q E : Value → Shared → Prop} {i : Int} {c : Str}
    (B : Below A₀ base outer h₀) (F : Fr h₀ L s.heap m) (X : (hd.heap_1 w.params).In h₀) (N : News h₀ L s.heap news) (T : Top VQ loose mean mg mb h₀) (hk : cs.kind = .function) (C : CallOk w f k news vs (TupIS news i c)) (hd : dp + k < recursionLimit) (hu : un + 8 * k < cLine)
    (ret : ∀ tp t1 t2 h' tk', Fr h₀ L h' m → News h₀ L h' ((tp, tupObj #[.int i t1, .str c t2]) :: news) → Q (.ref tp) { s with heap := h', toks := tk' }) :
    wpAny (model PySem.Challenge.pw_nu0340_01 w) (ktrTop dp un gd cn cs L a ccd cl outer) (call (.ref f) vs) Q E s := CallOk.use B F X N T hk C hd hu fun r nw h' tk' F' N' P => by
      obtain ⟨tp, t1, t2, e, e'⟩ := P
      subst e; subst e'
      exact ret tp t1 t2 h' tk' F' N'
end Mine
namespace Mine
noncomputable def fnKvs (u1 u2 u3 u4 u5 u6 u7 u8 u9 u10 : Tok) : List (Str × Value) := [(Str.ofString "ABS", .int 1 u1), (Str.ofString "ODD", .int 1 u2), (Str.ofString "LEN", .int 1 u3), (Str.ofString "LSL", .int 2 u4), (Str.ofString "ASR", .int 2 u5), (Str.ofString "ROR", .int 2 u6), (Str.ofString "ORD", .int 1 u7), (Str.ofString "CHR", .int 1 u8), (Str.ofString "VAL", .int 2 u9), (Str.ofString "SIZE", .int 1 u10)]
/-- the table of the functions, as the ledger bears it -/
noncomputable def FnAt (w : World) (d : Addr) (o : Obj) : Prop := (d == sysModules) = false ∧ ∃ u1 u2 u3 u4 u5 u6 u7 u8 u9 u10, o.IsDictOf (PySem.strKind PySem.Challenge.pw_nu0340_01 w) (fnKvs u1 u2 u3 u4 u5 u6 u7 u8 u9 u10)
noncomputable def argc (n : Str) (d : Int) : Int := if isF n = true then (if isTwo n = true then 2 else 1) else d
theorem valueAt_isSome {n : Str} : ∀ kvs : List (Str × Value), (PySem.valueAt kvs n).isSome = (kvs.map (·.1)).any fun x => x == n
  | [] => rfl
  | (k, v) :: r => by
    have ih := valueAt_isSome (n := n) r
    unfold PySem.valueAt at ih ⊢
    rw [List.map_cons, List.any_cons, ← ih, List.find?_cons]
    by_cases h : k = n
    · subst h; simp
    · have : (k == n) = false := beq_eq_false_iff_ne.mpr h
      simp [h, this]
theorem fn_some {n : Str} {u1 u2 u3 u4 u5 u6 u7 u8 u9 u10 : Tok} : (PySem.valueAt (fnKvs u1 u2 u3 u4 u5 u6 u7 u8 u9 u10) n).isSome = isF n := by
  rw [valueAt_isSome]
  rfl
theorem isF_cases {n : Str} (h : isF n = true) : n = Str.ofString "ABS" ∨ n = Str.ofString "ODD" ∨ n = Str.ofString "LEN" ∨ n = Str.ofString "LSL" ∨ n = Str.ofString "ASR" ∨ n = Str.ofString "ROR" ∨ n = Str.ofString "ORD" ∨ n = Str.ofString "CHR" ∨ n = Str.ofString "VAL" ∨ n = Str.ofString "SIZE" := by
  unfold isF at h
  simp only [List.any_cons, List.any_nil, Bool.or_eq_true, beq_iff_eq, Bool.or_false] at h
  rcases h with h | h | h | h | h | h | h | h | h | h <;> subst h <;> simp
theorem fn_get {n : Str} {u1 u2 u3 u4 u5 u6 u7 u8 u9 u10 : Tok} {d : Int} {t : Tok} : ∃ u, (PySem.valueAt (fnKvs u1 u2 u3 u4 u5 u6 u7 u8 u9 u10) n).getD (.int d t) = .int (argc n d) u := by
  by_cases h : isF n = true
  · rcases isF_cases h with h | h | h | h | h | h | h | h | h | h <;> subst h <;> exact ⟨_, rfl⟩
  · refine ⟨t, ?_⟩
    have e := fn_some (n := n) (u1 := u1) (u2 := u2) (u3 := u3) (u4 := u4) (u5 := u5) (u6 := u6) (u7 := u7) (u8 := u8) (u9 := u9) (u10 := u10)
    unfold argc
    rw [if_neg h]
    cases hv : PySem.valueAt (fnKvs u1 u2 u3 u4 u5 u6 u7 u8 u9 u10) n with
    | none => rfl
    | some v => rw [hv] at e; exact absurd e.symm h
section
variable {w : World} {A : Around} {E : Value → Shared → Prop} {s : Shared} {h₀ : Heap} {L d : Addr} {m : Str → Option Value} {news : List (Addr × Obj)} {o : Obj} {n : Str} {t : Tok} {Q : Value → Shared → Prop}
theorem fn_in (N : News h₀ L s.heap news) (hp : (d, o) ∈ news) (hf : FnAt w d o) (h : Q (.bool (isF n)) { s with toks := s.toks + 1 }) : wpAny (model PySem.Challenge.pw_nu0340_01 w) A (compareOp .In (.str n t) (.ref d)) Q E s := by
  obtain ⟨lo, u1, u2, u3, u4, u5, u6, u7, u8, u9, u10, hd⟩ := hf
  exact kda_in (k := n) N hp hd lo (by show Value.isStrOf n (.str n t) = true; simp [Value.isStrOf]) _ fn_some h
theorem fn_notin (N : News h₀ L s.heap news) (hp : (d, o) ∈ news) (hf : FnAt w d o) (h : Q (.bool (!isF n)) { s with toks := s.toks + 1 }) : wpAny (model PySem.Challenge.pw_nu0340_01 w) A (compareOp .NotIn (.str n t) (.ref d)) Q E s := by
  obtain ⟨lo, u1, u2, u3, u4, u5, u6, u7, u8, u9, u10, hd⟩ := hf
  exact kdg_notin (k := n) N hp hd lo (by show Value.isStrOf n (.str n t) = true; simp [Value.isStrOf]) _ fn_some h
theorem fn_method {pl : Sem Bool} {Q : Value × List Value → Shared → Prop} (N : News h₀ L s.heap news) (hp : (d, o) ∈ news) (hf : FnAt w d o) (h : Q (.builtin "dict.get", [.ref d]) s) : wpAny (model PySem.Challenge.pw_nu0340_01 w) A (getMethod (.ref d) (Str.ofString "get") pl) Q E s := by
  obtain ⟨lo, u1, u2, u3, u4, u5, u6, u7, u8, u9, u10, hd⟩ := hf
  exact kdg_method N hp hd h
theorem fn_get2 {dv : Int} {tv : Tok} (N : News h₀ L s.heap news) (hp : (d, o) ∈ news) (hf : FnAt w d o) (h : ∀ u, Q (.int (argc n dv) u) { s with toks := s.toks + 1 }) : wpAny (model PySem.Challenge.pw_nu0340_01 w) A (call (.builtin "dict.get") [.ref d, .str n t, .int dv tv]) Q E s := by
  obtain ⟨lo, u1, u2, u3, u4, u5, u6, u7, u8, u9, u10, hd⟩ := hf
  obtain ⟨u, e⟩ := fn_get (n := n) (u1 := u1) (u2 := u2) (u3 := u3) (u4 := u4) (u5 := u5) (u6 := u6) (u7 := u7) (u8 := u8) (u9 := u9) (u10 := u10) (d := dv) (t := tv)
  exact kdg_get2 (k := n) N hp hd lo (by show Value.isStrOf n (.str n t) = true; simp [Value.isStrOf]) _ rfl (by rw [e]; exact h u)
theorem fn_list (hh : A.handled = none) (F : Fr h₀ L s.heap m) (N : News h₀ L s.heap news) (hp : (d, o) ∈ news) (hf : FnAt w d o)
    (h : ∀ (B : Addr) c h' tk t1 t2 t3 t4 t5 t6 t7 t8 t9 t10, Fr h₀ L h' m → News h₀ L h' ((B, listOf #[.str (Str.ofString "ABS") t1, .str (Str.ofString "ODD") t2, .str (Str.ofString "LEN") t3, .str (Str.ofString "LSL") t4, .str (Str.ofString "ASR") t5, .str (Str.ofString "ROR") t6, .str (Str.ofString "ORD") t7, .str (Str.ofString "CHR") t8, .str (Str.ofString "VAL") t9, .str (Str.ofString "SIZE") t10] c) :: news) → (∀ q ∈ news, q.1 < B) → Q (.ref B) { s with heap := h', toks := tk }) :
    wpAny (model PySem.Challenge.pw_nu0340_01 w) A (call (.type "list") [.ref d]) Q E s := by
  obtain ⟨lo, u1, u2, u3, u4, u5, u6, u7, u8, u9, u10, hd⟩ := hf
  exact kdl_list_keysS hh F N hp hd lo (Nat.le_of_ble_eq_true rfl) fun B c h' tk t1 t2 t3 t4 t5 t6 t7 t8 t9 t10 F' N' l => h B c h' tk t1 t2 t3 t4 t5 t6 t7 t8 t9 t10 F' N' l
end
abbrev poolObj (fg : Addr) (i m : Int) (t1 t2 : Tok) (n : Nat) : Obj := W.listOf #[.ref fg, .int i t1, .int m t2] n
section
variable {prog : Program} {w : World} {A : Around} {E : Value → Shared → Prop} {s : Shared} {h₀ : Heap} {L l : Addr} {news : List (Addr × Obj)} {vs : List Value} {ns : List Int} {n : Nat} {k : Int} {u : Tok} {Q : Value → Shared → Prop} {value slice : PySem.Expr}
theorem lenI (N : News h₀ L s.heap news) (hm : (l, W.listOf vs.toArray n) ∈ news) (hI : IntsAre vs ns) (hl : ns.length ≤ 3000) (h : Q (.int (ns.length : Nat) (s.toks + 1)) { s with toks := s.toks + 1 + 1 }) :
    wpAny (model prog w) A (call (.builtin "len") [.ref l]) Q E s := len_ints_fit ⟨_, (N _ hm).1, rfl, n, rfl⟩ hI (by omega) h
theorem itemI (N : News h₀ L s.heap news) (hm : (l, W.listOf vs.toArray n) ∈ news) (hI : IntsAre vs ns) (hl : ns.length ≤ 3000) (h0 : 0 ≤ k) (h1 : k < ns.length) (h : ∀ t x, x ∈ ns → Q (.int x t) s)
    (hs : subscripted slice false (.ref l) (.int k u) = operate [.ref l, .int k u] (getItem (.ref l) (.int k u)) := by with_unfolding_all rfl) (hg : ∀ r, letTemporaryGo value (.ref l) r = pure () := by intro _; with_unfolding_all rfl) :
    wpAny (model prog w) A (subscriptTail value slice (.ref l) (.int k u)) Q E s :=
  item_list_ints ⟨_, (N _ hm).1, rfl, n, rfl⟩ hI h0 h1 (by omega) (fun t => h t _ (by
    have hk : k.toNat < ns.length := by omega
    have e : ns.getD k.toNat 0 = ns[k.toNat] := by simp [List.getD, hk]
    rw [e]
    exact List.getElem_mem hk)) hs hg
end
/-- the letters of the types' own object, its counter apart -/
structure Y9 where
  k1 : Tok
  k2 : Tok
  k3 : Tok
  k4 : Tok
  k5 : Tok
  k6 : Tok
  k7 : Tok
  k8 : Tok
  k9 : Tok
  c2 : Value
  c5 : Value
  c6 : Value
  tb : Addr
  tc : Addr
  ty : Addr
  ti : Addr
  tm : Addr
abbrev tysDict (P : Params) (z : Y9) (c1 : Value) : Obj :=
  dictOf [ent P (Str.ofString "counter") z.k1 c1, ent P (Str.ofString "known") z.k2 z.c2, ent P (Str.ofString "boolean") z.k3 (.ref z.tb), ent P (Str.ofString "char") z.k4 (.ref z.tc), ent P (Str.ofString "byte") z.k5 (.ref z.ty), ent P (Str.ofString "integer") z.k6 (.ref z.ti), ent P (Str.ofString "mask") z.k7 (.ref z.tm), ent P (Str.ofString "nil") z.k8 z.c5, ent P (Str.ofString "none") z.k9 z.c6] 9
/-- what a new type's making leaves: the counter one up, the type's objects ahead of all -/
noncomputable def newPost (P : Params) (news : List (Addr × Obj)) (g : Int → Tok → List (Addr × Obj)) (c : Int) (form size : Value) : Value → List (Addr × Obj) → Prop := fun r nw =>
  ∃ (x : Addr) (z : TZ) (t1 t t7 : Tok), r = .ref x ∧ nw = [(x, instObj 310 z.dx), (z.dx, typeDict P z (.int (c + 1) t1) form size (.int 0 t))] ++ g (c + 1) t7 ∧
    (∀ p ∈ news, p.1 < z.dx) ∧ @LT.lt Nat _ z.dx x
/-- a dict whose first key is the counter -/
abbrev ctD (P : Params) (k : Tok) (c : Int) (t : Tok) (es : List DictEntry) (n : Nat) : Obj := dictOf (ent P (Str.ofString "counter") k (.int c t) :: es) n
section
variable {P : Params} {h n : Int} {k v v0 : Value} {t : Tok} {es : List DictEntry} {n0 : Nat} {z : TZ} {o : OZ} {b b0 : Bool} {nu fo si le : Value}
noncomputable def TZ.setB (z : TZ) (v : Value) : TZ := { z with b1 := v }
noncomputable def TZ.setM (z : TZ) (v : Value) : TZ := { z with m1 := v }
noncomputable def TZ.setL (z : TZ) (v : Value) : TZ := { z with la := v }
theorem put_ct : (putL (Str.ofString "counter") h k v (ent P (Str.ofString "counter") t v0 :: es), putN (Str.ofString "counter") (ent P (Str.ofString "counter") t v0 :: es) n0) = (ent P (Str.ofString "counter") t v :: es, n0) := by kernel_rfl
theorem put_base : (putL (Str.ofString "base") h k v (typeEs P z nu fo si le), putN (Str.ofString "base") (typeEs P z nu fo si le) 12) = (typeEs P (z.setB v) nu fo si le, 12) := by kernel_rfl
theorem put_length : (putL (Str.ofString "length") h k v (typeEs P z nu fo si le), putN (Str.ofString "length") (typeEs P z nu fo si le) 12) = (typeEs P z nu fo si v, 12) := by kernel_rfl
theorem put_module : (putL (Str.ofString "module") h k v (typeEs P z nu fo si le), putN (Str.ofString "module") (typeEs P z nu fo si le) 12) = (typeEs P (z.setM v) nu fo si le, 12) := by kernel_rfl
theorem put_label : (putL (Str.ofString "label") h k v (typeEs P z nu fo si le), putN (Str.ofString "label") (typeEs P z nu fo si le) 12) = (typeEs P (z.setL v) nu fo si le, 12) := by kernel_rfl
theorem put_readonly : (putL (Str.ofString "readonly") h k (.bool b) (objEs P o b0), putN (Str.ofString "readonly") (objEs P o b0) 14) = (objEs P o b, 14) := by kernel_rfl
end
theorem mem_drop {a : Addr × Obj} {pre post l : List (Addr × Obj)} (h : ∀ q ∈ l, q ∈ pre ++ a :: post) (n : ∀ q ∈ l, q ≠ a) : ∀ q ∈ l, q ∈ pre ++ post := fun q hq => by
  rcases List.mem_append.mp (h q hq) with h1 | h1
  · exact List.mem_append_left _ h1
  · rcases List.mem_cons.mp h1 with h2 | h2
    · exact absurd h2 (n q hq)
    · exact List.mem_append_right _ h2
theorem to_head {a : Addr × Obj} {pre post : List (Addr × Obj)} : ∀ q ∈ a :: (pre ++ post), q ∈ pre ++ a :: post := fun q hq => by
  rcases List.mem_cons.mp hq with rfl | hq
  · exact List.mem_append_right _ (.head _)
  · rcases List.mem_append.mp hq with h | h
    · exact List.mem_append_left _ h
    · exact List.mem_append_right _ (.tail _ h)
theorem of_head {a : Addr × Obj} {pre post : List (Addr × Obj)} : ∀ q ∈ pre ++ a :: post, q ∈ a :: (pre ++ post) := fun q hq => by
  rcases List.mem_append.mp hq with h | h
  · exact List.mem_cons_of_mem _ (List.mem_append_left _ h)
  · rcases List.mem_cons.mp h with rfl | h
    · exact .head _
    · exact List.mem_cons_of_mem _ (List.mem_append_right _ h)
theorem off_head {d : Addr} {pre post : List (Addr × Obj)} (h1 : ∀ p ∈ pre, p.1 ≠ d) (h2 : ∀ p ∈ post, p.1 ≠ d) : ∀ p ∈ pre ++ post, p.1 ≠ d := fun p hp => (List.mem_append.mp hp).elim (h1 p) (h2 p)
theorem ints_no_pool {fg pl : Addr} {i m : Int} {u1 u2 : Tok} {np nf : Nat} {vs : List Value} {ns : List Int} (hI : IntsAre vs ns) : (fg, W.listOf vs.toArray nf) ≠ (pl, poolObj pl i m u1 u2 np) := by
  intro e
  have e2 := (Prod.mk.inj e).2
  unfold poolObj at e2
  injection e2 with _ _ e3 _
  injection e3 with e4 _
  have e5 : vs = [.ref pl, .int i u1, .int m u2] := by
    have := congrArg Array.toList e4
    simpa using this
  subst e5
  cases hI
theorem ints_no_pool' {fg pl q : Addr} {i m : Int} {u1 u2 : Tok} {np nf : Nat} {vs : List Value} {ns : List Int} (hI : IntsAre vs ns) : (fg, W.listOf vs.toArray nf) ≠ (pl, poolObj q i m u1 u2 np) := by
  intro e
  have e2 := (Prod.mk.inj e).2
  unfold poolObj at e2
  injection e2 with _ _ e3 _
  injection e3 with e4 _
  have e5 : vs = [.ref q, .int i u1, .int m u2] := by
    have := congrArg Array.toList e4
    simpa using this
  subst e5
  cases hI
/-- what the law notes of a side: its kind's word, its value, its flag -/
structure Nt where
  ks : Str
  ov : Option Int
  fl : Str
noncomputable def ovVal : Option Int → Value → Prop
  | none, v => v = .none
  | some i, v => ∃ t, v = .int i t
noncomputable def intVals : List Int := [0, 1, 31, 32, -1, 255, 256, 2147483647, -2147483648]
noncomputable def setVals : List Int := [0, 5, 4294967295]
noncomputable def boolVals : List Int := [0, 1]
noncomputable def typForms : List Str := [Str.ofString "integer", Str.ofString "set", Str.ofString "boolean", Str.ofString "char", Str.ofString "byte", Str.ofString "record"]
/-- a side, and what the law notes of it -/
inductive Rel : Sd → Nt → Prop
  | intv (sz ln nu) : Rel ⟨.var false, Str.ofString "integer", sz, ln, nu⟩ ⟨Str.ofString "int", none, Str.ofString "var"⟩
  | neg (sz ln nu) : Rel ⟨.neg, Str.ofString "integer", sz, ln, nu⟩ ⟨Str.ofString "int", none, Str.ofString "no"⟩
  | setv (sz ln nu) : Rel ⟨.var false, Str.ofString "set", sz, ln, nu⟩ ⟨Str.ofString "set", none, Str.ofString "var"⟩
  | boolv (sz ln nu) : Rel ⟨.var false, Str.ofString "boolean", sz, ln, nu⟩ ⟨Str.ofString "bool", none, Str.ofString "var"⟩
  | charv (sz ln nu) : Rel ⟨.var false, Str.ofString "char", sz, ln, nu⟩ ⟨Str.ofString "char", none, Str.ofString "var"⟩
  | bytev (sz ln nu) : Rel ⟨.var false, Str.ofString "byte", sz, ln, nu⟩ ⟨Str.ofString "int", none, Str.ofString "var"⟩
  | ptrv (sz ln nu) : Rel ⟨.var false, Str.ofString "pointer", sz, ln, nu⟩ ⟨Str.ofString "ptr", none, Str.ofString "var"⟩
  | arrv (sz nu) : Rel ⟨.var false, Str.ofString "array", sz, -1, nu⟩ ⟨Str.ofString "arr", none, Str.ofString "var"⟩
  | arrw (sz nu) : Rel ⟨.var false, Str.ofString "array", sz, 3, nu⟩ ⟨Str.ofString "arr", none, Str.ofString "var"⟩
  | rov (sz ln nu) : Rel ⟨.var true, Str.ofString "integer", sz, ln, nu⟩ ⟨Str.ofString "int", none, Str.ofString "read"⟩
  | letter (sz ln nu) : Rel ⟨.letter, Str.ofString "string", sz, ln, nu⟩ ⟨Str.ofString "letter", some 97, Str.ofString "no"⟩
  | text (sz ln nu) : Rel ⟨.text, Str.ofString "string", sz, ln, nu⟩ ⟨Str.ofString "text", none, Str.ofString "no"⟩
  | cint (i sz ln nu) : i ∈ intVals → Rel ⟨.cint i, Str.ofString "integer", sz, ln, nu⟩ ⟨Str.ofString "int", some i, Str.ofString "no"⟩
  | cset (i sz ln nu) : i ∈ setVals → Rel ⟨.cint i, Str.ofString "set", sz, ln, nu⟩ ⟨Str.ofString "set", some i, Str.ofString "no"⟩
  | cbool (i sz ln nu) : i ∈ boolVals → Rel ⟨.cint i, Str.ofString "boolean", sz, ln, nu⟩ ⟨Str.ofString "bool", some i, Str.ofString "no"⟩
  | typ (f sz ln nu) : f ∈ typForms → Rel ⟨.typ, f, sz, ln, nu⟩ ⟨Str.ofString "type", none, Str.ofString "no"⟩
/-- the tuple of a side -/
noncomputable def SideTup (P : Params) (news : List (Addr × Obj)) (tp nd : Addr) (spot : Int) (d : Sd) (nt : Nt) : Prop :=
  ∃ t1 t2 vv, (tp, tupObj #[.ref nd, .str nt.ks t1, vv, .str nt.fl t2]) ∈ news ∧ ovVal nt.ov vv ∧ SideAt P news nd spot d ∧ Rel d nt
theorem SideTup.mono {P : Params} {n n' : List (Addr × Obj)} {tp nd : Addr} {spot : Int} {d : Sd} {nt : Nt} (h : SideTup P n tp nd spot d nt) (s : ∀ q ∈ n, q ∈ n') : SideTup P n' tp nd spot d nt := by
  obtain ⟨t1, t2, vv, h1, h2, h3, h4⟩ := h
  exact ⟨t1, t2, vv, s _ h1, h2, h3.mono s, h4⟩
/-- the types' own -/
structure TysIs (P : Params) (rest : List (Addr × Obj)) (tys td : Addr) (y : Y9) : Prop where
  own : (tys, instObj 367 td) ∈ rest
  hb : TypeAt P rest y.tb (Str.ofString "boolean") 1 0 1
  hc : TypeAt P rest y.tc (Str.ofString "char") 1 0 2
  hy : TypeAt P rest y.ty (Str.ofString "byte") 1 0 3
  hi : TypeAt P rest y.ti (Str.ofString "integer") 4 0 4
  hm : TypeAt P rest y.tm (Str.ofString "set") 4 0 5
theorem TysIs.mono {P : Params} {n n' : List (Addr × Obj)} {tys td : Addr} {y : Y9} (h : TysIs P n tys td y) (s : ∀ q ∈ n, q ∈ n') : TysIs P n' tys td y :=
  ⟨s _ h.own, h.hb.mono s, h.hc.mono s, h.hy.mono s, h.hi.mono s, h.hm.mono s⟩
section
variable {prog : Program} {w : World} {A : Around} {E : Value → Shared → Prop} {s : Shared} {h₀ : Heap} {L l : Addr} {news : List (Addr × Obj)} {its : Array Value} {n : Nat} {k : Int} {u : Tok} {Q : Value → Shared → Prop} {value slice : PySem.Expr}
/-- an item of a list of the ledger's, at a place in bounds that is not known -/
theorem itemAny (N : News h₀ L s.heap news) (hm : (l, W.listOf its n) ∈ news) (h0 : 0 ≤ k) (h1 : k < (its.size : Nat)) (hsz : its.size ≤ 20) (h : ∀ v, its.toList[k.toNat]? = some v → Q v s)
    (hs : subscripted slice false (.ref l) (.int k u) = operate [.ref l, .int k u] (getItem (.ref l) (.int k u)) := by with_unfolding_all rfl) :
    wpAny (model prog w) A (subscriptTail value slice (.ref l) (.int k u)) Q E s := by
  have hl : s.heap.IsList l its := ⟨_, (N _ hm).1, rfl, n, rfl⟩
  have hk : k.toNat < its.toList.length := by simp only [Array.length_toList]; omega
  have e : its.toList[k.toNat]? = some its.toList[k.toNat] := List.getElem?_eq_getElem hk
  exact tail_any hl.typeIs slot_list_getitem.lookup (wpAny_getItem_list hl h0 (by omega) (by simpa using e) (h _ e)) hs
end
structure PZ where
  x : Int
  t : Tok
  i : Int
  m : Int
  u1 : Tok
  u2 : Tok
  n : Nat
noncomputable def PickPost (g : Obj → List (Addr × Obj)) (fg : Addr) (b : Int) : Value → List (Addr × Obj) → Prop := fun r nw =>
  ∃ z : PZ, r = .int z.x z.t ∧ nw = g (poolObj fg z.i z.m z.u1 z.u2 z.n) ∧ 0 ≤ z.x ∧ z.x < b ∧ 0 ≤ z.i ∧ 0 ≤ z.m ∧ z.m < 1009
theorem usePick {w : World} {f : Addr} {k : Nat} {news : List (Addr × Obj)} {vs : List Value} {loose : List Str} {mean : ExcName → Option Value} {mg mb : Str → Option Value} {dp un : Nat} {gd : Option (List Code)} {cn : Str} {cs : Scope} {a : Addr} {ccd : Value} {cl : List (Str × Addr)} {outer : List Env} {A₀ : Around} {base h₀ : Heap} {L : Addr} {m : Str → Option Value} {s : Shared} {Q E : Value → Shared → Prop} {g : Obj → List (Addr × Obj)} {fg : Addr} {b : Int}
    (B : Below A₀ base outer h₀) (F : Fr h₀ L s.heap m) (X : (hd.heap_1 w.params).In h₀) (N : News h₀ L s.heap news) (T : Top VQ loose mean mg mb h₀) (hk : cs.kind = .function) (C : CallOk w f k news vs (PickPost g fg b)) (hd : dp + k < recursionLimit) (hu : un + 8 * k < cLine)
    (ret : ∀ x t i m' u1 u2 n h' tk', 0 ≤ x → x < b → 0 ≤ i → 0 ≤ m' → m' < 1009 → Fr h₀ L h' m → News h₀ L h' (g (poolObj fg i m' u1 u2 n)) → Q (.int x t) { s with heap := h', toks := tk' }) :
    wpAny (model PySem.Challenge.pw_nu0340_01 w) (ktrTop dp un gd cn cs L a ccd cl outer) (call (.ref f) vs) Q E s := CallOk.use B F X N T hk C hd hu fun r nw h' tk' F' N' P => by
      obtain ⟨z, e, e', p1, p2, p3, p4, p5⟩ := P
      subst e; subst e'
      exact ret z.x z.t z.i z.m z.u1 z.u2 z.n h' tk' p1 p2 p3 p4 p5 F' N'
theorem useNew {w : World} {f : Addr} {k : Nat} {news : List (Addr × Obj)} {vs : List Value} {loose : List Str} {mean : ExcName → Option Value} {mg mb : Str → Option Value} {dp un : Nat} {gd : Option (List Code)} {cn : Str} {cs : Scope} {a : Addr} {ccd : Value} {cl : List (Str × Addr)} {outer : List Env} {A₀ : Around} {base h₀ : Heap} {L : Addr} {m : Str → Option Value} {s : Shared} {Q E : Value → Shared → Prop} {g : Int → Tok → List (Addr × Obj)} {c : Int} {form size : Value}
    (B : Below A₀ base outer h₀) (F : Fr h₀ L s.heap m) (X : (hd.heap_1 w.params).In h₀) (N : News h₀ L s.heap news) (T : Top VQ loose mean mg mb h₀) (hk : cs.kind = .function) (C : CallOk w f k news vs (newPost w.params news g c form size)) (hd : dp + k < recursionLimit) (hu : un + 8 * k < cLine)
    (ret : ∀ x z t1 t t7 h' tk', Fr h₀ L h' m → News h₀ L h' ((x, instObj 310 z.dx) :: (z.dx, typeDict w.params z (.int (c + 1) t1) form size (.int 0 t)) :: g (c + 1) t7) → (∀ p ∈ news, p.1 < z.dx) → @LT.lt Nat _ z.dx x → Q (.ref x) { s with heap := h', toks := tk' }) :
    wpAny (model PySem.Challenge.pw_nu0340_01 w) (ktrTop dp un gd cn cs L a ccd cl outer) (call (.ref f) vs) Q E s := CallOk.use B F X N T hk C hd hu fun r nw h' tk' F' N' P => by
      obtain ⟨x, z, t1, t, t7, e, e', p1, p3⟩ := P
      subst e; subst e'
      exact ret x z t1 t t7 h' tk' F' N' p1 p3
theorem useFn {w : World} {f : Addr} {k : Nat} {news : List (Addr × Obj)} {vs : List Value} {loose : List Str} {mean : ExcName → Option Value} {mg mb : Str → Option Value} {dp un : Nat} {gd : Option (List Code)} {cn : Str} {cs : Scope} {a : Addr} {ccd : Value} {cl : List (Str × Addr)} {outer : List Env} {A₀ : Around} {base h₀ : Heap} {L : Addr} {m : Str → Option Value} {s : Shared} {Q E : Value → Shared → Prop}
    (B : Below A₀ base outer h₀) (F : Fr h₀ L s.heap m) (X : (hd.heap_1 w.params).In h₀) (N : News h₀ L s.heap news) (T : Top VQ loose mean mg mb h₀) (hk : cs.kind = .function) (C : CallOk w f k news vs (fun r nw => ∃ d o, r = .ref d ∧ nw = (d, o) :: news ∧ (∀ p ∈ news, p.1 < d) ∧ FnAt w d o)) (hd : dp + k < recursionLimit) (hu : un + 8 * k < cLine)
    (ret : ∀ d o h' tk', Fr h₀ L h' m → News h₀ L h' ((d, o) :: news) → (∀ p ∈ news, p.1 < d) → FnAt w d o → Q (.ref d) { s with heap := h', toks := tk' }) :
    wpAny (model PySem.Challenge.pw_nu0340_01 w) (ktrTop dp un gd cn cs L a ccd cl outer) (call (.ref f) vs) Q E s := CallOk.use B F X N T hk C hd hu fun r nw h' tk' F' N' P => by
      obtain ⟨d, o, e, e', p1, p3⟩ := P
      subst e; subst e'
      exact ret d o h' tk' F' N' p1 p3
/-- what the making of a side leaves -/
noncomputable def SidePost (P : Params) (rest R : List (Addr × Obj)) (pl fg td : Addr) (y : Y9) (spot : Int) (typed : Bool) : Value → List (Addr × Obj) → Prop := fun r nw =>
  ∃ tp nd d nt more i2 m2 u3 u4 np2 c t0, r = .ref tp ∧ nw = more ++ (pl, poolObj fg i2 m2 u3 u4 np2) :: (td, tysDict P y (.int c t0)) :: rest ∧
    (∀ q ∈ more, (∀ p ∈ rest, @LT.lt Nat _ p.1 q.1) ∧ @LT.lt Nat _ pl q.1 ∧ @LT.lt Nat _ td q.1) ∧ SideTup P (more ++ R) tp nd spot d nt ∧ (typed = false → d.sh ≠ .typ) ∧ 0 ≤ i2 ∧ 0 ≤ m2 ∧ m2 < 1009
section
variable {prog : Program} {w : World} {A : Around} {E : Value → Shared → Prop} {s : Shared} {t u : Tok} {Q : Value → Shared → Prop}
theorem pow31 (h : ∀ x, Q (.int 2147483648 x) { s with toks := s.toks + 1 }) : wpAny (model prog w) A (binaryOp .Pow (.int 2 t) (.int 31 u)) Q E s :=
  pow_int_small (by decide) (by decide) (by decide) (by
    have e : (2 : Int) ^ (31 : Int).toNat = 2147483648 := by decide
    rw [e]
    exact h _)
theorem pow32 (h : ∀ x, Q (.int 4294967296 x) { s with toks := s.toks + 1 }) : wpAny (model prog w) A (binaryOp .Pow (.int 2 t) (.int 32 u)) Q E s :=
  pow_int_small (by decide) (by decide) (by decide) (by
    have e : (2 : Int) ^ (32 : Int).toNat = 4294967296 := by decide
    rw [e]
    exact h _)
end
noncomputable def kindWord (k : Int) : Str := if k = 2 then Str.ofString "set" else if k = 3 then Str.ofString "bool" else if k = 4 then Str.ofString "char" else if k = 6 then Str.ofString "ptr" else if k = 7 then Str.ofString "arr" else if k = 8 then Str.ofString "arr" else Str.ofString "int"
noncomputable def kindKvs (a1 a2 a3 a4 a5 a6 : Tok) : List (Int × Value) := [(2, .str (Str.ofString "set") a1), (3, .str (Str.ofString "bool") a2), (4, .str (Str.ofString "char") a3), (6, .str (Str.ofString "ptr") a4), (7, .str (Str.ofString "arr") a5), (8, .str (Str.ofString "arr") a6)]
theorem kind_get {k : Int} {a1 a2 a3 a4 a5 a6 t : Tok} : ∃ u, (PySem.valueAt (kindKvs a1 a2 a3 a4 a5 a6) k).getD (.str (Str.ofString "int") t) = .str (kindWord k) u := by
  by_cases h2 : k = 2
  · subst h2; exact ⟨_, rfl⟩
  by_cases h3 : k = 3
  · subst h3; exact ⟨_, rfl⟩
  by_cases h4 : k = 4
  · subst h4; exact ⟨_, rfl⟩
  by_cases h6 : k = 6
  · subst h6; exact ⟨_, rfl⟩
  by_cases h7 : k = 7
  · subst h7; exact ⟨_, rfl⟩
  by_cases h8 : k = 8
  · subst h8; exact ⟨_, rfl⟩
  refine ⟨t, ?_⟩
  unfold kindWord PySem.valueAt kindKvs
  rw [if_neg h2, if_neg h3, if_neg h4, if_neg h6, if_neg h7, if_neg h8]
  simp [List.find?, Ne.symm h2, Ne.symm h3, Ne.symm h4, Ne.symm h6, Ne.symm h7, Ne.symm h8]
section
variable {prog : Program} {w : World} {A : Around} {E : Value → Shared → Prop} {s : Shared} {h₀ : Heap} {L d : Addr} {news : List (Addr × Obj)} {o : Obj} {k : Int} {t t2 a1 a2 a3 a4 a5 a6 : Tok} {Q : Value → Shared → Prop}
theorem kind_get2 (N : News h₀ L s.heap news) (hp : (d, o) ∈ news) (hd : o.IsDictOf (PySem.intKind prog w) (kindKvs a1 a2 a3 a4 a5 a6)) (lo : (d == sysModules) = false) (h : ∀ u, Q (.str (kindWord k) u) { s with toks := s.toks + 1 }) :
    wpAny (model prog w) A (call (.builtin "dict.get") [.ref d, .int k t, .str (Str.ofString "int") t2]) Q E s := by
  obtain ⟨u, e⟩ := kind_get (k := k) (a1 := a1) (a2 := a2) (a3 := a3) (a4 := a4) (a5 := a5) (a6 := a6) (t := t2)
  exact kdg_get2 (k := k) N hp hd lo (intKind_is _ _ _ _) _ rfl (by rw [e]; exact h u)
end
theorem kind16 {x : Int} (h0 : 0 ≤ x) (h1 : x < 16) : (x < 10 ∧ decide (x < 10) = true ∧ (x == 12) = false) ∨ x = 10 ∨ x = 11 ∨ x = 12 ∨ x = 13 ∨ x = 14 ∨ x = 15 := by
  by_cases h : x < 10
  · exact .inl ⟨h, decide_eq_true h, beq_eq_false_iff_ne.mpr (by omega)⟩
  · omega
theorem kind16t {x : Int} (typed : Bool) (h0 : 0 ≤ x) (h1 : x < 16) : (x < 10 ∧ decide (x < 10) = true ∧ (x == 12) = false) ∨ x = 10 ∨ x = 11 ∨ (x = 12 ∧ typed = true) ∨ (x = 12 ∧ typed = false) ∨ x = 13 ∨ x = 14 ∨ x = 15 := by
  rcases kind16 h0 h1 with h | h | h | h | h | h | h
  · exact .inl h
  · exact .inr (.inl h)
  · exact .inr (.inr (.inl h))
  · cases typed
    · exact .inr (.inr (.inr (.inr (.inl ⟨h, rfl⟩))))
    · exact .inr (.inr (.inr (.inl ⟨h, rfl⟩)))
  · exact .inr (.inr (.inr (.inr (.inr (.inl h)))))
  · exact .inr (.inr (.inr (.inr (.inr (.inr (.inl h))))))
  · exact .inr (.inr (.inr (.inr (.inr (.inr (.inr h))))))
theorem typeAt_of {P : Params} {news : List (Addr × Obj)} {x dx : Addr} {z : TZ} {n : Int} {f : Str} {sz l : Int} {a b c d : Tok} (h1 : (x, instObj 310 dx) ∈ news) (h2 : (dx, typeDict P z (.int n a) (.str f b) (.int sz c) (.int l d)) ∈ news) (e : z.dx = dx) : TypeAt P news x f sz l n := by
  subst e
  exact ⟨{ z with t1 := a, t2 := b, t3 := c, t4 := d }, h1, h2⟩
theorem objAt_of {P : Params} {news : List (Addr × Obj)} {x dx : Addr} {z : OZ} {b ro : Bool} (h1 : (x, instObj 331 dx) ∈ news) (h2 : (dx, objDict P z b) ∈ news) (e : z.dx = dx) (eb : b = ro) : ObjAt P news x ro := by
  subst e; subst eb
  exact ⟨z, h1, h2⟩
theorem nodeAt_of {P : Params} {news : List (Addr × Obj)} {x dx : Addr} {z : NZ} {op : Str} {pl : Int} {ty kids v su : Value} {a b : Tok} (h1 : (x, instObj 60 dx) ∈ news) (h2 : (dx, nodeDict P z (.str op a) (.int pl b) ty kids v su) ∈ news) (e : z.dx = dx) : NodeAt P news x op pl ty kids v := by
  subst e
  exact ⟨z, a, b, su, h1, h2⟩
theorem low1 {a d : Addr} {o : Obj} {l : List (Addr × Obj)} (f : ∀ p ∈ l, p.1 < a) (h : (d, o) ∈ l) : @LT.lt Nat _ d a := f _ h
theorem lowR {a : Addr} {l r : List (Addr × Obj)} (f : ∀ p ∈ l, p.1 < a) (s : ∀ q ∈ r, q ∈ l) : ∀ p ∈ r, @LT.lt Nat _ p.1 a := fun p h => f p (s p h)
theorem lowR2 {a c : Addr} {l r : List (Addr × Obj)} (g : @LT.lt Nat _ c a) (f : ∀ p ∈ l, p.1 < c) (s : ∀ q ∈ r, q ∈ l) : ∀ p ∈ r, @LT.lt Nat _ p.1 a := fun p h => Nat.lt_trans (f p (s p h)) g
theorem ne_all {a : Addr} {l r : List (Addr × Obj)} (f : ∀ p ∈ l, p.1 < a) (s : ∀ q ∈ r, q ∈ l) : ∀ p ∈ r, p.1 ≠ a := fun p h => Nat.ne_of_lt (f p (s p h))
theorem low2 {a c d : Addr} {o : Obj} {l : List (Addr × Obj)} (g : @LT.lt Nat _ c a) (f : ∀ p ∈ l, p.1 < c) (h : (d, o) ∈ l) : @LT.lt Nat _ d a := Nat.lt_trans (f _ h) g
theorem ints_of {l : Array Value} {k : Nat} {v : Value} (S : List Int) (hv : l.toList[k]? = some v) (h : ∀ v ∈ l.toList, ∃ i t, v = Value.int i t ∧ i ∈ S) : ∃ i t, v = .int i t ∧ i ∈ S := h v (List.mem_of_getElem? hv)
theorem nat8 : ∀ {n : Nat}, n < 10 → n ≠ 1 → n ≠ 9 → n = 0 ∨ n = 2 ∨ n = 3 ∨ n = 4 ∨ n = 5 ∨ n = 6 ∨ n = 7 ∨ n = 8
  | 0, _, _, _ => .inl rfl
  | 1, _, h, _ => absurd rfl h
  | 2, _, _, _ => .inr (.inl rfl)
  | 3, _, _, _ => .inr (.inr (.inl rfl))
  | 4, _, _, _ => .inr (.inr (.inr (.inl rfl)))
  | 5, _, _, _ => .inr (.inr (.inr (.inr (.inl rfl))))
  | 6, _, _, _ => .inr (.inr (.inr (.inr (.inr (.inl rfl)))))
  | 7, _, _, _ => .inr (.inr (.inr (.inr (.inr (.inr (.inl rfl))))))
  | 8, _, _, _ => .inr (.inr (.inr (.inr (.inr (.inr (.inr rfl))))))
  | 9, _, _, h => absurd rfl h
  | n + 10, h, _, _ => absurd h (Nat.not_lt_of_le (Nat.le_add_left 10 n))
theorem kind8 {x : Int} (h0 : 0 ≤ x) (h1 : x < 10) (h2 : x ≠ 1) (h3 : x ≠ 9) : x = 0 ∨ x = 2 ∨ x = 3 ∨ x = 4 ∨ x = 5 ∨ x = 6 ∨ x = 7 ∨ x = 8 := by
  obtain ⟨n, rfl⟩ := Int.eq_ofNat_of_zero_le h0
  rcases nat8 (Int.ofNat_lt.mp h1) (fun e => h2 (by rw [e]; rfl)) (fun e => h3 (by rw [e]; rfl)) with h | h | h | h | h | h | h | h <;> subst h <;> simp
theorem bool_mem {x : Int} (h0 : 0 ≤ x) (h1 : x < 2) : x ∈ boolVals := by
  obtain ⟨n, rfl⟩ := Int.eq_ofNat_of_zero_le h0
  match n, Int.ofNat_lt.mp h1 with
  | 0, _ => exact .head _
  | 1, _ => exact .tail _ (.head _)
section
variable {P : Params} {tys td pt ar rt : Addr} {y : Y9} {v9 v10 : Value} {x : Int} {t3 t4 : Tok}
/-- what Types() leaves -/
noncomputable def TypesPost (P : Params) (news : List (Addr × Obj)) : Value → List (Addr × Obj) → Prop := fun r nw =>
  ∃ tys td y c t0 more, r = .ref tys ∧ nw = (td, tysDict P y (.int c t0)) :: more ++ news ∧ TysIs P more tys td y ∧ (∀ q ∈ more, @LT.lt Nat _ td q.1) ∧ ∀ q ∈ news, @LT.lt Nat _ q.1 td
/-- a variable's type, by its kind -/
theorem kinds9 (n1 n2 : Int) (h0 : 0 ≤ x) (h1 : x < 10) (h2 : x ≠ 1) (h3 : x ≠ 9)
    (hv : #[Value.ref y.ti, .ref y.ti, .ref y.tm, .ref y.tb, .ref y.tc, .ref y.ty, .ref pt, .ref ar, .ref ar, .ref y.ti].toList[x.toNat]? = some v9)
    (hw : #[Value.int 3 t3, .int (-1) t4].toList[(x.fmod 2).toNat]? = some v10) :
    ∃ ty f sz ln nu, v9 = .ref ty ∧ Rel ⟨.var false, f, sz, ln, nu⟩ ⟨kindWord x, none, Str.ofString "var"⟩ ∧
      ∀ nw, TysIs P nw tys td y → TypeAt P nw pt (Str.ofString "pointer") 4 0 n1 → (∀ l t, v10 = .int l t → TypeAt P nw ar (Str.ofString "array") 12 l n2) → TypeAt P nw ty f sz ln nu := by
  rcases kind8 h0 h1 h2 h3 with h | h | h | h | h | h | h | h <;> subst h <;> obtain rfl := Option.some.inj (show some _ = some v9 from hv)
  · exact ⟨_, _, _, _, _, rfl, Rel.intv 4 0 4, fun nw T _ _ => T.hi⟩
  · exact ⟨_, _, _, _, _, rfl, Rel.setv 4 0 5, fun nw T _ _ => T.hm⟩
  · exact ⟨_, _, _, _, _, rfl, Rel.boolv 1 0 1, fun nw T _ _ => T.hb⟩
  · exact ⟨_, _, _, _, _, rfl, Rel.charv 1 0 2, fun nw T _ _ => T.hc⟩
  · exact ⟨_, _, _, _, _, rfl, Rel.bytev 1 0 3, fun nw T _ _ => T.hy⟩
  · exact ⟨_, _, _, _, _, rfl, Rel.ptrv 4 0 n1, fun nw _ A _ => A⟩
  · obtain rfl := Option.some.inj (show some _ = some v10 from hw)
    exact ⟨_, _, _, _, _, rfl, Rel.arrv 12 n2, fun nw _ _ A => A _ _ rfl⟩
  · obtain rfl := Option.some.inj (show some _ = some v10 from hw)
    exact ⟨_, _, _, _, _, rfl, Rel.arrw 12 n2, fun nw _ _ A => A _ _ rfl⟩
/-- a type's name as an argument -/
theorem typs6 (n1 : Int) (hv : #[Value.ref y.ti, .ref y.tm, .ref y.tb, .ref y.tc, .ref y.ty, .ref rt].toList[x.toNat]? = some v9) :
    ∃ ty f sz nu, v9 = .ref ty ∧ Rel ⟨.typ, f, sz, 0, nu⟩ ⟨Str.ofString "type", none, Str.ofString "no"⟩ ∧ ∀ nw, TysIs P nw tys td y → TypeAt P nw rt (Str.ofString "record") 8 0 n1 → TypeAt P nw ty f sz 0 nu := by
  have h := List.mem_of_getElem? hv
  have T : ∀ f, f ∈ typForms → ∀ sz nu, Rel ⟨.typ, f, sz, 0, nu⟩ ⟨Str.ofString "type", none, Str.ofString "no"⟩ := fun f hf sz nu => Rel.typ f sz 0 nu hf
  rcases List.mem_cons.mp h with rfl | h
  · exact ⟨_, _, _, _, rfl, T _ (.head _) 4 4, fun nw T _ => T.hi⟩
  rcases List.mem_cons.mp h with rfl | h
  · exact ⟨_, _, _, _, rfl, T _ (.tail _ (.head _)) 4 5, fun nw T _ => T.hm⟩
  rcases List.mem_cons.mp h with rfl | h
  · exact ⟨_, _, _, _, rfl, T _ (.tail _ (.tail _ (.head _))) 1 1, fun nw T _ => T.hb⟩
  rcases List.mem_cons.mp h with rfl | h
  · exact ⟨_, _, _, _, rfl, T _ (.tail _ (.tail _ (.tail _ (.head _)))) 1 2, fun nw T _ => T.hc⟩
  rcases List.mem_cons.mp h with rfl | h
  · exact ⟨_, _, _, _, rfl, T _ (.tail _ (.tail _ (.tail _ (.tail _ (.head _))))) 1 3, fun nw T _ => T.hy⟩
  rcases List.mem_cons.mp h with rfl | h
  · exact ⟨_, _, _, _, rfl, T _ (.tail _ (.tail _ (.tail _ (.tail _ (.tail _ (.head _)))))) 8 n1, fun nw _ A => A⟩
  cases h
end
end Mine
namespace Mine
noncomputable def isVS (n : Str) : Bool := [Str.ofString "VAL", Str.ofString "SIZE"].any fun x => x == n
noncomputable def want (n : Str) : Str := if (n == Str.ofString "NEW") = true then Str.ofString "ptr" else if isIE n = true then Str.ofString "set" else Str.ofString "int"
noncomputable def wantC (n : Str) : Str := if (n == Str.ofString "NEW") = true then Str.ofString "not_a_pointer" else if isIE n = true then Str.ofString "bad_argument" else Str.ofString "not_an_integer"
noncomputable def isOrd (k : Str) : Bool := [Str.ofString "char", Str.ofString "bool", Str.ofString "set", Str.ofString "letter"].any fun x => x == k
noncomputable def isVal (k : Str) : Bool := [Str.ofString "int", Str.ofString "set", Str.ofString "bool", Str.ofString "char", Str.ofString "letter"].any fun x => x == k
noncomputable def lone (n : Str) (nt : Nt) : Int × Str :=
  if isF n = false then
    (if (nt.fl != Str.ofString "var") = true then (0, if (nt.fl == Str.ofString "read") = true then Str.ofString "read_only" else Str.ofString "not_a_variable")
     else if (nt.ks != want n) = true then (0, wantC n) else (0, Str.ofString ""))
  else if (nt.ks != Str.ofString "int") = true then (0, Str.ofString "not_an_integer") else (0, Str.ofString "")
noncomputable def lfirst1 (n : Str) (nt : Nt) : Int × Str :=
  if (n == Str.ofString "SIZE") = true then (if (nt.ks != Str.ofString "type") = true then (0, Str.ofString "not_a_type") else (1, Str.ofString ""))
  else if (n == Str.ofString "LEN") = true then (0, if (nt.ks == Str.ofString "arr") = true then Str.ofString "" else Str.ofString "not_an_array")
  else if (n == Str.ofString "ORD") = true then (0, if isOrd nt.ks = true then Str.ofString "" else Str.ofString "bad_argument")
  else if (n == Str.ofString "ASSERT") = true then (0, if (nt.ks == Str.ofString "bool") = true then Str.ofString "" else Str.ofString "not_boolean")
  else lone n nt
noncomputable def ltwo (n : Str) (nt : Nt) : Int × Str :=
  if (nt.ks != Str.ofString "int") = true then (1, Str.ofString "not_an_integer")
  else match nt.ov with
    | none => (0, Str.ofString "")
    | some i => if 0 ≤ i ∧ i < 32 then (0, Str.ofString "") else if isID n = true then (0, Str.ofString "") else (1, if isIE n = true then Str.ofString "bad_element" else Str.ofString "bad_shift")
noncomputable def lfirst2 (n f : Str) (nt1 nt2 : Nt) : Int × Str :=
  if (n == Str.ofString "VAL") = true then
    (if (nt1.ks != Str.ofString "type") = true then (0, Str.ofString "not_a_type")
     else (1, if (f != Str.ofString "record") = true ∧ isVal nt2.ks = true then Str.ofString "" else Str.ofString "bad_argument"))
  else if ((lone n nt1).2 == Str.ofString "") = false then lone n nt1 else ltwo n nt2
noncomputable def lsigned (x : Int) : Int := if 2147483648 ≤ Int.fmod x 4294967296 then Int.fmod x 4294967296 - 4294967296 else Int.fmod x 4294967296
noncomputable def lwork1 (n : Str) (x : Int) : Int := if (n == Str.ofString "ABS") = true then (if x < 0 then -x else x) else if (n == Str.ofString "ODD") = true then Int.fmod x 2 else if (n == Str.ofString "ORD") = true then lsigned x else x
noncomputable def lwork2 (n : Str) (x y : Int) : Int :=
  if (n == Str.ofString "LSL") = true then lsigned (x * 2 ^ y.toNat) else if (n == Str.ofString "ASR") = true then Int.fdiv x (2 ^ y.toNat)
  else lsigned (Int.fdiv (Int.fmod x 4294967296) (2 ^ y.toNat) + Int.fdiv (Int.fmod (Int.fmod x 4294967296) (2 ^ y.toNat) * 4294967296) (2 ^ y.toNat))
theorem sne1 : Str.ofString "read_only" ≠ Str.ofString "" := by decide
theorem sne2 : Str.ofString "not_a_variable" ≠ Str.ofString "" := by decide
theorem sne3 : Str.ofString "not_a_pointer" ≠ Str.ofString "" := by decide
theorem sne4 : Str.ofString "bad_argument" ≠ Str.ofString "" := by decide
theorem sne5 : Str.ofString "not_an_integer" ≠ Str.ofString "" := by decide
noncomputable def wantKvs (a b c : Addr) : List (Str × Value) := [(Str.ofString "NEW", .ref a), (Str.ofString "INCL", .ref b), (Str.ofString "EXCL", .ref c)]
section
variable {prog : Program} {w : World} {A : Around} {E : Value → Shared → Prop} {s : Shared} {h₀ : Heap} {L d : Addr} {news : List (Addr × Obj)} {o : Obj} {n : Str} {t : Tok} {Q : Value → Shared → Prop} {a b c e : Addr}
theorem want_get (N : News h₀ L s.heap news) (hp : (d, o) ∈ news) (hd : o.IsDictOf (PySem.strKind prog w) (wantKvs a b c)) (lo : (d == sysModules) = false)
    (h1 : (n == Str.ofString "NEW") = true → Q (.ref a) { s with toks := s.toks + 1 })
    (h2 : (n == Str.ofString "NEW") = false → ([Str.ofString "INCL", Str.ofString "EXCL"].any fun x => x == n) = true → Q (.ref b) { s with toks := s.toks + 1 })
    (h3 : (n == Str.ofString "NEW") = false → ([Str.ofString "INCL", Str.ofString "EXCL"].any fun x => x == n) = true → Q (.ref c) { s with toks := s.toks + 1 })
    (h4 : (n == Str.ofString "NEW") = false → ([Str.ofString "INCL", Str.ofString "EXCL"].any fun x => x == n) = false → Q (.ref e) { s with toks := s.toks + 1 }) :
    wpAny (model prog w) A (call (.builtin "dict.get") [.ref d, .str n t, .ref e]) Q E s := by
  refine kdg_get2 (k := n) N hp hd lo (by show Value.isStrOf n (.str n t) = true; simp [Value.isStrOf]) _ rfl ?_
  by_cases e1 : n = Str.ofString "NEW"
  · subst e1; exact h1 (by decide)
  by_cases e2 : n = Str.ofString "INCL"
  · subst e2; exact h2 (by decide) (by decide)
  by_cases e3 : n = Str.ofString "EXCL"
  · subst e3; exact h3 (by decide) (by decide)
  have f1 : (n == Str.ofString "NEW") = false := beq_eq_false_iff_ne.mpr e1
  have g1 : (Str.ofString "NEW" == n) = false := beq_eq_false_iff_ne.mpr (Ne.symm e1)
  have g2 : (Str.ofString "INCL" == n) = false := beq_eq_false_iff_ne.mpr (Ne.symm e2)
  have g3 : (Str.ofString "EXCL" == n) = false := beq_eq_false_iff_ne.mpr (Ne.symm e3)
  have hv : PySem.valueAt (wantKvs a b c) n = none := by
    have := valueAt_isSome (n := n) (wantKvs a b c)
    simp only [wantKvs, List.map_cons, List.map_nil, List.any_cons, List.any_nil, g1, g2, g3, Bool.or_false] at this
    cases hh : PySem.valueAt (wantKvs a b c) n with
    | none => rfl
    | some v => unfold wantKvs at hh; rw [hh] at this; cases this
  rw [hv]
  exact h4 f1 (by simp only [List.any_cons, List.any_nil, g2, g3, Bool.or_false])
end
theorem rel_ks {d : Sd} {nt : Nt} (h : Rel d nt) (hs : d.sh ≠ .typ) : (nt.ks != Str.ofString "type") = true := by
  cases h <;> first | exact absurd rfl hs | (show (Str.ofString _ != Str.ofString _) = true; decide)
noncomputable def ErrPost (w : World) (news : List (Addr × Obj)) : Value → List (Addr × Obj) → Prop := fun r nw =>
  ∃ er de r' p k1 k2 o, r = .ref er ∧ nw = errSeg w.params er de r' p k1 k2 o ++ news ∧ ErrPre w er de r' p k1 k2 o news
theorem vs_no {n : Str} (h1 : (n == Str.ofString "VAL") = false) (h2 : (n == Str.ofString "SIZE") = false) : ([Str.ofString "VAL", Str.ofString "SIZE"].any fun x => x == n) = false := by
  have g1 : (Str.ofString "VAL" == n) = false := beq_eq_false_iff_ne.mpr (Ne.symm (beq_eq_false_iff_ne.mp h1))
  have g2 : (Str.ofString "SIZE" == n) = false := beq_eq_false_iff_ne.mpr (Ne.symm (beq_eq_false_iff_ne.mp h2))
  simp only [List.any_cons, List.any_nil, g1, g2, Bool.or_false]
/-- a tuple of a side's, as the law's own defs read it -/
noncomputable def TupAt (P : Params) (news : List (Addr × Obj)) (tp : Addr) (nt : Nt) : Prop :=
  ∃ nd t1 t2 vv, (tp, tupObj #[.ref nd, .str nt.ks t1, vv, .str nt.fl t2]) ∈ news ∧ ovVal nt.ov vv
theorem SideTup.tup {P : Params} {news : List (Addr × Obj)} {tp nd : Addr} {spot : Int} {d : Sd} {nt : Nt} (h : SideTup P news tp nd spot d nt) : TupAt P news tp nt := by
  obtain ⟨t1, t2, vv, h1, h2, _⟩ := h
  exact ⟨nd, t1, t2, vv, h1, h2⟩
theorem pool_step {fs : List Int} (h : ∀ x ∈ fs, 0 ≤ x) (r : Int) : ∀ x ∈ fs ++ [Int.fmod r 840], 0 ≤ x := fun x hx => by
  rcases List.mem_append.mp hx with h1 | h1
  · exact h x h1
  · rw [List.mem_singleton.mp h1]; exact fmod_lo _ (by decide)
theorem fdiv_nn {r : Int} (h : 0 ≤ r) : 0 ≤ Int.fdiv r 840 := Int.fdiv_nonneg h (by decide)
theorem ints_push {vs : List Value} {ns : List Int} (h : IntsAre vs ns) (x : Int) (t : Tok) : IntsAre (vs ++ [.int x t]) (ns ++ [x]) := by
  induction h with
  | nil => exact .cons x t .nil
  | cons n u _ ih => exact .cons n u ih
section
variable {prog : Program} {w : World} {A : Around} {E : Value → Shared → Prop} {s : Shared} {h₀ : Heap} {L l : Addr} {news : List (Addr × Obj)} {vs : List Value} {ns : List Int} {n : Nat} {x : Int} {u : Tok} {Q : Value → Shared → Prop}
theorem lenP (N : News h₀ L s.heap news) (hm : (l, W.listOf (vs.toArray.push (.int x u)) n) ∈ news) (hI : IntsAre vs ns) (hl : ns.length ≤ 3000) (h : Q (.int ((ns.length + 1 : Nat) : Int) (s.toks + 1)) { s with toks := s.toks + 1 + 1 }) :
    wpAny (model prog w) A (call (.builtin "len") [.ref l]) Q E s := by
  have e : ns.length + 1 = (ns ++ [x]).length := by rw [List.length_append]; rfl
  rw [e] at h
  rw [List.push_toArray] at hm
  exact len_ints_fit ⟨_, (N _ hm).1, rfl, n, rfl⟩ (ints_push hI x u) (by rw [← e]; omega) h
end
/-- what the pool's making leaves -/
noncomputable def PoolPost (news : List (Addr × Obj)) : Value → List (Addr × Obj) → Prop := fun r nw =>
  ∃ pl fg mix u1 u2 np nf vs ns, r = .ref pl ∧ nw = (pl, poolObj fg 0 mix u1 u2 np) :: (fg, W.listOf (List.toArray vs) nf) :: news ∧ IntsAre vs ns ∧ (∀ x ∈ ns, 0 ≤ x) ∧ ns.length ≤ 3000 ∧ 0 ≤ mix ∧ mix < 1009 ∧ fg ≠ pl ∧ ∀ p ∈ news, p.1 ≠ fg ∧ p.1 ≠ pl
section
variable {h₀ h' : Heap} {L pl fg : Addr} {m : Str → Option Value} {nw news : List (Addr × Obj)} {s : Shared} {Q : Value → Shared → Prop} {tk' : Nat} {mix : Int} {u1 u2 u : Tok} {np nf : Nat} {vs : List Value} {ns : List Int} {x : Int}
theorem poolEnd (hret : ∀ r news' h' tk', Fr h₀ L h' m → News h₀ L h' news' → PoolPost news r news' → Q r { s with heap := h', toks := tk' }) (F : Fr h₀ L h' m) (N : News h₀ L h' nw) (h1 : (pl, poolObj fg 0 mix u1 u2 np) ∈ nw) (h2 : (fg, W.listOf vs.toArray nf) ∈ nw)
    (hs : ∀ q ∈ news, q ∈ nw) (hc : ∀ q ∈ news, ∀ its n, q.2 ≠ W.listOf its n) (hI : IntsAre vs ns) (h0 : ∀ x ∈ ns, 0 ≤ x) (hl : ns.length ≤ 3000) (m0 : 0 ≤ mix) (m1 : mix < 1009) : Q (.ref pl) { s with heap := h', toks := tk' } := by
  refine hret _ _ _ _ F (cb_drop N (List.forall_mem_cons.mpr ⟨h1, List.forall_mem_cons.mpr ⟨h2, hs⟩⟩)) ⟨pl, fg, mix, u1, u2, np, nf, vs, ns, rfl, rfl, hI, h0, hl, m0, m1, fun e => ?_, fun p hp => ⟨fun e => ?_, fun e => ?_⟩⟩
  · subst e
    have e2 := (N _ h1).1.symm.trans (N _ h2).1
    exact ints_no_pool hI (Prod.ext rfl (Option.some.inj e2).symm)
  · have e2 := (N _ (hs p hp)).1
    rw [e] at e2
    exact hc p hp _ _ (Option.some.inj (e2.symm.trans (N _ h2).1))
  · have e2 := (N _ (hs p hp)).1
    rw [e] at e2
    exact hc p hp _ _ (Option.some.inj (e2.symm.trans (N _ h1).1))
theorem poolEndP (hret : ∀ r news' h' tk', Fr h₀ L h' m → News h₀ L h' news' → PoolPost news r news' → Q r { s with heap := h', toks := tk' }) (F : Fr h₀ L h' m) (N : News h₀ L h' nw) (h1 : (pl, poolObj fg 0 mix u1 u2 np) ∈ nw) (h2 : (fg, W.listOf (vs.toArray.push (.int x u)) nf) ∈ nw)
    (hs : ∀ q ∈ news, q ∈ nw) (hc : ∀ q ∈ news, ∀ its n, q.2 ≠ W.listOf its n) (hI : IntsAre vs ns) (h0 : ∀ x ∈ ns, 0 ≤ x) (hx : 0 ≤ x) (hl : ns.length ≤ 2999) (m0 : 0 ≤ mix) (m1 : mix < 1009) : Q (.ref pl) { s with heap := h', toks := tk' } := by
  rw [List.push_toArray] at h2
  refine poolEnd hret F N h1 h2 hs hc (ints_push hI x u) (fun y hy => ?_) (by rw [List.length_append, List.length_singleton]; omega) m0 m1
  rcases List.mem_append.mp hy with h | h
  · exact h0 y h
  · rw [List.mem_singleton.mp h]; exact hx
end
end Mine
namespace Mine
section
variable {prog : Program} {w : World} {A : Around} {E : Value → Shared → Prop} {s : Shared} {h₀ : Heap} {L a b : Addr} {news : List (Addr × Obj)} {n m : Nat} {vs ws : Array Value} {Q : Value → Shared → Prop}
theorem isL (N : News h₀ L s.heap news) (h : (a, W.listOf vs n) ∈ news) : s.heap.IsList a vs := ⟨_, (N _ h).1, rfl, n, rfl⟩
theorem isT (N : News h₀ L s.heap news) (h : (a, tupObj vs) ∈ news) : s.heap.IsTuple a vs := ⟨_, (N _ h).1, rfl, 0, rfl⟩
theorem neLen (N : News h₀ L s.heap news) (h1 : (a, W.listOf vs n) ∈ news) (h2 : (b, W.listOf ws m) ∈ news) (hs : (vs.size != ws.size) = true) (hu : A.units + 64 < cLine) (h : Q (.bool true) s) :
    wpAny (model prog w) A (compareOp .NotEq (.ref a) (.ref b)) Q E s := RcNeAt.lists_lengths (isL N h1) (isL N h2) hs (by omega) prog w E Q h
theorem eqLen (N : News h₀ L s.heap news) (h1 : (a, W.listOf vs n) ∈ news) (h2 : (b, W.listOf ws m) ∈ news) (hs : (vs.size != ws.size) = true) (hu : A.units + 64 < cLine) (h : Q (.bool false) s) :
    wpAny (model prog w) A (compareOp .Eq (.ref a) (.ref b)) Q E s := RcAt.lists_lengths (isL N h1) (isL N h2) hs (by omega) prog w E Q h
theorem neNil (N : News h₀ L s.heap news) (h1 : (a, W.listOf #[] n) ∈ news) (h2 : (b, W.listOf #[] m) ∈ news) (hu : A.units + 64 < cLine) (h : Q (.bool false) s) :
    wpAny (model prog w) A (compareOp .NotEq (.ref a) (.ref b)) Q E s :=
  RcNeAt.lists (e := fun _ => true) (isL N h1) (isL N h2) rfl (by omega) (fun j h1 => absurd h1 (Nat.not_lt_zero j)) prog w E Q h
theorem eqNil (N : News h₀ L s.heap news) (h1 : (a, W.listOf #[] n) ∈ news) (h2 : (b, W.listOf #[] m) ∈ news) (hu : A.units + 64 < cLine) (h : Q (.bool true) s) :
    wpAny (model prog w) A (compareOp .Eq (.ref a) (.ref b)) Q E s :=
  RcAt.lists (e := fun _ => true) (isL N h1) (isL N h2) rfl (by omega) (fun j h1 => absurd h1 (Nat.not_lt_zero j)) prog w E Q h
variable {x x' y y' z z' : Str} {i j : Int} {t1 t2 t3 t4 t5 t6 : Tok}
theorem two_all {c d : Bool} : (List.range (min (2 : Nat) 2)).all (fun j => if j = 0 then c else d) = (c && d) := by cases c <;> cases d <;> rfl
theorem three_all {c d e : Bool} : (List.range (min (3 : Nat) 3)).all (fun j => if j = 0 then c else if j = 1 then d else e) = (c && (d && e)) := by cases c <;> cases d <;> cases e <;> rfl
theorem two_at {A : Around} {v0 v1 w0 w1 : Value} {c d : Bool} (h0 : EqAt A s v0 w0 c) (h1 : EqAt A s v1 w1 d) : ∀ j (g1 : j < #[v0, v1].size) (g2 : j < #[w0, w1].size), EqAt A s #[v0, v1][j] #[w0, w1][j] (if j = 0 then c else d)
  | 0, _, _ => h0
  | 1, _, _ => h1
  | n + 2, g, _ => absurd g (by simp)
theorem three_at {A : Around} {v0 v1 v2 w0 w1 w2 : Value} {c d e : Bool} (h0 : EqAt A s v0 w0 c) (h1 : EqAt A s v1 w1 d) (h2 : EqAt A s v2 w2 e) : ∀ j (g1 : j < #[v0, v1, v2].size) (g2 : j < #[w0, w1, w2].size), EqAt A s #[v0, v1, v2][j] #[w0, w1, w2][j] (if j = 0 then c else if j = 1 then d else e)
  | 0, _, _ => h0
  | 1, _, _ => h1
  | 2, _, _ => h2
  | n + 3, g, _ => absurd g (by simp)
theorem eqTwo {v0 v1 w0 w1 : Value} {c d : Bool} (N : News h₀ L s.heap news) (h1 : (a, tupObj #[v0, v1]) ∈ news) (h2 : (b, tupObj #[w0, w1]) ∈ news) (e0 : EqAt A.in1 s v0 w0 c) (e1 : EqAt A.in1 s v1 w1 d) (hu : A.units + 64 < cLine) (h : Q (.bool (c && d)) s) :
    wpAny (model prog w) A (compareOp .Eq (.ref a) (.ref b)) Q E s := by
  refine RcAt.tuples (isT N h1) (isT N h2) (by omega) (two_at e0 e1) prog w E Q ?_
  show Q (.bool ((List.range (min (2 : Nat) 2)).all _ && true)) s
  rw [Bool.and_true, two_all]
  exact h
theorem eqThree {v0 v1 v2 w0 w1 w2 : Value} {c d e : Bool} (N : News h₀ L s.heap news) (h1 : (a, tupObj #[v0, v1, v2]) ∈ news) (h2 : (b, tupObj #[w0, w1, w2]) ∈ news) (e0 : EqAt A.in1 s v0 w0 c) (e1 : EqAt A.in1 s v1 w1 d) (e2 : EqAt A.in1 s v2 w2 e) (hu : A.units + 64 < cLine) (h : Q (.bool (c && (d && e))) s) :
    wpAny (model prog w) A (compareOp .Eq (.ref a) (.ref b)) Q E s := by
  refine RcAt.tuples (isT N h1) (isT N h2) (by omega) (three_at e0 e1 e2) prog w E Q ?_
  show Q (.bool ((List.range (min (3 : Nat) 3)).all _ && true)) s
  rw [Bool.and_true, three_all]
  exact h
theorem neThree {v0 v1 v2 w0 w1 w2 : Value} {c d e : Bool} (N : News h₀ L s.heap news) (h1 : (a, tupObj #[v0, v1, v2]) ∈ news) (h2 : (b, tupObj #[w0, w1, w2]) ∈ news) (e0 : EqAt A.in1 s v0 w0 c) (e1 : EqAt A.in1 s v1 w1 d) (e2 : EqAt A.in1 s v2 w2 e) (hu : A.units + 64 < cLine) (h : Q (.bool (!(c && (d && e)))) s) :
    wpAny (model prog w) A (compareOp .NotEq (.ref a) (.ref b)) Q E s := by
  refine RcNeAt.tuples (isT N h1) (isT N h2) (by omega) (three_at e0 e1 e2) prog w E Q ?_
  show Q (.bool (!((List.range (min (3 : Nat) 3)).all _ && true))) s
  rw [Bool.and_true, three_all]
  exact h
theorem EqAt.none2 {A : Around} : EqAt A s .none .none true := EqAt.same _
theorem EqAt.strS {A : Around} {x : Str} {t u : Tok} : EqAt A s (.str x t) (.str x u) true := by
  have h : EqAt A s (.str x t) (.str x u) (x == x) := EqAt.str_str x t x u
  rwa [beq_self_eq_true] at h
theorem EqAt.intS {A : Around} {x : Int} {t u : Tok} : EqAt A s (.int x t) (.int x u) true := by
  have h : EqAt A s (.int x t) (.int x u) (x == x) := EqAt.int_int x t x u
  rwa [beq_self_eq_true] at h
/-- one mark on each side -/
theorem rowAt {A : Around} {p q : Addr} (N : News h₀ L s.heap news) (h1 : (p, tupObj #[.int i t1, .str x t2]) ∈ news) (h2 : (q, tupObj #[.int j t3, .str y t4]) ∈ news) (hu : A.units < cLine) (e : i = j ∧ x = y) : EqAt A s (.ref p) (.ref q) true := by
  obtain ⟨rfl, rfl⟩ := e
  by_cases hpq : p = q
  · subst hpq; exact EqAt.same _
  · refine EqAt.of_refs hpq ?_
    have r := RcAt.tuples (isT N h1) (isT N h2) hu (two_at (EqAt.int_int i t1 i t3) (EqAt.str_str x t2 x t4))
    have e1 : (((List.range (min (2 : Nat) 2)).all fun j => if j = 0 then i == i else x == x) && (2 : Nat) == 2) = true := by
      rw [two_all]; simp
    exact e1 ▸ r
theorem one_at {A : Around} {v0 w0 : Value} {c : Bool} (h0 : EqAt A s v0 w0 c) : ∀ j (g1 : j < #[v0].size) (g2 : j < #[w0].size), EqAt A s #[v0][j] #[w0][j] (if j = 0 then c else c)
  | 0, _, _ => h0
  | n + 1, g, _ => absurd g (by simp)
theorem eqRow {p q : Addr} (N : News h₀ L s.heap news) (h1 : (a, W.listOf #[.ref p] n) ∈ news) (h2 : (b, W.listOf #[.ref q] m) ∈ news) (h3 : (p, tupObj #[.int i t1, .str x t2]) ∈ news) (h4 : (q, tupObj #[.int j t3, .str y t4]) ∈ news) (hu : A.units + 64 < cLine) (e : i = j ∧ x = y) (h : Q (.bool true) s) :
    wpAny (model prog w) A (compareOp .Eq (.ref a) (.ref b)) Q E s :=
  RcAt.lists (isL N h1) (isL N h2) rfl (by omega) (one_at (rowAt N h3 h4 (by rw [units_in1]; omega) e)) prog w E Q h
theorem neRow {p q : Addr} (N : News h₀ L s.heap news) (h1 : (a, W.listOf #[.ref p] n) ∈ news) (h2 : (b, W.listOf #[.ref q] m) ∈ news) (h3 : (p, tupObj #[.int i t1, .str x t2]) ∈ news) (h4 : (q, tupObj #[.int j t3, .str y t4]) ∈ news) (hu : A.units + 64 < cLine) (e : i = j ∧ x = y) (h : Q (.bool false) s) :
    wpAny (model prog w) A (compareOp .NotEq (.ref a) (.ref b)) Q E s :=
  RcNeAt.lists (isL N h1) (isL N h2) rfl (by omega) (one_at (rowAt N h3 h4 (by rw [units_in1]; omega) e)) prog w E Q h
end
noncomputable def defOf {q : Program} {loose : List Str} {XP : (Str → Option Value) → Heap → Prop} {YP : World → Heap → Prop} {r : RowW} {d : DefRec} {kwd : List (Str × PySem.Expr)} {run : Value → List Value → Sem Value} {c : Prop} (_ : WalkO q loose XP YP r d kwd run → c) : DefRec := d
noncomputable def lawDef : DefRec := defOf hd
noncomputable def lawTail (n : Nat) : List Stmt := lawDef.body.drop n
noncomputable def lawScope : Scope := lawDef.scope
/-- what stays of the law's call -/
structure LawCx (w : World) (loose : List Str) (mean : ExcName → Option Value) (mg mb : Str → Option Value) (dp un : Nat) (outer : List Env) (A₀ : Around) (base h₀ : Heap) : Prop where
  B : Below A₀ base outer h₀
  X : (hd.heap_1 w.params).In h₀
  T : Top VQ loose mean mg mb h₀
  hd : dp + 60 < recursionLimit
  hu : un + 8 * 60 < cLine
/-- the law's code from its statement n on -/
noncomputable abbrev lawWp (w : World) (dp un : Nat) (gd : Option (List Code)) (L a : Addr) (ccd : Value) (cl : List (Str × Addr)) (outer : List Env) (n : Nat) (Q : Flow → Shared → Prop) (E : Value → Shared → Prop) (s : Shared) : Prop :=
  wpAny (model PySem.Challenge.pw_nu0340_01 w) (ktrTop dp un gd (Str.ofString "law") lawScope L a ccd cl outer) (execs (lawTail n) (envX (Str.ofString "law") lawScope L a ccd cl)) Q E s
noncomputable def LawRet (h₀ : Heap) (L : Addr) (Q : Flow → Shared → Prop) (s : Shared) : Prop :=
  ∀ h' tk' m' R', Fr h₀ L h' m' → News h₀ L h' R' → Q (.ret (.bool true)) { s with heap := h', toks := tk' }
noncomputable def names16 : List Str := [Str.ofString "ABS", Str.ofString "ODD", Str.ofString "LEN", Str.ofString "LSL", Str.ofString "ASR", Str.ofString "ROR", Str.ofString "ORD", Str.ofString "CHR", Str.ofString "VAL", Str.ofString "SIZE", Str.ofString "INC", Str.ofString "DEC", Str.ofString "INCL", Str.ofString "EXCL", Str.ofString "NEW", Str.ofString "ASSERT"]
noncomputable def leastN (n : Str) : Int := argc n (if isIE n = true then 2 else 1)
noncomputable def mostN (n : Str) : Int := if isID n = true then 2 else leastN n
theorem leastN_in : ∀ {n : Str}, n ∈ names16 → 0 ≤ leastN n ∧ leastN n ≤ 3 := by decide +kernel
theorem mostN_in : ∀ {n : Str}, n ∈ names16 → 0 ≤ mostN n ∧ mostN n ≤ 3 := by decide +kernel
theorem leastN_is : ∀ {n : Str}, n ∈ names16 → leastN n = least n ∧ mostN n = most n := by decide +kernel
/-- why a use is wrong, as the law asks it -/
theorem use_law {n : Str} {k : Int} {st : Bool} (hn : n ∈ names16) :
    ((isF n == st) = true → isF n = true → useCode n k st = Str.ofString "is_a_function") ∧ ((isF n == st) = true → isF n = false → useCode n k st = Str.ofString "not_a_function") ∧
    ((isF n == st) = false → (leastN n ≤ k → mostN n < k) → useCode n k st = Str.ofString "wrong_count") ∧ ((isF n == st) = false → leastN n ≤ k → k ≤ mostN n → useCode n k st = Str.ofString "") := by
  obtain ⟨e1, e2⟩ := leastN_is hn
  unfold useCode
  rw [e1, e2]
  generalize isF n = f
  refine ⟨?_, ?_, ?_, ?_⟩
  · intro h1 h2; subst h2; cases st <;> simp at h1 ⊢
  · intro h1 h2; subst h2; cases st <;> simp at h1 ⊢
  · intro h1 h2
    have h3 : k < least n ∨ most n < k := by
      by_cases h : least n ≤ k
      · exact .inr (h2 h)
      · exact .inl (by omega)
    cases st <;> cases f <;> simp at h1 <;> simp [h3]
  · intro h1 h2 h3
    have h4 : ¬ (k < least n ∨ most n < k) := by omega
    cases st <;> cases f <;> simp at h1 <;> simp [h4]
/-- a frame that says what another says, but for some names -/
noncomputable def Same (S : List Str) (l l' : List (Str × Value)) : Prop := ∀ y v, (S.any fun x => x == y) = false → look l y = some v → look l' y = some v
theorem Same.refl {S : List Str} {l : List (Str × Value)} : Same S l l := fun _ _ _ h => h
theorem Same.push {S : List Str} {l l' : List (Str × Value)} {x : Str} {v : Value} (hx : (S.any fun y => y == x) = true) (h : Same S l l') : Same S l ((x, v) :: l') := fun y u hy hl => by
  refine look_miss (beq_eq_false_iff_ne.mpr fun e => ?_) (h y u hy hl)
  subst e
  rw [hx] at hy
  cases hy
noncomputable def dueNames : List Str := [Str.ofString "due", Str.ofString "spot", Str.ofString "code"]
noncomputable def formN (n : Str) : Str := if (n == Str.ofString "ODD") = true then Str.ofString "boolean" else if (n == Str.ofString "CHR") = true then Str.ofString "char" else Str.ofString "integer"
noncomputable def lval (f : Str) (i : Int) : Int := if (f == Str.ofString "integer") = true then lsigned i else if (f == Str.ofString "set") = true then Int.fmod i 4294967296 else if (f == Str.ofString "boolean") = true then Int.fmod i 2 else Int.fmod i 256
noncomputable def formKvs (a b : Tok) : List (Str × Value) := [(Str.ofString "ODD", .str (Str.ofString "boolean") a), (Str.ofString "CHR", .str (Str.ofString "char") b)]
noncomputable def valKvs (x y z : Int) (a b c : Tok) : List (Str × Value) := [(Str.ofString "integer", .int x a), (Str.ofString "set", .int y b), (Str.ofString "boolean", .int z c)]
theorem form_at {n : Str} {a b t : Tok} : ∃ u, (PySem.valueAt (formKvs a b) n).getD (.str (Str.ofString "integer") t) = .str (formN n) u := by
  unfold formN
  by_cases h1 : n = Str.ofString "ODD"
  · subst h1; exact ⟨_, rfl⟩
  by_cases h2 : n = Str.ofString "CHR"
  · subst h2; exact ⟨_, rfl⟩
  refine ⟨t, ?_⟩
  rw [if_neg (by simpa using h1), if_neg (by simpa using h2)]
  unfold PySem.valueAt formKvs
  simp [List.find?, Ne.symm h1, Ne.symm h2]
theorem lval_at {f : Str} {x y z d : Int} {a b c t : Tok} : ∃ u, (PySem.valueAt (valKvs x y z a b c) f).getD (.int d t) = .int (if (f == Str.ofString "integer") = true then x else if (f == Str.ofString "set") = true then y else if (f == Str.ofString "boolean") = true then z else d) u := by
  by_cases h1 : f = Str.ofString "integer"
  · subst h1; exact ⟨_, rfl⟩
  by_cases h2 : f = Str.ofString "set"
  · subst h2; exact ⟨_, rfl⟩
  by_cases h3 : f = Str.ofString "boolean"
  · subst h3; exact ⟨_, rfl⟩
  refine ⟨t, ?_⟩
  rw [if_neg (by simpa using h1), if_neg (by simpa using h2), if_neg (by simpa using h3)]
  unfold PySem.valueAt valKvs
  simp [List.find?, Ne.symm h1, Ne.symm h2, Ne.symm h3]
section
variable {prog : Program} {w : World} {A : Around} {E : Value → Shared → Prop} {s : Shared} {h₀ : Heap} {L d : Addr} {news : List (Addr × Obj)} {o : Obj} {n : Str} {t t2 a b c : Tok} {x y z i : Int} {Q : Value → Shared → Prop}
theorem form_get (N : News h₀ L s.heap news) (hp : (d, o) ∈ news) (hd : o.IsDictOf (PySem.strKind prog w) (formKvs a b)) (lo : (d == sysModules) = false) (h : ∀ u, Q (.str (formN n) u) { s with toks := s.toks + 1 }) :
    wpAny (model prog w) A (call (.builtin "dict.get") [.ref d, .str n t, .str (Str.ofString "integer") t2]) Q E s := by
  obtain ⟨u, e⟩ := form_at (n := n) (a := a) (b := b) (t := t2)
  exact kdg_get2 (k := n) N hp hd lo (by show Value.isStrOf n (.str n t) = true; simp [Value.isStrOf]) _ rfl (by rw [e]; exact h u)
theorem lval_get (N : News h₀ L s.heap news) (hp : (d, o) ∈ news) (hd : o.IsDictOf (PySem.strKind prog w) (valKvs x y z a b c)) (lo : (d == sysModules) = false)
    (h : ∀ u, Q (.int (if (n == Str.ofString "integer") = true then x else if (n == Str.ofString "set") = true then y else if (n == Str.ofString "boolean") = true then z else i) u) { s with toks := s.toks + 1 }) :
    wpAny (model prog w) A (call (.builtin "dict.get") [.ref d, .str n t, .int i t2]) Q E s := by
  obtain ⟨u, e⟩ := lval_at (f := n) (x := x) (y := y) (z := z) (d := i) (a := a) (b := b) (c := c) (t := t2)
  exact kdg_get2 (k := n) N hp hd lo (by show Value.isStrOf n (.str n t) = true; simp [Value.isStrOf]) _ rfl (by rw [e]; exact h u)
theorem eqSameI (h : Q (.bool true) s) : wpAny (model prog w) A (compareOp .Eq (.int x t) (.int x t2)) Q E s := eq_int (by rw [beq_self_eq_true]; exact h)
theorem neSameI (h : Q (.bool false) s) : wpAny (model prog w) A (compareOp .NotEq (.int x t) (.int x t2)) Q E s := ne_int (by rw [bne_self_eq_false]; exact h)
theorem eqSameS (h : Q (.bool true) s) : wpAny (model prog w) A (compareOp .Eq (.str n t) (.str n t2)) Q E s := eq_str (by rw [beq_self_eq_true]; exact h)
theorem neSameS (h : Q (.bool false) s) : wpAny (model prog w) A (compareOp .NotEq (.str n t) (.str n t2)) Q E s := ne_str (by rw [bne_self_eq_false]; exact h)
end
/-- the mark that a folded value earns, as the law asks it -/
noncomputable def lcode (n : Str) (x : Int) : Str := if (n == Str.ofString "CHR") = true ∧ ¬ (0 ≤ x ∧ x < 256) then Str.ofString "bad_char" else if (n == Str.ofString "ABS") = true ∧ x = 2147483648 then Str.ofString "constant_overflow" else Str.ofString ""
theorem LawRet.b {h₀ h' : Heap} {L : Addr} {Q : Flow → Shared → Prop} {s : Shared} {tk : Nat} {b : Bool} {m' : Str → Option Value} {R' : List (Addr × Obj)} (ret : LawRet h₀ L Q s) (F : Fr h₀ L h' m') (N : News h₀ L h' R') (e : b = true) : Q (.ret (.bool b)) { s with heap := h', toks := tk } := by
  subst e
  exact ret _ _ _ _ F N
theorem lcode_cases (n : Str) (V : Int) : (n = Str.ofString "CHR" ∧ ¬ (0 ≤ V ∧ V < 256) ∧ lcode n V = Str.ofString "bad_char") ∨ (n = Str.ofString "ABS" ∧ V = 2147483648 ∧ lcode n V = Str.ofString "constant_overflow") ∨ (lcode n V = Str.ofString "" ∧ ((n == Str.ofString "CHR") = true → 0 ≤ V ∧ V < 256) ∧ ((n == Str.ofString "ABS") = true → V ≠ 2147483648)) := by
  unfold lcode
  by_cases h1 : n = Str.ofString "CHR"
  · subst h1
    by_cases h2 : 0 ≤ V ∧ V < 256
    · refine .inr (.inr ⟨?_, fun _ => h2, fun h => absurd h (by decide)⟩)
      rw [if_neg (fun h => h.2 h2), if_neg (fun h => absurd h.1 (by decide))]
    · exact .inl ⟨rfl, h2, if_pos ⟨by decide, h2⟩⟩
  have g1 : ¬ (n == Str.ofString "CHR") = true := by simpa using h1
  rw [if_neg (fun h => g1 h.1)]
  by_cases h2 : n = Str.ofString "ABS"
  · subst h2
    by_cases h3 : V = 2147483648
    · exact .inr (.inl ⟨rfl, h3, if_pos ⟨by decide, h3⟩⟩)
    · exact .inr (.inr ⟨if_neg (fun h => h3 h.2), fun h => absurd h (by decide), fun _ => h3⟩)
  have g2 : ¬ (n == Str.ofString "ABS") = true := by simpa using h2
  exact .inr (.inr ⟨if_neg (fun h => g2 h.1), fun h => absurd h g1, fun h => absurd h g2⟩)
theorem rowsOf_nil {c : Str} {pl : Int} (h : c = Str.ofString "") : rowsOf pl c = [] := by subst h; rfl
theorem ErrPre.push {w : World} {er de r p D : Addr} {k1 k2 : Tok} {o o2 : Obj} {rest : List (Addr × Obj)} (h : ErrPre w er de r p k1 k2 o rest) (h1 : @Ne Nat D r) (h2 : @Ne Nat D p) : ErrPre w er de r p k1 k2 o ((D, o2) :: rest) :=
  ⟨h.lo, h.hs, h.hi, h.fi, h.h1, List.forall_mem_cons.mpr ⟨h1, h.hr⟩, List.forall_mem_cons.mpr ⟨h2, h.hp⟩⟩
noncomputable def toldNames : List Str := [Str.ofString "told", Str.ofString "errors"]
/-- the law's cells -/
abbrev lawCells (c1 c2 c3 : Addr) : List (Str × Addr) := [(Str.ofString "typed", c3), (Str.ofString "types", c2), (Str.ofString "pool", c1)]
/-- what the law's ledger bears beside its pool and its types' own dict -/
structure LawSt (P : Params) (R : List (Addr × Obj)) (pl fg td tys : Addr) (y : Y9) (vs : List Value) (ns : List Int) (nf : Nat) : Prop where
  hT : TysIs P R tys td y
  hf : (fg, W.listOf vs.toArray nf) ∈ R
  hI : IntsAre vs ns
  hn : ∀ x ∈ ns, 0 ≤ x
  hl : ns.length ≤ 3000
  hp : ∀ q ∈ R, q.1 ≠ pl
  hq : ∀ q ∈ R, q.1 ≠ td
  hne : @Ne Nat pl td
/-- the law's cells, as the ledger bears them -/
structure CellsAt (R : List (Addr × Obj)) (c1 c2 c3 pl tys : Addr) (ty : Bool) : Prop where
  h1 : ∃ o, (c1, o) ∈ R ∧ o.data = .cell (some (.ref pl))
  h2 : ∃ o, (c2, o) ∈ R ∧ o.data = .cell (some (.ref tys))
  h3 : ∃ o, (c3, o) ∈ R ∧ o.data = .cell (some (.bool ty))
theorem CellsAt.mono {R R1 : List (Addr × Obj)} {c1 c2 c3 pl tys : Addr} {ty : Bool} (h : CellsAt R c1 c2 c3 pl tys ty) (s : ∀ q ∈ R, q ∈ R1) : CellsAt R1 c1 c2 c3 pl tys ty := by
  obtain ⟨⟨o1, a1, b1⟩, ⟨o2, a2, b2⟩, ⟨o3, a3, b3⟩⟩ := h
  exact ⟨⟨o1, s _ a1, b1⟩, ⟨o2, s _ a2, b2⟩, ⟨o3, s _ a3, b3⟩⟩
/-- a side's tuple, its type rule -/
noncomputable def SideOk (P : Params) (R : List (Addr × Obj)) (tp nd : Addr) (spot : Int) (ty : Bool) : Prop := ∃ d nt, SideTup P R tp nd spot d nt ∧ (ty = false → d.sh ≠ .typ)
theorem SideOk.mono {P : Params} {R R1 : List (Addr × Obj)} {tp nd : Addr} {spot : Int} {ty : Bool} (h : SideOk P R tp nd spot ty) (s : ∀ q ∈ R, q ∈ R1) : SideOk P R1 tp nd spot ty := by
  obtain ⟨d, nt, h1, h2⟩ := h
  exact ⟨d, nt, h1.mono s, h2⟩
/-- a type's name that the law sets in the place of its first side -/
theorem typs5 {P : Params} {R : List (Addr × Obj)} {tys td : Addr} {y : Y9} {k : Nat} {v : Value} (T : TysIs P R tys td y) (hv : #[Value.ref y.ti, .ref y.tm, .ref y.tb, .ref y.tc, .ref y.ty].toList[k]? = some v) :
    ∃ ty f sz nu, v = .ref ty ∧ f ∈ typForms ∧ TypeAt P R ty f sz 0 nu := by
  have h := List.mem_of_getElem? hv
  rcases List.mem_cons.mp h with rfl | h
  · exact ⟨_, _, _, _, rfl, .head _, T.hi⟩
  rcases List.mem_cons.mp h with rfl | h
  · exact ⟨_, _, _, _, rfl, .tail _ (.head _), T.hm⟩
  rcases List.mem_cons.mp h with rfl | h
  · exact ⟨_, _, _, _, rfl, .tail _ (.tail _ (.head _)), T.hb⟩
  rcases List.mem_cons.mp h with rfl | h
  · exact ⟨_, _, _, _, rfl, .tail _ (.tail _ (.tail _ (.head _))), T.hc⟩
  rcases List.mem_cons.mp h with rfl | h
  · exact ⟨_, _, _, _, rfl, .tail _ (.tail _ (.tail _ (.tail _ (.head _)))), T.hy⟩
  cases h
theorem sideOk_typ {P : Params} {R : List (Addr × Obj)} {tp nd ty : Addr} {spot : Int} {tyd : Bool} {f : Str} {sz nu : Int} {kd : Addr} {t1 t2 : Tok} (ht : tyd = true) (hm : (tp, tupObj #[.ref nd, .str (Str.ofString "type") t1, .none, .str (Str.ofString "no") t2]) ∈ R) (hn : NodeAt P R nd (Str.ofString "type") spot (.ref ty) (.ref kd) (.ref ty)) (hf : f ∈ typForms) (hT : TypeAt P R ty f sz 0 nu) : SideOk P R tp nd spot tyd :=
  ⟨⟨.typ, f, sz, 0, nu⟩, ⟨Str.ofString "type", none, Str.ofString "no"⟩, ⟨t1, t2, .none, hm, rfl, ⟨ty, kd, .ref ty, hn, hT, rfl⟩, Rel.typ f sz 0 nu hf⟩, fun h => by rw [ht] at h; cases h⟩
theorem off1_mem {D : Addr} : ∀ {l : List (Addr × Obj)}, LCg.Off1 D l → ∀ p ∈ l, p.1 ≠ D
  | [], _, _, h => nomatch h
  | _ :: _, x, p, h => by
    rcases List.mem_cons.mp h with rfl | h
    · exact x.1
    · exact off1_mem x.2 p h
theorem sideOk_of {P : Params} {R : List (Addr × Obj)} {tp nd : Addr} {sp spot : Int} {d : Sd} {nt : Nt} {b tyd : Bool} (st : SideTup P R tp nd sp d nt) (ty : b = false → d.sh ≠ .typ) (e : sp = spot) (h : tyd = false → b = false) : SideOk P R tp nd spot tyd :=
  ⟨d, nt, e ▸ st, fun g => ty (h g)⟩
end Mine
namespace Mine
theorem s1_law {d : Sd} {nt : Nt} {n : Str} (h : Rel d nt) (hs : d.sh ≠ .typ) (hn : n ∈ names16) (hc : (useCode n 1 true == (Str.ofString "")) = true) : scode1 n 20 d = (20 + 10 * (lfirst1 n nt).1, (lfirst1 n nt).2) := by
  cases h with
  | intv sz ln nu => exact (by decide +kernel : ∀ n ∈ names16, (useCode n 1 true == (Str.ofString "")) = true → scode1 n 20 ⟨.var false, (Str.ofString "integer"), 0, 0, 0⟩ = (20 + 10 * (lfirst1 n ⟨(Str.ofString "int"), none, (Str.ofString "var")⟩).1, (lfirst1 n ⟨(Str.ofString "int"), none, (Str.ofString "var")⟩).2)) n hn hc
  | neg sz ln nu => exact (by decide +kernel : ∀ n ∈ names16, (useCode n 1 true == (Str.ofString "")) = true → scode1 n 20 ⟨.neg, (Str.ofString "integer"), 0, 0, 0⟩ = (20 + 10 * (lfirst1 n ⟨(Str.ofString "int"), none, (Str.ofString "no")⟩).1, (lfirst1 n ⟨(Str.ofString "int"), none, (Str.ofString "no")⟩).2)) n hn hc
  | setv sz ln nu => exact (by decide +kernel : ∀ n ∈ names16, (useCode n 1 true == (Str.ofString "")) = true → scode1 n 20 ⟨.var false, (Str.ofString "set"), 0, 0, 0⟩ = (20 + 10 * (lfirst1 n ⟨(Str.ofString "set"), none, (Str.ofString "var")⟩).1, (lfirst1 n ⟨(Str.ofString "set"), none, (Str.ofString "var")⟩).2)) n hn hc
  | boolv sz ln nu => exact (by decide +kernel : ∀ n ∈ names16, (useCode n 1 true == (Str.ofString "")) = true → scode1 n 20 ⟨.var false, (Str.ofString "boolean"), 0, 0, 0⟩ = (20 + 10 * (lfirst1 n ⟨(Str.ofString "bool"), none, (Str.ofString "var")⟩).1, (lfirst1 n ⟨(Str.ofString "bool"), none, (Str.ofString "var")⟩).2)) n hn hc
  | charv sz ln nu => exact (by decide +kernel : ∀ n ∈ names16, (useCode n 1 true == (Str.ofString "")) = true → scode1 n 20 ⟨.var false, (Str.ofString "char"), 0, 0, 0⟩ = (20 + 10 * (lfirst1 n ⟨(Str.ofString "char"), none, (Str.ofString "var")⟩).1, (lfirst1 n ⟨(Str.ofString "char"), none, (Str.ofString "var")⟩).2)) n hn hc
  | bytev sz ln nu => exact (by decide +kernel : ∀ n ∈ names16, (useCode n 1 true == (Str.ofString "")) = true → scode1 n 20 ⟨.var false, (Str.ofString "byte"), 0, 0, 0⟩ = (20 + 10 * (lfirst1 n ⟨(Str.ofString "int"), none, (Str.ofString "var")⟩).1, (lfirst1 n ⟨(Str.ofString "int"), none, (Str.ofString "var")⟩).2)) n hn hc
  | ptrv sz ln nu => exact (by decide +kernel : ∀ n ∈ names16, (useCode n 1 true == (Str.ofString "")) = true → scode1 n 20 ⟨.var false, (Str.ofString "pointer"), 0, 0, 0⟩ = (20 + 10 * (lfirst1 n ⟨(Str.ofString "ptr"), none, (Str.ofString "var")⟩).1, (lfirst1 n ⟨(Str.ofString "ptr"), none, (Str.ofString "var")⟩).2)) n hn hc
  | arrv sz nu => exact (by decide +kernel : ∀ n ∈ names16, (useCode n 1 true == (Str.ofString "")) = true → scode1 n 20 ⟨.var false, (Str.ofString "array"), 0, (-1), 0⟩ = (20 + 10 * (lfirst1 n ⟨(Str.ofString "arr"), none, (Str.ofString "var")⟩).1, (lfirst1 n ⟨(Str.ofString "arr"), none, (Str.ofString "var")⟩).2)) n hn hc
  | arrw sz nu => exact (by decide +kernel : ∀ n ∈ names16, (useCode n 1 true == (Str.ofString "")) = true → scode1 n 20 ⟨.var false, (Str.ofString "array"), 0, 3, 0⟩ = (20 + 10 * (lfirst1 n ⟨(Str.ofString "arr"), none, (Str.ofString "var")⟩).1, (lfirst1 n ⟨(Str.ofString "arr"), none, (Str.ofString "var")⟩).2)) n hn hc
  | rov sz ln nu => exact (by decide +kernel : ∀ n ∈ names16, (useCode n 1 true == (Str.ofString "")) = true → scode1 n 20 ⟨.var true, (Str.ofString "integer"), 0, 0, 0⟩ = (20 + 10 * (lfirst1 n ⟨(Str.ofString "int"), none, (Str.ofString "read")⟩).1, (lfirst1 n ⟨(Str.ofString "int"), none, (Str.ofString "read")⟩).2)) n hn hc
  | letter sz ln nu => exact (by decide +kernel : ∀ n ∈ names16, (useCode n 1 true == (Str.ofString "")) = true → scode1 n 20 ⟨.letter, (Str.ofString "string"), 0, 0, 0⟩ = (20 + 10 * (lfirst1 n ⟨(Str.ofString "letter"), (some 97), (Str.ofString "no")⟩).1, (lfirst1 n ⟨(Str.ofString "letter"), (some 97), (Str.ofString "no")⟩).2)) n hn hc
  | text sz ln nu => exact (by decide +kernel : ∀ n ∈ names16, (useCode n 1 true == (Str.ofString "")) = true → scode1 n 20 ⟨.text, (Str.ofString "string"), 0, 0, 0⟩ = (20 + 10 * (lfirst1 n ⟨(Str.ofString "text"), none, (Str.ofString "no")⟩).1, (lfirst1 n ⟨(Str.ofString "text"), none, (Str.ofString "no")⟩).2)) n hn hc
  | cint i sz ln nu hi => exact (by decide +kernel : ∀ i ∈ intVals, ∀ n ∈ names16, (useCode n 1 true == (Str.ofString "")) = true → scode1 n 20 ⟨(.cint i), (Str.ofString "integer"), 0, 0, 0⟩ = (20 + 10 * (lfirst1 n ⟨(Str.ofString "int"), (some i), (Str.ofString "no")⟩).1, (lfirst1 n ⟨(Str.ofString "int"), (some i), (Str.ofString "no")⟩).2)) i hi n hn hc
  | cset i sz ln nu hi => exact (by decide +kernel : ∀ i ∈ setVals, ∀ n ∈ names16, (useCode n 1 true == (Str.ofString "")) = true → scode1 n 20 ⟨(.cint i), (Str.ofString "set"), 0, 0, 0⟩ = (20 + 10 * (lfirst1 n ⟨(Str.ofString "set"), (some i), (Str.ofString "no")⟩).1, (lfirst1 n ⟨(Str.ofString "set"), (some i), (Str.ofString "no")⟩).2)) i hi n hn hc
  | cbool i sz ln nu hi => exact (by decide +kernel : ∀ i ∈ boolVals, ∀ n ∈ names16, (useCode n 1 true == (Str.ofString "")) = true → scode1 n 20 ⟨(.cint i), (Str.ofString "boolean"), 0, 0, 0⟩ = (20 + 10 * (lfirst1 n ⟨(Str.ofString "bool"), (some i), (Str.ofString "no")⟩).1, (lfirst1 n ⟨(Str.ofString "bool"), (some i), (Str.ofString "no")⟩).2)) i hi n hn hc
  | typ i sz ln nu hi => exact absurd rfl hs
theorem f1_law {d : Sd} {nt : Nt} {n : Str} (h : Rel d nt) (hs : d.sh ≠ .typ) (hn : n ∈ names16) (hv : isVS n = false ∨ n = Str.ofString "SIZE") (hc : (useCode n 1 false == (Str.ofString "")) = true) : (fcode1 n 20 d).2 = (lfirst1 n nt).2 ∧ (((lfirst1 n nt).2 == (Str.ofString "")) = false → (fcode1 n 20 d).1 = 20 + 10 * (lfirst1 n nt).1) := by
  cases h with
  | intv sz ln nu => exact (by decide +kernel : ∀ n ∈ names16, (isVS n = false ∨ n = Str.ofString "SIZE") → (useCode n 1 false == (Str.ofString "")) = true → (fcode1 n 20 ⟨.var false, (Str.ofString "integer"), 0, 0, 0⟩).2 = (lfirst1 n ⟨(Str.ofString "int"), none, (Str.ofString "var")⟩).2 ∧ (((lfirst1 n ⟨(Str.ofString "int"), none, (Str.ofString "var")⟩).2 == (Str.ofString "")) = false → (fcode1 n 20 ⟨.var false, (Str.ofString "integer"), 0, 0, 0⟩).1 = 20 + 10 * (lfirst1 n ⟨(Str.ofString "int"), none, (Str.ofString "var")⟩).1)) n hn hv hc
  | neg sz ln nu => exact (by decide +kernel : ∀ n ∈ names16, (isVS n = false ∨ n = Str.ofString "SIZE") → (useCode n 1 false == (Str.ofString "")) = true → (fcode1 n 20 ⟨.neg, (Str.ofString "integer"), 0, 0, 0⟩).2 = (lfirst1 n ⟨(Str.ofString "int"), none, (Str.ofString "no")⟩).2 ∧ (((lfirst1 n ⟨(Str.ofString "int"), none, (Str.ofString "no")⟩).2 == (Str.ofString "")) = false → (fcode1 n 20 ⟨.neg, (Str.ofString "integer"), 0, 0, 0⟩).1 = 20 + 10 * (lfirst1 n ⟨(Str.ofString "int"), none, (Str.ofString "no")⟩).1)) n hn hv hc
  | setv sz ln nu => exact (by decide +kernel : ∀ n ∈ names16, (isVS n = false ∨ n = Str.ofString "SIZE") → (useCode n 1 false == (Str.ofString "")) = true → (fcode1 n 20 ⟨.var false, (Str.ofString "set"), 0, 0, 0⟩).2 = (lfirst1 n ⟨(Str.ofString "set"), none, (Str.ofString "var")⟩).2 ∧ (((lfirst1 n ⟨(Str.ofString "set"), none, (Str.ofString "var")⟩).2 == (Str.ofString "")) = false → (fcode1 n 20 ⟨.var false, (Str.ofString "set"), 0, 0, 0⟩).1 = 20 + 10 * (lfirst1 n ⟨(Str.ofString "set"), none, (Str.ofString "var")⟩).1)) n hn hv hc
  | boolv sz ln nu => exact (by decide +kernel : ∀ n ∈ names16, (isVS n = false ∨ n = Str.ofString "SIZE") → (useCode n 1 false == (Str.ofString "")) = true → (fcode1 n 20 ⟨.var false, (Str.ofString "boolean"), 0, 0, 0⟩).2 = (lfirst1 n ⟨(Str.ofString "bool"), none, (Str.ofString "var")⟩).2 ∧ (((lfirst1 n ⟨(Str.ofString "bool"), none, (Str.ofString "var")⟩).2 == (Str.ofString "")) = false → (fcode1 n 20 ⟨.var false, (Str.ofString "boolean"), 0, 0, 0⟩).1 = 20 + 10 * (lfirst1 n ⟨(Str.ofString "bool"), none, (Str.ofString "var")⟩).1)) n hn hv hc
  | charv sz ln nu => exact (by decide +kernel : ∀ n ∈ names16, (isVS n = false ∨ n = Str.ofString "SIZE") → (useCode n 1 false == (Str.ofString "")) = true → (fcode1 n 20 ⟨.var false, (Str.ofString "char"), 0, 0, 0⟩).2 = (lfirst1 n ⟨(Str.ofString "char"), none, (Str.ofString "var")⟩).2 ∧ (((lfirst1 n ⟨(Str.ofString "char"), none, (Str.ofString "var")⟩).2 == (Str.ofString "")) = false → (fcode1 n 20 ⟨.var false, (Str.ofString "char"), 0, 0, 0⟩).1 = 20 + 10 * (lfirst1 n ⟨(Str.ofString "char"), none, (Str.ofString "var")⟩).1)) n hn hv hc
  | bytev sz ln nu => exact (by decide +kernel : ∀ n ∈ names16, (isVS n = false ∨ n = Str.ofString "SIZE") → (useCode n 1 false == (Str.ofString "")) = true → (fcode1 n 20 ⟨.var false, (Str.ofString "byte"), 0, 0, 0⟩).2 = (lfirst1 n ⟨(Str.ofString "int"), none, (Str.ofString "var")⟩).2 ∧ (((lfirst1 n ⟨(Str.ofString "int"), none, (Str.ofString "var")⟩).2 == (Str.ofString "")) = false → (fcode1 n 20 ⟨.var false, (Str.ofString "byte"), 0, 0, 0⟩).1 = 20 + 10 * (lfirst1 n ⟨(Str.ofString "int"), none, (Str.ofString "var")⟩).1)) n hn hv hc
  | ptrv sz ln nu => exact (by decide +kernel : ∀ n ∈ names16, (isVS n = false ∨ n = Str.ofString "SIZE") → (useCode n 1 false == (Str.ofString "")) = true → (fcode1 n 20 ⟨.var false, (Str.ofString "pointer"), 0, 0, 0⟩).2 = (lfirst1 n ⟨(Str.ofString "ptr"), none, (Str.ofString "var")⟩).2 ∧ (((lfirst1 n ⟨(Str.ofString "ptr"), none, (Str.ofString "var")⟩).2 == (Str.ofString "")) = false → (fcode1 n 20 ⟨.var false, (Str.ofString "pointer"), 0, 0, 0⟩).1 = 20 + 10 * (lfirst1 n ⟨(Str.ofString "ptr"), none, (Str.ofString "var")⟩).1)) n hn hv hc
  | arrv sz nu => exact (by decide +kernel : ∀ n ∈ names16, (isVS n = false ∨ n = Str.ofString "SIZE") → (useCode n 1 false == (Str.ofString "")) = true → (fcode1 n 20 ⟨.var false, (Str.ofString "array"), 0, (-1), 0⟩).2 = (lfirst1 n ⟨(Str.ofString "arr"), none, (Str.ofString "var")⟩).2 ∧ (((lfirst1 n ⟨(Str.ofString "arr"), none, (Str.ofString "var")⟩).2 == (Str.ofString "")) = false → (fcode1 n 20 ⟨.var false, (Str.ofString "array"), 0, (-1), 0⟩).1 = 20 + 10 * (lfirst1 n ⟨(Str.ofString "arr"), none, (Str.ofString "var")⟩).1)) n hn hv hc
  | arrw sz nu => exact (by decide +kernel : ∀ n ∈ names16, (isVS n = false ∨ n = Str.ofString "SIZE") → (useCode n 1 false == (Str.ofString "")) = true → (fcode1 n 20 ⟨.var false, (Str.ofString "array"), 0, 3, 0⟩).2 = (lfirst1 n ⟨(Str.ofString "arr"), none, (Str.ofString "var")⟩).2 ∧ (((lfirst1 n ⟨(Str.ofString "arr"), none, (Str.ofString "var")⟩).2 == (Str.ofString "")) = false → (fcode1 n 20 ⟨.var false, (Str.ofString "array"), 0, 3, 0⟩).1 = 20 + 10 * (lfirst1 n ⟨(Str.ofString "arr"), none, (Str.ofString "var")⟩).1)) n hn hv hc
  | rov sz ln nu => exact (by decide +kernel : ∀ n ∈ names16, (isVS n = false ∨ n = Str.ofString "SIZE") → (useCode n 1 false == (Str.ofString "")) = true → (fcode1 n 20 ⟨.var true, (Str.ofString "integer"), 0, 0, 0⟩).2 = (lfirst1 n ⟨(Str.ofString "int"), none, (Str.ofString "read")⟩).2 ∧ (((lfirst1 n ⟨(Str.ofString "int"), none, (Str.ofString "read")⟩).2 == (Str.ofString "")) = false → (fcode1 n 20 ⟨.var true, (Str.ofString "integer"), 0, 0, 0⟩).1 = 20 + 10 * (lfirst1 n ⟨(Str.ofString "int"), none, (Str.ofString "read")⟩).1)) n hn hv hc
  | letter sz ln nu => exact (by decide +kernel : ∀ n ∈ names16, (isVS n = false ∨ n = Str.ofString "SIZE") → (useCode n 1 false == (Str.ofString "")) = true → (fcode1 n 20 ⟨.letter, (Str.ofString "string"), 0, 0, 0⟩).2 = (lfirst1 n ⟨(Str.ofString "letter"), (some 97), (Str.ofString "no")⟩).2 ∧ (((lfirst1 n ⟨(Str.ofString "letter"), (some 97), (Str.ofString "no")⟩).2 == (Str.ofString "")) = false → (fcode1 n 20 ⟨.letter, (Str.ofString "string"), 0, 0, 0⟩).1 = 20 + 10 * (lfirst1 n ⟨(Str.ofString "letter"), (some 97), (Str.ofString "no")⟩).1)) n hn hv hc
  | text sz ln nu => exact (by decide +kernel : ∀ n ∈ names16, (isVS n = false ∨ n = Str.ofString "SIZE") → (useCode n 1 false == (Str.ofString "")) = true → (fcode1 n 20 ⟨.text, (Str.ofString "string"), 0, 0, 0⟩).2 = (lfirst1 n ⟨(Str.ofString "text"), none, (Str.ofString "no")⟩).2 ∧ (((lfirst1 n ⟨(Str.ofString "text"), none, (Str.ofString "no")⟩).2 == (Str.ofString "")) = false → (fcode1 n 20 ⟨.text, (Str.ofString "string"), 0, 0, 0⟩).1 = 20 + 10 * (lfirst1 n ⟨(Str.ofString "text"), none, (Str.ofString "no")⟩).1)) n hn hv hc
  | cint i sz ln nu hi => exact (by decide +kernel : ∀ i ∈ intVals, ∀ n ∈ names16, (isVS n = false ∨ n = Str.ofString "SIZE") → (useCode n 1 false == (Str.ofString "")) = true → (fcode1 n 20 ⟨(.cint i), (Str.ofString "integer"), 0, 0, 0⟩).2 = (lfirst1 n ⟨(Str.ofString "int"), (some i), (Str.ofString "no")⟩).2 ∧ (((lfirst1 n ⟨(Str.ofString "int"), (some i), (Str.ofString "no")⟩).2 == (Str.ofString "")) = false → (fcode1 n 20 ⟨(.cint i), (Str.ofString "integer"), 0, 0, 0⟩).1 = 20 + 10 * (lfirst1 n ⟨(Str.ofString "int"), (some i), (Str.ofString "no")⟩).1)) i hi n hn hv hc
  | cset i sz ln nu hi => exact (by decide +kernel : ∀ i ∈ setVals, ∀ n ∈ names16, (isVS n = false ∨ n = Str.ofString "SIZE") → (useCode n 1 false == (Str.ofString "")) = true → (fcode1 n 20 ⟨(.cint i), (Str.ofString "set"), 0, 0, 0⟩).2 = (lfirst1 n ⟨(Str.ofString "set"), (some i), (Str.ofString "no")⟩).2 ∧ (((lfirst1 n ⟨(Str.ofString "set"), (some i), (Str.ofString "no")⟩).2 == (Str.ofString "")) = false → (fcode1 n 20 ⟨(.cint i), (Str.ofString "set"), 0, 0, 0⟩).1 = 20 + 10 * (lfirst1 n ⟨(Str.ofString "set"), (some i), (Str.ofString "no")⟩).1)) i hi n hn hv hc
  | cbool i sz ln nu hi => exact (by decide +kernel : ∀ i ∈ boolVals, ∀ n ∈ names16, (isVS n = false ∨ n = Str.ofString "SIZE") → (useCode n 1 false == (Str.ofString "")) = true → (fcode1 n 20 ⟨(.cint i), (Str.ofString "boolean"), 0, 0, 0⟩).2 = (lfirst1 n ⟨(Str.ofString "bool"), (some i), (Str.ofString "no")⟩).2 ∧ (((lfirst1 n ⟨(Str.ofString "bool"), (some i), (Str.ofString "no")⟩).2 == (Str.ofString "")) = false → (fcode1 n 20 ⟨(.cint i), (Str.ofString "boolean"), 0, 0, 0⟩).1 = 20 + 10 * (lfirst1 n ⟨(Str.ofString "bool"), (some i), (Str.ofString "no")⟩).1)) i hi n hn hv hc
  | typ i sz ln nu hi => exact absurd rfl hs
theorem size_law {d : Sd} {nt : Nt} {n : Str} (h : Rel d nt) (hn : n ∈ names16) : (fcode1 (Str.ofString "SIZE") 20 d).2 = (lfirst1 (Str.ofString "SIZE") nt).2 ∧ (((lfirst1 (Str.ofString "SIZE") nt).2 == (Str.ofString "")) = false → (fcode1 (Str.ofString "SIZE") 20 d).1 = 20 + 10 * (lfirst1 (Str.ofString "SIZE") nt).1) := by
  cases h with
  | intv sz ln nu => exact (by decide +kernel : ∀ n ∈ names16, (fcode1 (Str.ofString "SIZE") 20 ⟨.var false, (Str.ofString "integer"), 0, 0, 0⟩).2 = (lfirst1 (Str.ofString "SIZE") ⟨(Str.ofString "int"), none, (Str.ofString "var")⟩).2 ∧ (((lfirst1 (Str.ofString "SIZE") ⟨(Str.ofString "int"), none, (Str.ofString "var")⟩).2 == (Str.ofString "")) = false → (fcode1 (Str.ofString "SIZE") 20 ⟨.var false, (Str.ofString "integer"), 0, 0, 0⟩).1 = 20 + 10 * (lfirst1 (Str.ofString "SIZE") ⟨(Str.ofString "int"), none, (Str.ofString "var")⟩).1)) n hn 
  | neg sz ln nu => exact (by decide +kernel : ∀ n ∈ names16, (fcode1 (Str.ofString "SIZE") 20 ⟨.neg, (Str.ofString "integer"), 0, 0, 0⟩).2 = (lfirst1 (Str.ofString "SIZE") ⟨(Str.ofString "int"), none, (Str.ofString "no")⟩).2 ∧ (((lfirst1 (Str.ofString "SIZE") ⟨(Str.ofString "int"), none, (Str.ofString "no")⟩).2 == (Str.ofString "")) = false → (fcode1 (Str.ofString "SIZE") 20 ⟨.neg, (Str.ofString "integer"), 0, 0, 0⟩).1 = 20 + 10 * (lfirst1 (Str.ofString "SIZE") ⟨(Str.ofString "int"), none, (Str.ofString "no")⟩).1)) n hn 
  | setv sz ln nu => exact (by decide +kernel : ∀ n ∈ names16, (fcode1 (Str.ofString "SIZE") 20 ⟨.var false, (Str.ofString "set"), 0, 0, 0⟩).2 = (lfirst1 (Str.ofString "SIZE") ⟨(Str.ofString "set"), none, (Str.ofString "var")⟩).2 ∧ (((lfirst1 (Str.ofString "SIZE") ⟨(Str.ofString "set"), none, (Str.ofString "var")⟩).2 == (Str.ofString "")) = false → (fcode1 (Str.ofString "SIZE") 20 ⟨.var false, (Str.ofString "set"), 0, 0, 0⟩).1 = 20 + 10 * (lfirst1 (Str.ofString "SIZE") ⟨(Str.ofString "set"), none, (Str.ofString "var")⟩).1)) n hn 
  | boolv sz ln nu => exact (by decide +kernel : ∀ n ∈ names16, (fcode1 (Str.ofString "SIZE") 20 ⟨.var false, (Str.ofString "boolean"), 0, 0, 0⟩).2 = (lfirst1 (Str.ofString "SIZE") ⟨(Str.ofString "bool"), none, (Str.ofString "var")⟩).2 ∧ (((lfirst1 (Str.ofString "SIZE") ⟨(Str.ofString "bool"), none, (Str.ofString "var")⟩).2 == (Str.ofString "")) = false → (fcode1 (Str.ofString "SIZE") 20 ⟨.var false, (Str.ofString "boolean"), 0, 0, 0⟩).1 = 20 + 10 * (lfirst1 (Str.ofString "SIZE") ⟨(Str.ofString "bool"), none, (Str.ofString "var")⟩).1)) n hn 
  | charv sz ln nu => exact (by decide +kernel : ∀ n ∈ names16, (fcode1 (Str.ofString "SIZE") 20 ⟨.var false, (Str.ofString "char"), 0, 0, 0⟩).2 = (lfirst1 (Str.ofString "SIZE") ⟨(Str.ofString "char"), none, (Str.ofString "var")⟩).2 ∧ (((lfirst1 (Str.ofString "SIZE") ⟨(Str.ofString "char"), none, (Str.ofString "var")⟩).2 == (Str.ofString "")) = false → (fcode1 (Str.ofString "SIZE") 20 ⟨.var false, (Str.ofString "char"), 0, 0, 0⟩).1 = 20 + 10 * (lfirst1 (Str.ofString "SIZE") ⟨(Str.ofString "char"), none, (Str.ofString "var")⟩).1)) n hn 
  | bytev sz ln nu => exact (by decide +kernel : ∀ n ∈ names16, (fcode1 (Str.ofString "SIZE") 20 ⟨.var false, (Str.ofString "byte"), 0, 0, 0⟩).2 = (lfirst1 (Str.ofString "SIZE") ⟨(Str.ofString "int"), none, (Str.ofString "var")⟩).2 ∧ (((lfirst1 (Str.ofString "SIZE") ⟨(Str.ofString "int"), none, (Str.ofString "var")⟩).2 == (Str.ofString "")) = false → (fcode1 (Str.ofString "SIZE") 20 ⟨.var false, (Str.ofString "byte"), 0, 0, 0⟩).1 = 20 + 10 * (lfirst1 (Str.ofString "SIZE") ⟨(Str.ofString "int"), none, (Str.ofString "var")⟩).1)) n hn 
  | ptrv sz ln nu => exact (by decide +kernel : ∀ n ∈ names16, (fcode1 (Str.ofString "SIZE") 20 ⟨.var false, (Str.ofString "pointer"), 0, 0, 0⟩).2 = (lfirst1 (Str.ofString "SIZE") ⟨(Str.ofString "ptr"), none, (Str.ofString "var")⟩).2 ∧ (((lfirst1 (Str.ofString "SIZE") ⟨(Str.ofString "ptr"), none, (Str.ofString "var")⟩).2 == (Str.ofString "")) = false → (fcode1 (Str.ofString "SIZE") 20 ⟨.var false, (Str.ofString "pointer"), 0, 0, 0⟩).1 = 20 + 10 * (lfirst1 (Str.ofString "SIZE") ⟨(Str.ofString "ptr"), none, (Str.ofString "var")⟩).1)) n hn 
  | arrv sz nu => exact (by decide +kernel : ∀ n ∈ names16, (fcode1 (Str.ofString "SIZE") 20 ⟨.var false, (Str.ofString "array"), 0, (-1), 0⟩).2 = (lfirst1 (Str.ofString "SIZE") ⟨(Str.ofString "arr"), none, (Str.ofString "var")⟩).2 ∧ (((lfirst1 (Str.ofString "SIZE") ⟨(Str.ofString "arr"), none, (Str.ofString "var")⟩).2 == (Str.ofString "")) = false → (fcode1 (Str.ofString "SIZE") 20 ⟨.var false, (Str.ofString "array"), 0, (-1), 0⟩).1 = 20 + 10 * (lfirst1 (Str.ofString "SIZE") ⟨(Str.ofString "arr"), none, (Str.ofString "var")⟩).1)) n hn 
  | arrw sz nu => exact (by decide +kernel : ∀ n ∈ names16, (fcode1 (Str.ofString "SIZE") 20 ⟨.var false, (Str.ofString "array"), 0, 3, 0⟩).2 = (lfirst1 (Str.ofString "SIZE") ⟨(Str.ofString "arr"), none, (Str.ofString "var")⟩).2 ∧ (((lfirst1 (Str.ofString "SIZE") ⟨(Str.ofString "arr"), none, (Str.ofString "var")⟩).2 == (Str.ofString "")) = false → (fcode1 (Str.ofString "SIZE") 20 ⟨.var false, (Str.ofString "array"), 0, 3, 0⟩).1 = 20 + 10 * (lfirst1 (Str.ofString "SIZE") ⟨(Str.ofString "arr"), none, (Str.ofString "var")⟩).1)) n hn 
  | rov sz ln nu => exact (by decide +kernel : ∀ n ∈ names16, (fcode1 (Str.ofString "SIZE") 20 ⟨.var true, (Str.ofString "integer"), 0, 0, 0⟩).2 = (lfirst1 (Str.ofString "SIZE") ⟨(Str.ofString "int"), none, (Str.ofString "read")⟩).2 ∧ (((lfirst1 (Str.ofString "SIZE") ⟨(Str.ofString "int"), none, (Str.ofString "read")⟩).2 == (Str.ofString "")) = false → (fcode1 (Str.ofString "SIZE") 20 ⟨.var true, (Str.ofString "integer"), 0, 0, 0⟩).1 = 20 + 10 * (lfirst1 (Str.ofString "SIZE") ⟨(Str.ofString "int"), none, (Str.ofString "read")⟩).1)) n hn 
  | letter sz ln nu => exact (by decide +kernel : ∀ n ∈ names16, (fcode1 (Str.ofString "SIZE") 20 ⟨.letter, (Str.ofString "string"), 0, 0, 0⟩).2 = (lfirst1 (Str.ofString "SIZE") ⟨(Str.ofString "letter"), (some 97), (Str.ofString "no")⟩).2 ∧ (((lfirst1 (Str.ofString "SIZE") ⟨(Str.ofString "letter"), (some 97), (Str.ofString "no")⟩).2 == (Str.ofString "")) = false → (fcode1 (Str.ofString "SIZE") 20 ⟨.letter, (Str.ofString "string"), 0, 0, 0⟩).1 = 20 + 10 * (lfirst1 (Str.ofString "SIZE") ⟨(Str.ofString "letter"), (some 97), (Str.ofString "no")⟩).1)) n hn 
  | text sz ln nu => exact (by decide +kernel : ∀ n ∈ names16, (fcode1 (Str.ofString "SIZE") 20 ⟨.text, (Str.ofString "string"), 0, 0, 0⟩).2 = (lfirst1 (Str.ofString "SIZE") ⟨(Str.ofString "text"), none, (Str.ofString "no")⟩).2 ∧ (((lfirst1 (Str.ofString "SIZE") ⟨(Str.ofString "text"), none, (Str.ofString "no")⟩).2 == (Str.ofString "")) = false → (fcode1 (Str.ofString "SIZE") 20 ⟨.text, (Str.ofString "string"), 0, 0, 0⟩).1 = 20 + 10 * (lfirst1 (Str.ofString "SIZE") ⟨(Str.ofString "text"), none, (Str.ofString "no")⟩).1)) n hn 
  | cint i sz ln nu hi => exact (by decide +kernel : ∀ i ∈ intVals, ∀ n ∈ names16, (fcode1 (Str.ofString "SIZE") 20 ⟨(.cint i), (Str.ofString "integer"), 0, 0, 0⟩).2 = (lfirst1 (Str.ofString "SIZE") ⟨(Str.ofString "int"), (some i), (Str.ofString "no")⟩).2 ∧ (((lfirst1 (Str.ofString "SIZE") ⟨(Str.ofString "int"), (some i), (Str.ofString "no")⟩).2 == (Str.ofString "")) = false → (fcode1 (Str.ofString "SIZE") 20 ⟨(.cint i), (Str.ofString "integer"), 0, 0, 0⟩).1 = 20 + 10 * (lfirst1 (Str.ofString "SIZE") ⟨(Str.ofString "int"), (some i), (Str.ofString "no")⟩).1)) i hi n hn 
  | cset i sz ln nu hi => exact (by decide +kernel : ∀ i ∈ setVals, ∀ n ∈ names16, (fcode1 (Str.ofString "SIZE") 20 ⟨(.cint i), (Str.ofString "set"), 0, 0, 0⟩).2 = (lfirst1 (Str.ofString "SIZE") ⟨(Str.ofString "set"), (some i), (Str.ofString "no")⟩).2 ∧ (((lfirst1 (Str.ofString "SIZE") ⟨(Str.ofString "set"), (some i), (Str.ofString "no")⟩).2 == (Str.ofString "")) = false → (fcode1 (Str.ofString "SIZE") 20 ⟨(.cint i), (Str.ofString "set"), 0, 0, 0⟩).1 = 20 + 10 * (lfirst1 (Str.ofString "SIZE") ⟨(Str.ofString "set"), (some i), (Str.ofString "no")⟩).1)) i hi n hn 
  | cbool i sz ln nu hi => exact (by decide +kernel : ∀ i ∈ boolVals, ∀ n ∈ names16, (fcode1 (Str.ofString "SIZE") 20 ⟨(.cint i), (Str.ofString "boolean"), 0, 0, 0⟩).2 = (lfirst1 (Str.ofString "SIZE") ⟨(Str.ofString "bool"), (some i), (Str.ofString "no")⟩).2 ∧ (((lfirst1 (Str.ofString "SIZE") ⟨(Str.ofString "bool"), (some i), (Str.ofString "no")⟩).2 == (Str.ofString "")) = false → (fcode1 (Str.ofString "SIZE") 20 ⟨(.cint i), (Str.ofString "boolean"), 0, 0, 0⟩).1 = 20 + 10 * (lfirst1 (Str.ofString "SIZE") ⟨(Str.ofString "bool"), (some i), (Str.ofString "no")⟩).1)) i hi n hn 
  | typ i sz ln nu hi => exact (by decide +kernel : ∀ i ∈ typForms, ∀ n ∈ names16, (fcode1 (Str.ofString "SIZE") 20 ⟨.typ, i, 0, 0, 0⟩).2 = (lfirst1 (Str.ofString "SIZE") ⟨(Str.ofString "type"), none, (Str.ofString "no")⟩).2 ∧ (((lfirst1 (Str.ofString "SIZE") ⟨(Str.ofString "type"), none, (Str.ofString "no")⟩).2 == (Str.ofString "")) = false → (fcode1 (Str.ofString "SIZE") 20 ⟨.typ, i, 0, 0, 0⟩).1 = 20 + 10 * (lfirst1 (Str.ofString "SIZE") ⟨(Str.ofString "type"), none, (Str.ofString "no")⟩).1)) i hi n hn 
theorem lone_st {d : Sd} {nt : Nt} {n : Str} (h : Rel d nt) (hs : d.sh ≠ .typ) (hn : n ∈ names16) (hf : isF n = false) (ha : (n == (Str.ofString "ASSERT")) = false) : lone n nt = (0, if (varCode d.sh == (Str.ofString "")) = true then targetCode n d.form else varCode d.sh) := by
  cases h with
  | intv sz ln nu => exact (by decide +kernel : ∀ n ∈ names16, (isF n = false) → (n == (Str.ofString "ASSERT")) = false → lone n ⟨(Str.ofString "int"), none, (Str.ofString "var")⟩ = (0, if (varCode (.var false : Sh) == (Str.ofString "")) = true then targetCode n (Str.ofString "integer") else varCode (.var false : Sh))) n hn hf ha
  | neg sz ln nu => exact (by decide +kernel : ∀ n ∈ names16, (isF n = false) → (n == (Str.ofString "ASSERT")) = false → lone n ⟨(Str.ofString "int"), none, (Str.ofString "no")⟩ = (0, if (varCode (.neg : Sh) == (Str.ofString "")) = true then targetCode n (Str.ofString "integer") else varCode (.neg : Sh))) n hn hf ha
  | setv sz ln nu => exact (by decide +kernel : ∀ n ∈ names16, (isF n = false) → (n == (Str.ofString "ASSERT")) = false → lone n ⟨(Str.ofString "set"), none, (Str.ofString "var")⟩ = (0, if (varCode (.var false : Sh) == (Str.ofString "")) = true then targetCode n (Str.ofString "set") else varCode (.var false : Sh))) n hn hf ha
  | boolv sz ln nu => exact (by decide +kernel : ∀ n ∈ names16, (isF n = false) → (n == (Str.ofString "ASSERT")) = false → lone n ⟨(Str.ofString "bool"), none, (Str.ofString "var")⟩ = (0, if (varCode (.var false : Sh) == (Str.ofString "")) = true then targetCode n (Str.ofString "boolean") else varCode (.var false : Sh))) n hn hf ha
  | charv sz ln nu => exact (by decide +kernel : ∀ n ∈ names16, (isF n = false) → (n == (Str.ofString "ASSERT")) = false → lone n ⟨(Str.ofString "char"), none, (Str.ofString "var")⟩ = (0, if (varCode (.var false : Sh) == (Str.ofString "")) = true then targetCode n (Str.ofString "char") else varCode (.var false : Sh))) n hn hf ha
  | bytev sz ln nu => exact (by decide +kernel : ∀ n ∈ names16, (isF n = false) → (n == (Str.ofString "ASSERT")) = false → lone n ⟨(Str.ofString "int"), none, (Str.ofString "var")⟩ = (0, if (varCode (.var false : Sh) == (Str.ofString "")) = true then targetCode n (Str.ofString "byte") else varCode (.var false : Sh))) n hn hf ha
  | ptrv sz ln nu => exact (by decide +kernel : ∀ n ∈ names16, (isF n = false) → (n == (Str.ofString "ASSERT")) = false → lone n ⟨(Str.ofString "ptr"), none, (Str.ofString "var")⟩ = (0, if (varCode (.var false : Sh) == (Str.ofString "")) = true then targetCode n (Str.ofString "pointer") else varCode (.var false : Sh))) n hn hf ha
  | arrv sz nu => exact (by decide +kernel : ∀ n ∈ names16, (isF n = false) → (n == (Str.ofString "ASSERT")) = false → lone n ⟨(Str.ofString "arr"), none, (Str.ofString "var")⟩ = (0, if (varCode (.var false : Sh) == (Str.ofString "")) = true then targetCode n (Str.ofString "array") else varCode (.var false : Sh))) n hn hf ha
  | arrw sz nu => exact (by decide +kernel : ∀ n ∈ names16, (isF n = false) → (n == (Str.ofString "ASSERT")) = false → lone n ⟨(Str.ofString "arr"), none, (Str.ofString "var")⟩ = (0, if (varCode (.var false : Sh) == (Str.ofString "")) = true then targetCode n (Str.ofString "array") else varCode (.var false : Sh))) n hn hf ha
  | rov sz ln nu => exact (by decide +kernel : ∀ n ∈ names16, (isF n = false) → (n == (Str.ofString "ASSERT")) = false → lone n ⟨(Str.ofString "int"), none, (Str.ofString "read")⟩ = (0, if (varCode (.var true : Sh) == (Str.ofString "")) = true then targetCode n (Str.ofString "integer") else varCode (.var true : Sh))) n hn hf ha
  | letter sz ln nu => exact (by decide +kernel : ∀ n ∈ names16, (isF n = false) → (n == (Str.ofString "ASSERT")) = false → lone n ⟨(Str.ofString "letter"), (some 97), (Str.ofString "no")⟩ = (0, if (varCode (.letter : Sh) == (Str.ofString "")) = true then targetCode n (Str.ofString "string") else varCode (.letter : Sh))) n hn hf ha
  | text sz ln nu => exact (by decide +kernel : ∀ n ∈ names16, (isF n = false) → (n == (Str.ofString "ASSERT")) = false → lone n ⟨(Str.ofString "text"), none, (Str.ofString "no")⟩ = (0, if (varCode (.text : Sh) == (Str.ofString "")) = true then targetCode n (Str.ofString "string") else varCode (.text : Sh))) n hn hf ha
  | cint i sz ln nu hi => exact (by decide +kernel : ∀ i ∈ intVals, ∀ n ∈ names16, (isF n = false) → (n == (Str.ofString "ASSERT")) = false → lone n ⟨(Str.ofString "int"), (some i), (Str.ofString "no")⟩ = (0, if (varCode ((.cint i) : Sh) == (Str.ofString "")) = true then targetCode n (Str.ofString "integer") else varCode ((.cint i) : Sh))) i hi n hn hf ha
  | cset i sz ln nu hi => exact (by decide +kernel : ∀ i ∈ setVals, ∀ n ∈ names16, (isF n = false) → (n == (Str.ofString "ASSERT")) = false → lone n ⟨(Str.ofString "set"), (some i), (Str.ofString "no")⟩ = (0, if (varCode ((.cint i) : Sh) == (Str.ofString "")) = true then targetCode n (Str.ofString "set") else varCode ((.cint i) : Sh))) i hi n hn hf ha
  | cbool i sz ln nu hi => exact (by decide +kernel : ∀ i ∈ boolVals, ∀ n ∈ names16, (isF n = false) → (n == (Str.ofString "ASSERT")) = false → lone n ⟨(Str.ofString "bool"), (some i), (Str.ofString "no")⟩ = (0, if (varCode ((.cint i) : Sh) == (Str.ofString "")) = true then targetCode n (Str.ofString "boolean") else varCode ((.cint i) : Sh))) i hi n hn hf ha
  | typ i sz ln nu hi => exact absurd rfl hs
theorem lone_fn {d : Sd} {nt : Nt} {n : Str} (h : Rel d nt) (hs : d.sh ≠ .typ) (hn : n ∈ names16) (hf : isF n = true) : lone n nt = (0, intCode d.form) := by
  cases h with
  | intv sz ln nu => exact (by decide +kernel : ∀ n ∈ names16, (isF n = true) → lone n ⟨(Str.ofString "int"), none, (Str.ofString "var")⟩ = (0, intCode (Str.ofString "integer"))) n hn hf
  | neg sz ln nu => exact (by decide +kernel : ∀ n ∈ names16, (isF n = true) → lone n ⟨(Str.ofString "int"), none, (Str.ofString "no")⟩ = (0, intCode (Str.ofString "integer"))) n hn hf
  | setv sz ln nu => exact (by decide +kernel : ∀ n ∈ names16, (isF n = true) → lone n ⟨(Str.ofString "set"), none, (Str.ofString "var")⟩ = (0, intCode (Str.ofString "set"))) n hn hf
  | boolv sz ln nu => exact (by decide +kernel : ∀ n ∈ names16, (isF n = true) → lone n ⟨(Str.ofString "bool"), none, (Str.ofString "var")⟩ = (0, intCode (Str.ofString "boolean"))) n hn hf
  | charv sz ln nu => exact (by decide +kernel : ∀ n ∈ names16, (isF n = true) → lone n ⟨(Str.ofString "char"), none, (Str.ofString "var")⟩ = (0, intCode (Str.ofString "char"))) n hn hf
  | bytev sz ln nu => exact (by decide +kernel : ∀ n ∈ names16, (isF n = true) → lone n ⟨(Str.ofString "int"), none, (Str.ofString "var")⟩ = (0, intCode (Str.ofString "byte"))) n hn hf
  | ptrv sz ln nu => exact (by decide +kernel : ∀ n ∈ names16, (isF n = true) → lone n ⟨(Str.ofString "ptr"), none, (Str.ofString "var")⟩ = (0, intCode (Str.ofString "pointer"))) n hn hf
  | arrv sz nu => exact (by decide +kernel : ∀ n ∈ names16, (isF n = true) → lone n ⟨(Str.ofString "arr"), none, (Str.ofString "var")⟩ = (0, intCode (Str.ofString "array"))) n hn hf
  | arrw sz nu => exact (by decide +kernel : ∀ n ∈ names16, (isF n = true) → lone n ⟨(Str.ofString "arr"), none, (Str.ofString "var")⟩ = (0, intCode (Str.ofString "array"))) n hn hf
  | rov sz ln nu => exact (by decide +kernel : ∀ n ∈ names16, (isF n = true) → lone n ⟨(Str.ofString "int"), none, (Str.ofString "read")⟩ = (0, intCode (Str.ofString "integer"))) n hn hf
  | letter sz ln nu => exact (by decide +kernel : ∀ n ∈ names16, (isF n = true) → lone n ⟨(Str.ofString "letter"), (some 97), (Str.ofString "no")⟩ = (0, intCode (Str.ofString "string"))) n hn hf
  | text sz ln nu => exact (by decide +kernel : ∀ n ∈ names16, (isF n = true) → lone n ⟨(Str.ofString "text"), none, (Str.ofString "no")⟩ = (0, intCode (Str.ofString "string"))) n hn hf
  | cint i sz ln nu hi => exact (by decide +kernel : ∀ i ∈ intVals, ∀ n ∈ names16, (isF n = true) → lone n ⟨(Str.ofString "int"), (some i), (Str.ofString "no")⟩ = (0, intCode (Str.ofString "integer"))) i hi n hn hf
  | cset i sz ln nu hi => exact (by decide +kernel : ∀ i ∈ setVals, ∀ n ∈ names16, (isF n = true) → lone n ⟨(Str.ofString "set"), (some i), (Str.ofString "no")⟩ = (0, intCode (Str.ofString "set"))) i hi n hn hf
  | cbool i sz ln nu hi => exact (by decide +kernel : ∀ i ∈ boolVals, ∀ n ∈ names16, (isF n = true) → lone n ⟨(Str.ofString "bool"), (some i), (Str.ofString "no")⟩ = (0, intCode (Str.ofString "boolean"))) i hi n hn hf
  | typ i sz ln nu hi => exact absurd rfl hs
theorem two_law {d : Sd} {nt : Nt} {n : Str} (h : Rel d nt) (hs : d.sh ≠ .typ) (hn : n ∈ names16) : ltwo n nt = (if (intCode d.form == (Str.ofString "")) = false then (1, intCode d.form) else if (rangeCode d.sh (if isIE n = true then (Str.ofString "bad_element") else (Str.ofString "bad_shift")) == (Str.ofString "")) = false ∧ isID n = false then (1, if isIE n = true then (Str.ofString "bad_element") else (Str.ofString "bad_shift")) else (0, (Str.ofString ""))) := by
  cases h with
  | intv sz ln nu => exact (by decide +kernel : ∀ n ∈ names16, ltwo n ⟨(Str.ofString "int"), none, (Str.ofString "var")⟩ = (if (intCode (Str.ofString "integer") == (Str.ofString "")) = false then (1, intCode (Str.ofString "integer")) else if (rangeCode (.var false : Sh) (if isIE n = true then (Str.ofString "bad_element") else (Str.ofString "bad_shift")) == (Str.ofString "")) = false ∧ isID n = false then (1, if isIE n = true then (Str.ofString "bad_element") else (Str.ofString "bad_shift")) else (0, (Str.ofString "")))) n hn 
  | neg sz ln nu => exact (by decide +kernel : ∀ n ∈ names16, ltwo n ⟨(Str.ofString "int"), none, (Str.ofString "no")⟩ = (if (intCode (Str.ofString "integer") == (Str.ofString "")) = false then (1, intCode (Str.ofString "integer")) else if (rangeCode (.neg : Sh) (if isIE n = true then (Str.ofString "bad_element") else (Str.ofString "bad_shift")) == (Str.ofString "")) = false ∧ isID n = false then (1, if isIE n = true then (Str.ofString "bad_element") else (Str.ofString "bad_shift")) else (0, (Str.ofString "")))) n hn 
  | setv sz ln nu => exact (by decide +kernel : ∀ n ∈ names16, ltwo n ⟨(Str.ofString "set"), none, (Str.ofString "var")⟩ = (if (intCode (Str.ofString "set") == (Str.ofString "")) = false then (1, intCode (Str.ofString "set")) else if (rangeCode (.var false : Sh) (if isIE n = true then (Str.ofString "bad_element") else (Str.ofString "bad_shift")) == (Str.ofString "")) = false ∧ isID n = false then (1, if isIE n = true then (Str.ofString "bad_element") else (Str.ofString "bad_shift")) else (0, (Str.ofString "")))) n hn 
  | boolv sz ln nu => exact (by decide +kernel : ∀ n ∈ names16, ltwo n ⟨(Str.ofString "bool"), none, (Str.ofString "var")⟩ = (if (intCode (Str.ofString "boolean") == (Str.ofString "")) = false then (1, intCode (Str.ofString "boolean")) else if (rangeCode (.var false : Sh) (if isIE n = true then (Str.ofString "bad_element") else (Str.ofString "bad_shift")) == (Str.ofString "")) = false ∧ isID n = false then (1, if isIE n = true then (Str.ofString "bad_element") else (Str.ofString "bad_shift")) else (0, (Str.ofString "")))) n hn 
  | charv sz ln nu => exact (by decide +kernel : ∀ n ∈ names16, ltwo n ⟨(Str.ofString "char"), none, (Str.ofString "var")⟩ = (if (intCode (Str.ofString "char") == (Str.ofString "")) = false then (1, intCode (Str.ofString "char")) else if (rangeCode (.var false : Sh) (if isIE n = true then (Str.ofString "bad_element") else (Str.ofString "bad_shift")) == (Str.ofString "")) = false ∧ isID n = false then (1, if isIE n = true then (Str.ofString "bad_element") else (Str.ofString "bad_shift")) else (0, (Str.ofString "")))) n hn 
  | bytev sz ln nu => exact (by decide +kernel : ∀ n ∈ names16, ltwo n ⟨(Str.ofString "int"), none, (Str.ofString "var")⟩ = (if (intCode (Str.ofString "byte") == (Str.ofString "")) = false then (1, intCode (Str.ofString "byte")) else if (rangeCode (.var false : Sh) (if isIE n = true then (Str.ofString "bad_element") else (Str.ofString "bad_shift")) == (Str.ofString "")) = false ∧ isID n = false then (1, if isIE n = true then (Str.ofString "bad_element") else (Str.ofString "bad_shift")) else (0, (Str.ofString "")))) n hn 
  | ptrv sz ln nu => exact (by decide +kernel : ∀ n ∈ names16, ltwo n ⟨(Str.ofString "ptr"), none, (Str.ofString "var")⟩ = (if (intCode (Str.ofString "pointer") == (Str.ofString "")) = false then (1, intCode (Str.ofString "pointer")) else if (rangeCode (.var false : Sh) (if isIE n = true then (Str.ofString "bad_element") else (Str.ofString "bad_shift")) == (Str.ofString "")) = false ∧ isID n = false then (1, if isIE n = true then (Str.ofString "bad_element") else (Str.ofString "bad_shift")) else (0, (Str.ofString "")))) n hn 
  | arrv sz nu => exact (by decide +kernel : ∀ n ∈ names16, ltwo n ⟨(Str.ofString "arr"), none, (Str.ofString "var")⟩ = (if (intCode (Str.ofString "array") == (Str.ofString "")) = false then (1, intCode (Str.ofString "array")) else if (rangeCode (.var false : Sh) (if isIE n = true then (Str.ofString "bad_element") else (Str.ofString "bad_shift")) == (Str.ofString "")) = false ∧ isID n = false then (1, if isIE n = true then (Str.ofString "bad_element") else (Str.ofString "bad_shift")) else (0, (Str.ofString "")))) n hn 
  | arrw sz nu => exact (by decide +kernel : ∀ n ∈ names16, ltwo n ⟨(Str.ofString "arr"), none, (Str.ofString "var")⟩ = (if (intCode (Str.ofString "array") == (Str.ofString "")) = false then (1, intCode (Str.ofString "array")) else if (rangeCode (.var false : Sh) (if isIE n = true then (Str.ofString "bad_element") else (Str.ofString "bad_shift")) == (Str.ofString "")) = false ∧ isID n = false then (1, if isIE n = true then (Str.ofString "bad_element") else (Str.ofString "bad_shift")) else (0, (Str.ofString "")))) n hn 
  | rov sz ln nu => exact (by decide +kernel : ∀ n ∈ names16, ltwo n ⟨(Str.ofString "int"), none, (Str.ofString "read")⟩ = (if (intCode (Str.ofString "integer") == (Str.ofString "")) = false then (1, intCode (Str.ofString "integer")) else if (rangeCode (.var true : Sh) (if isIE n = true then (Str.ofString "bad_element") else (Str.ofString "bad_shift")) == (Str.ofString "")) = false ∧ isID n = false then (1, if isIE n = true then (Str.ofString "bad_element") else (Str.ofString "bad_shift")) else (0, (Str.ofString "")))) n hn 
  | letter sz ln nu => exact (by decide +kernel : ∀ n ∈ names16, ltwo n ⟨(Str.ofString "letter"), (some 97), (Str.ofString "no")⟩ = (if (intCode (Str.ofString "string") == (Str.ofString "")) = false then (1, intCode (Str.ofString "string")) else if (rangeCode (.letter : Sh) (if isIE n = true then (Str.ofString "bad_element") else (Str.ofString "bad_shift")) == (Str.ofString "")) = false ∧ isID n = false then (1, if isIE n = true then (Str.ofString "bad_element") else (Str.ofString "bad_shift")) else (0, (Str.ofString "")))) n hn 
  | text sz ln nu => exact (by decide +kernel : ∀ n ∈ names16, ltwo n ⟨(Str.ofString "text"), none, (Str.ofString "no")⟩ = (if (intCode (Str.ofString "string") == (Str.ofString "")) = false then (1, intCode (Str.ofString "string")) else if (rangeCode (.text : Sh) (if isIE n = true then (Str.ofString "bad_element") else (Str.ofString "bad_shift")) == (Str.ofString "")) = false ∧ isID n = false then (1, if isIE n = true then (Str.ofString "bad_element") else (Str.ofString "bad_shift")) else (0, (Str.ofString "")))) n hn 
  | cint i sz ln nu hi => exact (by decide +kernel : ∀ i ∈ intVals, ∀ n ∈ names16, ltwo n ⟨(Str.ofString "int"), (some i), (Str.ofString "no")⟩ = (if (intCode (Str.ofString "integer") == (Str.ofString "")) = false then (1, intCode (Str.ofString "integer")) else if (rangeCode ((.cint i) : Sh) (if isIE n = true then (Str.ofString "bad_element") else (Str.ofString "bad_shift")) == (Str.ofString "")) = false ∧ isID n = false then (1, if isIE n = true then (Str.ofString "bad_element") else (Str.ofString "bad_shift")) else (0, (Str.ofString "")))) i hi n hn 
  | cset i sz ln nu hi => exact (by decide +kernel : ∀ i ∈ setVals, ∀ n ∈ names16, ltwo n ⟨(Str.ofString "set"), (some i), (Str.ofString "no")⟩ = (if (intCode (Str.ofString "set") == (Str.ofString "")) = false then (1, intCode (Str.ofString "set")) else if (rangeCode ((.cint i) : Sh) (if isIE n = true then (Str.ofString "bad_element") else (Str.ofString "bad_shift")) == (Str.ofString "")) = false ∧ isID n = false then (1, if isIE n = true then (Str.ofString "bad_element") else (Str.ofString "bad_shift")) else (0, (Str.ofString "")))) i hi n hn 
  | cbool i sz ln nu hi => exact (by decide +kernel : ∀ i ∈ boolVals, ∀ n ∈ names16, ltwo n ⟨(Str.ofString "bool"), (some i), (Str.ofString "no")⟩ = (if (intCode (Str.ofString "boolean") == (Str.ofString "")) = false then (1, intCode (Str.ofString "boolean")) else if (rangeCode ((.cint i) : Sh) (if isIE n = true then (Str.ofString "bad_element") else (Str.ofString "bad_shift")) == (Str.ofString "")) = false ∧ isID n = false then (1, if isIE n = true then (Str.ofString "bad_element") else (Str.ofString "bad_shift")) else (0, (Str.ofString "")))) i hi n hn 
  | typ i sz ln nu hi => exact absurd rfl hs
theorem rel_wf {d : Sd} {nt : Nt} (h : Rel d nt) : d.wf := by
  cases h <;> first | trivial | exact (by decide : (Str.ofString "string" == Str.ofString "string") = true) | exact (by decide : (Str.ofString "integer" == Str.ofString "string") = false) | exact (by decide : (Str.ofString "set" == Str.ofString "string") = false) | exact (by decide : (Str.ofString "boolean" == Str.ofString "string") = false)
theorem rel_bound {d : Sd} {nt : Nt} (h : Rel d nt) : ∀ i, d.sh = .cint i → -2147483648 ≤ i ∧ i ≤ 4294967295 := by
  cases h with
  | cint i _ _ _ hi => intro j e; cases e; exact (by decide +kernel : ∀ i ∈ intVals, -2147483648 ≤ i ∧ i ≤ 4294967295) i hi
  | cset i _ _ _ hi => intro j e; cases e; exact (by decide +kernel : ∀ i ∈ setVals, -2147483648 ≤ i ∧ i ≤ 4294967295) i hi
  | cbool i _ _ _ hi => intro j e; cases e; exact (by decide +kernel : ∀ i ∈ boolVals, -2147483648 ≤ i ∧ i ≤ 4294967295) i hi
  | _ => intro j e; cases e
noncomputable def allVals : List Int := intVals ++ setVals ++ boolVals ++ [97]
theorem fold1_law : ∀ n ∈ [(Str.ofString "ABS"), (Str.ofString "ODD"), (Str.ofString "ORD"), (Str.ofString "CHR")], ∀ v ∈ allVals, (v ∈ intVals ∨ n = (Str.ofString "ORD")) → (folded1 n v).2 = lcode n (lwork1 n v) ∧ ((lcode n (lwork1 n v) == (Str.ofString "")) = true → (folded1 n v).1 = lwork1 n v) := by decide +kernel
theorem fold2_law : ∀ n ∈ [(Str.ofString "LSL"), (Str.ofString "ASR"), (Str.ofString "ROR")], ∀ v ∈ intVals, ∀ j ∈ intVals, 0 ≤ j → j ≤ 31 → foldShift n v j = lwork2 n v j := by decide +kernel
theorem val_value_law : ∀ f ∈ typForms, ∀ v ∈ allVals, (f == (Str.ofString "record")) = false → valValue f v = lval f v := by decide +kernel
theorem val_code_law {d : Sd} {nt : Nt} {f : Str} (h : Rel d nt) (hs : d.sh ≠ .typ) (hf : f ∈ typForms) : valCode f d = if (f != (Str.ofString "record")) = true ∧ isVal nt.ks = true then (Str.ofString "") else (Str.ofString "bad_argument") := by
  cases h with
  | intv sz ln nu => exact (by decide +kernel : ∀ f ∈ typForms, valCode f ⟨.var false, (Str.ofString "integer"), 0, 0, 0⟩ = if (f != (Str.ofString "record")) = true ∧ isVal (Str.ofString "int") = true then (Str.ofString "") else (Str.ofString "bad_argument")) f hf
  | neg sz ln nu => exact (by decide +kernel : ∀ f ∈ typForms, valCode f ⟨.neg, (Str.ofString "integer"), 0, 0, 0⟩ = if (f != (Str.ofString "record")) = true ∧ isVal (Str.ofString "int") = true then (Str.ofString "") else (Str.ofString "bad_argument")) f hf
  | setv sz ln nu => exact (by decide +kernel : ∀ f ∈ typForms, valCode f ⟨.var false, (Str.ofString "set"), 0, 0, 0⟩ = if (f != (Str.ofString "record")) = true ∧ isVal (Str.ofString "set") = true then (Str.ofString "") else (Str.ofString "bad_argument")) f hf
  | boolv sz ln nu => exact (by decide +kernel : ∀ f ∈ typForms, valCode f ⟨.var false, (Str.ofString "boolean"), 0, 0, 0⟩ = if (f != (Str.ofString "record")) = true ∧ isVal (Str.ofString "bool") = true then (Str.ofString "") else (Str.ofString "bad_argument")) f hf
  | charv sz ln nu => exact (by decide +kernel : ∀ f ∈ typForms, valCode f ⟨.var false, (Str.ofString "char"), 0, 0, 0⟩ = if (f != (Str.ofString "record")) = true ∧ isVal (Str.ofString "char") = true then (Str.ofString "") else (Str.ofString "bad_argument")) f hf
  | bytev sz ln nu => exact (by decide +kernel : ∀ f ∈ typForms, valCode f ⟨.var false, (Str.ofString "byte"), 0, 0, 0⟩ = if (f != (Str.ofString "record")) = true ∧ isVal (Str.ofString "int") = true then (Str.ofString "") else (Str.ofString "bad_argument")) f hf
  | ptrv sz ln nu => exact (by decide +kernel : ∀ f ∈ typForms, valCode f ⟨.var false, (Str.ofString "pointer"), 0, 0, 0⟩ = if (f != (Str.ofString "record")) = true ∧ isVal (Str.ofString "ptr") = true then (Str.ofString "") else (Str.ofString "bad_argument")) f hf
  | arrv sz nu => exact (by decide +kernel : ∀ f ∈ typForms, valCode f ⟨.var false, (Str.ofString "array"), 0, (-1), 0⟩ = if (f != (Str.ofString "record")) = true ∧ isVal (Str.ofString "arr") = true then (Str.ofString "") else (Str.ofString "bad_argument")) f hf
  | arrw sz nu => exact (by decide +kernel : ∀ f ∈ typForms, valCode f ⟨.var false, (Str.ofString "array"), 0, 3, 0⟩ = if (f != (Str.ofString "record")) = true ∧ isVal (Str.ofString "arr") = true then (Str.ofString "") else (Str.ofString "bad_argument")) f hf
  | rov sz ln nu => exact (by decide +kernel : ∀ f ∈ typForms, valCode f ⟨.var true, (Str.ofString "integer"), 0, 0, 0⟩ = if (f != (Str.ofString "record")) = true ∧ isVal (Str.ofString "int") = true then (Str.ofString "") else (Str.ofString "bad_argument")) f hf
  | letter sz ln nu => exact (by decide +kernel : ∀ f ∈ typForms, valCode f ⟨.letter, (Str.ofString "string"), 0, 0, 0⟩ = if (f != (Str.ofString "record")) = true ∧ isVal (Str.ofString "letter") = true then (Str.ofString "") else (Str.ofString "bad_argument")) f hf
  | text sz ln nu => exact (by decide +kernel : ∀ f ∈ typForms, valCode f ⟨.text, (Str.ofString "string"), 0, 0, 0⟩ = if (f != (Str.ofString "record")) = true ∧ isVal (Str.ofString "text") = true then (Str.ofString "") else (Str.ofString "bad_argument")) f hf
  | cint i sz ln nu hi => exact (by decide +kernel : ∀ f ∈ typForms, valCode f ⟨(.cint 0), (Str.ofString "integer"), 0, 0, 0⟩ = if (f != (Str.ofString "record")) = true ∧ isVal (Str.ofString "int") = true then (Str.ofString "") else (Str.ofString "bad_argument")) f hf
  | cset i sz ln nu hi => exact (by decide +kernel : ∀ f ∈ typForms, valCode f ⟨(.cint 0), (Str.ofString "set"), 0, 0, 0⟩ = if (f != (Str.ofString "record")) = true ∧ isVal (Str.ofString "set") = true then (Str.ofString "") else (Str.ofString "bad_argument")) f hf
  | cbool i sz ln nu hi => exact (by decide +kernel : ∀ f ∈ typForms, valCode f ⟨(.cint 0), (Str.ofString "boolean"), 0, 0, 0⟩ = if (f != (Str.ofString "record")) = true ∧ isVal (Str.ofString "bool") = true then (Str.ofString "") else (Str.ofString "bad_argument")) f hf
  | typ i sz ln nu hi => exact absurd rfl hs
theorem use_none : ∀ n ∈ names16, ∀ st, (useCode n 0 st == (Str.ofString "")) = false := by decide +kernel
theorem use_three : ∀ n ∈ names16, ∀ st, (useCode n 3 st == (Str.ofString "")) = false := by decide +kernel
theorem use_one : ∀ n ∈ names16, ∀ st, (useCode n 1 st == (Str.ofString "")) = true → (n == (Str.ofString "VAL")) = false ∧ (isF n == st) = false ∧ leastN n ≤ 1 ∧ 1 ≤ mostN n := by decide +kernel
theorem use_two : ∀ n ∈ names16, ∀ st, (useCode n 2 st == (Str.ofString "")) = true → (isF n == st) = false ∧ leastN n ≤ 2 ∧ 2 ≤ mostN n := by decide +kernel
theorem use_one_st : ∀ n ∈ names16, (useCode n 1 true == (Str.ofString "")) = true → isF n = false ∧ isVS n = false := by decide +kernel
theorem use_two_st : ∀ n ∈ names16, (useCode n 2 true == (Str.ofString "")) = true → isF n = false ∧ isVS n = false ∧ (n == (Str.ofString "VAL")) = false ∧ (n == (Str.ofString "SIZE")) = false ∧ (n == (Str.ofString "LEN")) = false ∧ (n == (Str.ofString "ORD")) = false ∧ (n == (Str.ofString "ASSERT")) = false := by decide +kernel
theorem use_one_fn : ∀ n ∈ names16, (useCode n 1 false == (Str.ofString "")) = true → (n == (Str.ofString "SIZE")) = true ∨ (n == (Str.ofString "LEN")) = true ∨ ((n == (Str.ofString "SIZE")) = false ∧ (n == (Str.ofString "LEN")) = false ∧ isVS n = false ∧ n ∈ [(Str.ofString "ABS"), (Str.ofString "ODD"), (Str.ofString "ORD"), (Str.ofString "CHR")]) := by decide +kernel
theorem use_two_fn : ∀ n ∈ names16, (useCode n 2 false == (Str.ofString "")) = true → (n == (Str.ofString "VAL")) = true ∨ (isVS n = false ∧ isF n = true ∧ isIE n = false ∧ isID n = false ∧ n ∈ [(Str.ofString "LSL"), (Str.ofString "ASR"), (Str.ofString "ROR")]) := by decide +kernel
theorem three_names : ∀ n ∈ [(Str.ofString "LSL"), (Str.ofString "ASR"), (Str.ofString "ROR")], (n == (Str.ofString "SIZE")) = false ∧ (n == (Str.ofString "LEN")) = false ∧ (n == (Str.ofString "VAL")) = false ∧ (n == (Str.ofString "ABS")) = false ∧ (n == (Str.ofString "ODD")) = false ∧ (n == (Str.ofString "ORD")) = false ∧ (n == (Str.ofString "CHR")) = false ∧ (n == (Str.ofString "ASSERT")) = false := by decide +kernel
theorem four_names : ∀ n ∈ [(Str.ofString "ABS"), (Str.ofString "ODD"), (Str.ofString "ORD"), (Str.ofString "CHR")], (n == (Str.ofString "SIZE")) = false ∧ (n == (Str.ofString "LEN")) = false ∧ (n == (Str.ofString "VAL")) = false ∧ ((n == (Str.ofString "ABS")) = false → (n == (Str.ofString "ODD")) = false → (n == (Str.ofString "ORD")) = false → (n == (Str.ofString "CHR")) = true) := by decide +kernel
theorem ie_id : ∀ n ∈ names16, (useCode n 2 true == (Str.ofString "")) = true → (isIE n = true ∧ isID n = false) ∨ (isIE n = false ∧ isID n = true) := by decide +kernel
theorem range_or (sh : Sh) (c : Str) : rangeCode sh c = c ∨ rangeCode sh c = (Str.ofString "") := by
  cases sh with
  | cint i =>
    unfold rangeCode
    dsimp only
    split
    · exact .inl rfl
    · exact .inr rfl
  | _ => exact .inr rfl
theorem lfirst2_of {n f : Str} {nt nt2 : Nt} (h : (n == Str.ofString "VAL") = false) : lfirst2 n f nt nt2 = if ((lone n nt).2 == (Str.ofString "")) = false then lone n nt else ltwo n nt2 := if_neg (by rw [h]; decide)
theorem eq_nil {x : Str} (h : (x == (Str.ofString "")) = true) : x = (Str.ofString "") := eq_of_beq h
theorem s2_law {d d2 : Sd} {nt nt2 : Nt} {n f : Str} (h : Rel d nt) (h2 : Rel d2 nt2) (hs : d.sh ≠ .typ) (hs2 : d2.sh ≠ .typ) (hn : n ∈ names16) (hc : (useCode n 2 true == (Str.ofString "")) = true) :
    (scode2 n 20 30 d d2).2 = (lfirst2 n f nt nt2).2 ∧ (((lfirst2 n f nt nt2).2 == (Str.ofString "")) = false → (scode2 n 20 30 d d2).1 = 20 + 10 * (lfirst2 n f nt nt2).1) := by
  obtain ⟨a1, _, a2, _, _, _, a3⟩ := use_two_st n hn hc
  have e1 := lone_st h hs hn a1 a3
  have e2 := two_law h2 hs2 hn
  rw [lfirst2_of a2, e1, e2]
  unfold scode2
  dsimp only
  by_cases c1 : (varCode d.sh == (Str.ofString "")) = true
  · have c1' : ¬ (varCode d.sh == (Str.ofString "")) = false := by rw [c1]; decide
    rw [if_neg c1', if_pos c1]
    by_cases c2 : (targetCode n d.form == (Str.ofString "")) = true
    · have c2' : ¬ (targetCode n d.form == (Str.ofString "")) = false := by rw [c2]; decide
      rw [if_neg c2', if_neg c2']
      by_cases c3 : (intCode d2.form == (Str.ofString "")) = true
      · have c3' : ¬ (intCode d2.form == (Str.ofString "")) = false := by rw [c3]; decide
        rw [if_neg c3', if_neg c3']
        rcases ie_id n hn hc with ⟨i1, i2⟩ | ⟨i1, i2⟩
        · rw [if_pos i1, if_pos i1]
          rcases range_or d2.sh (Str.ofString "bad_element") with r | r
          · rw [r, if_pos ⟨by decide, i2⟩]; exact ⟨rfl, fun _ => rfl⟩
          · rw [r, if_neg (fun h => absurd h.1 (by decide))]; exact ⟨rfl, fun h => absurd h (by decide)⟩
        · have i1' : ¬ isIE n = true := by rw [i1]; decide
          rw [if_neg i1', if_neg i1', if_neg (fun h => absurd h.2 (by rw [i2]; decide)), eq_nil c3]
          exact ⟨rfl, fun h => absurd h (by decide)⟩
      · have c3' : (intCode d2.form == (Str.ofString "")) = false := by simpa using c3
        rw [if_pos c3', if_pos c3']; exact ⟨rfl, fun _ => rfl⟩
    · have c2' : (targetCode n d.form == (Str.ofString "")) = false := by simpa using c2
      rw [if_pos c2', if_pos c2']; exact ⟨rfl, fun _ => rfl⟩
  · have c1' : (varCode d.sh == (Str.ofString "")) = false := by simpa using c1
    rw [if_pos c1', if_neg c1, if_pos c1']; exact ⟨rfl, fun _ => rfl⟩
theorem f2_law {d d2 : Sd} {nt nt2 : Nt} {n f : Str} (h : Rel d nt) (h2 : Rel d2 nt2) (hs : d.sh ≠ .typ) (hs2 : d2.sh ≠ .typ) (hn : n ∈ names16) (hf : isF n = true) (hi : isIE n = false) (hj : isID n = false) (hv : (n == Str.ofString "VAL") = false) :
    (fcode2 n 20 30 d d2).2 = (lfirst2 n f nt nt2).2 ∧ (((lfirst2 n f nt nt2).2 == (Str.ofString "")) = false → (fcode2 n 20 30 d d2).1 = 20 + 10 * (lfirst2 n f nt nt2).1) := by
  have e1 := lone_fn h hs hn hf
  have e2 := two_law h2 hs2 hn
  have hv' : ¬ (n == Str.ofString "VAL") = true := by rw [hv]; decide
  have i1' : ¬ isIE n = true := by rw [hi]; decide
  rw [lfirst2_of hv, e1, e2]
  unfold fcode2
  rw [if_neg hv']
  dsimp only
  by_cases c1 : (intCode d.form == (Str.ofString "")) = true
  · have c1' : ¬ (intCode d.form == (Str.ofString "")) = false := by rw [c1]; decide
    rw [if_neg c1', if_neg c1']
    by_cases c3 : (intCode d2.form == (Str.ofString "")) = true
    · have c3' : ¬ (intCode d2.form == (Str.ofString "")) = false := by rw [c3]; decide
      rw [if_neg c3', if_neg c3', if_neg i1']
      rcases range_or d2.sh (Str.ofString "bad_shift") with r | r
      · rw [r, if_pos ⟨by decide, hj⟩]; exact ⟨rfl, fun _ => rfl⟩
      · rw [r, if_neg (fun h => absurd h.1 (by decide))]; exact ⟨rfl, fun h => absurd h (by decide)⟩
    · have c3' : (intCode d2.form == (Str.ofString "")) = false := by simpa using c3
      rw [if_pos c3', if_pos c3']; exact ⟨rfl, fun _ => rfl⟩
  · have c1' : (intCode d.form == (Str.ofString "")) = false := by simpa using c1
    rw [if_pos c1', if_pos c1']; exact ⟨rfl, fun _ => rfl⟩
/-- what a shape holds, as the law notes it -/
theorem rel_val {d : Sd} {nt : Nt} (h : Rel d nt) : (∃ v, nt.ov = some v ∧ v ∈ allVals ∧ (d.sh = .cint v ∨ (d.sh = .letter ∧ v = 97))) ∨ (nt.ov = none ∧ (d.sh = .text ∨ ((∀ i, d.sh ≠ .cint i) ∧ d.sh ≠ .letter ∧ d.sh ≠ .text))) := by
  cases h with
  | letter => exact .inl ⟨97, rfl, by decide, .inr ⟨rfl, rfl⟩⟩
  | cint i _ _ _ hi => exact .inl ⟨i, rfl, List.mem_append_left _ (List.mem_append_left _ (List.mem_append_left _ hi)), .inl rfl⟩
  | cset i _ _ _ hi => exact .inl ⟨i, rfl, List.mem_append_left _ (List.mem_append_left _ (List.mem_append_right _ hi)), .inl rfl⟩
  | cbool i _ _ _ hi => exact .inl ⟨i, rfl, List.mem_append_left _ (List.mem_append_right _ hi), .inl rfl⟩
  | text => exact .inr ⟨rfl, .inl rfl⟩
  | _ => exact .inr ⟨rfl, .inr ⟨(fun _ e => by cases e), (fun e => by cases e), (fun e => by cases e)⟩⟩
theorem rel_int {d : Sd} {nt : Nt} {v : Int} (h : Rel d nt) (hf : isInt d.form = true) (hv : nt.ov = some v) : d.sh = .cint v ∧ v ∈ intVals := by
  cases h with
  | cint i _ _ _ hi => cases hv; exact ⟨rfl, hi⟩
  | letter => exact absurd hf (by dsimp only; decide)
  | cset => exact absurd hf (by dsimp only; decide)
  | cbool => exact absurd hf (by dsimp only; decide)
  | _ => cases hv
theorem rel_typ {d : Sd} {nt : Nt} (h : Rel d nt) (ht : d.sh = .typ) : d.form ∈ typForms ∧ nt.ks = Str.ofString "type" := by
  cases h with
  | typ f _ _ _ hf => exact ⟨hf, rfl⟩
  | _ => cases ht
theorem rel_arr {d : Sd} {nt : Nt} (h : Rel d nt) (hs : d.sh ≠ .typ) (hf : (d.form == Str.ofString "array") = true) : d.ln = 3 ∨ d.ln = -1 := by
  cases h with
  | arrv => exact .inr rfl
  | arrw => exact .inl rfl
  | typ => exact absurd rfl hs
  | _ => exact absurd hf (by dsimp only; decide)
theorem op_nc {sh : Sh} (h1 : ∀ i, sh ≠ .cint i) (h2 : sh ≠ .letter) (h3 : sh ≠ .text) : (sh.op == Str.ofString "const") = false := by
  cases sh with
  | cint i => exact absurd rfl (h1 i)
  | letter => exact absurd rfl h2
  | text => exact absurd rfl h3
  | var _ => exact (by decide : (Str.ofString "var" == Str.ofString "const") = false)
  | neg => exact (by decide : (Str.ofString "neg" == Str.ofString "const") = false)
  | typ => exact (by decide : (Str.ofString "type" == Str.ofString "const") = false)
theorem none_int {d : Sd} {nt : Nt} (h : Rel d nt) (hf : isInt d.form = true) (hv : nt.ov = none) : (d.sh.op == Str.ofString "const") = false := by
  rcases rel_val h with ⟨v, e, _⟩ | ⟨_, e | ⟨e1, e2, e3⟩⟩
  · rw [hv] at e; cases e
  · cases h with
    | text => exact absurd hf (by dsimp only; decide)
    | _ => cases e
  · exact op_nc e1 e2 e3
theorem fold_of {n : Str} {d : Sd} {v : Int} {tb tc ti a : Addr} (hS : (n == Str.ofString "SIZE") = false) (hL : (n == Str.ofString "LEN") = false) (hd : d.sh = .cint v ∨ (d.sh = .letter ∧ v = 97)) : fnode1 n tb tc ti a d = (.const (resT n tb tc ti) (folded1 n v).1, (folded1 n v).2) := by
  unfold fnode1
  rw [if_neg (by rw [hS]; decide), if_neg (by rw [hL]; decide)]
  rcases hd with h | ⟨h, rfl⟩ <;> rw [h]
theorem code_int {n : Str} {pl : Int} {d : Sd} (h : ((fcode1 n pl d).2 == (Str.ofString "")) = true) (hS : (n == Str.ofString "SIZE") = false) (hL : (n == Str.ofString "LEN") = false) (hO : (n == Str.ofString "ORD") = false) : isInt d.form = true := by
  unfold fcode1 at h
  rw [if_neg (by rw [hS]; decide), if_neg (by rw [hL]; decide), if_neg (by rw [hO]; decide)] at h
  exact intCode_yes h
theorem lcode_three : ∀ n ∈ [Str.ofString "LSL", Str.ofString "ASR", Str.ofString "ROR"], (n == Str.ofString "CHR") = false ∧ (n == Str.ofString "ABS") = false := by decide +kernel
theorem lcode_nil {n : Str} {V : Int} (h1 : (n == Str.ofString "CHR") = false) (h2 : (n == Str.ofString "ABS") = false) : lcode n V = (Str.ofString "") := by
  unfold lcode
  rw [if_neg (fun h => by rw [h1] at h; cases h.1), if_neg (fun h => by rw [h2] at h; cases h.1)]
theorem fnode2_const {n : Str} {d d2 : Sd} {v j : Int} {tb tc ti a b : Addr} (h : d.sh = .cint v) (h2 : d2.sh = .cint j) : fnode2 n tb tc ti a b d d2 = (.const (resT n tb tc ti) (foldShift n v j), (Str.ofString "")) := by
  unfold fnode2
  rw [h, h2]
theorem vnode_const {ty a : Addr} {f : Str} {d : Sd} {v : Int} (h : d.sh = .cint v ∨ (d.sh = .letter ∧ v = 97)) : vnode ty f a d = .const ty (valValue f v) := by
  unfold vnode
  rcases h with h | ⟨h, rfl⟩ <;> rw [h]
theorem vnode_std {ty a : Addr} {f : Str} {d : Sd} (h1 : ∀ i, d.sh ≠ .cint i) (h2 : d.sh ≠ .letter) : vnode ty f a d = .std ty [a] := by
  unfold vnode
  cases h : d.sh with
  | cint i => exact absurd h (h1 i)
  | letter => exact absurd h h2
  | _ => rfl
theorem rec_no {f : Str} {d : Sd} (h : (valCode f d == (Str.ofString "")) = true) : (f == Str.ofString "record") = false := by
  by_cases e : f = Str.ofString "record"
  · subst e
    unfold valCode at h
    rw [if_neg (fun h => absurd h.1 (by decide))] at h
    exact absurd h (by decide)
  · simpa using e
end Mine

namespace Mine
/-- a def's own part of a frame -/
structure Fi where
  cn : Str
  cs : Scope
  a : Addr
  ccd : Value
/-- what a walk carries that no step changes -/
structure Lc where
  w : World
  dp : Nat
  un : Nat
  gd : Option (List Code)
  L : Addr
  cl : List (Str × Addr)
  outer : List Env
  E : Value → Shared → Prop
  h₀ : Heap
  A₀ : Around
  base : Heap
  loose : List Str
  mean : ExcName → Option Value
  mg : Str → Option Value
  mb : Str → Option Value
abbrev Lc.env (c : Lc) (fi : Fi) : Env := envX fi.cn fi.cs c.L fi.a fi.ccd c.cl
abbrev Lc.A (c : Lc) (fi : Fi) : Around := ktrTop c.dp c.un c.gd fi.cn fi.cs c.L fi.a fi.ccd c.cl c.outer
structure Lc.Ok (c : Lc) (k : Nat) : Prop where
  B : Below c.A₀ c.base c.outer c.h₀
  X : (hd.heap_1 c.w.params).In c.h₀
  T : Top VQ c.loose c.mean c.mg c.mb c.h₀
  hd : c.dp + k < recursionLimit
  hu : c.un + 8 * k < cLine
/-- an expression's value (up to its token); frame and ledger stay -/
structure Ev (fi : Fi) (c : Lc) (l : List (Str × Value)) (news : List (Addr × Obj)) (e : PySem.Expr) (f : Tok → Value) : Prop where
  h : ∀ (s : Shared) (Q : Value → Shared → Prop), Fr c.h₀ c.L s.heap (look l) → News c.h₀ c.L s.heap news → (∀ t h' tk, Fr c.h₀ c.L h' (look l) → News c.h₀ c.L h' news → Q (f t) { s with heap := h', toks := tk }) →
    wpAny (model PySem.Challenge.pw_nu0340_01 c.w) (c.A fi) (eval e (c.env fi)) Q c.E s
/-- a test's outcome -/
structure Ts (fi : Fi) (c : Lc) (l : List (Str × Value)) (news : List (Addr × Obj)) (e : PySem.Expr) (b : Bool) : Prop where
  h : ∀ (s : Shared) (Q : Bool → Shared → Prop), Fr c.h₀ c.L s.heap (look l) → News c.h₀ c.L s.heap news → (∀ h' tk, Fr c.h₀ c.L h' (look l) → News c.h₀ c.L h' news → Q b { s with heap := h', toks := tk }) →
    wpAny (model PySem.Challenge.pw_nu0340_01 c.w) (c.A fi) (isTrue e (c.env fi) (eval e (c.env fi))) Q c.E s
/-- an expression whose value and ledger fulfil K -/
structure Rt (fi : Fi) (c : Lc) (l : List (Str × Value)) (news : List (Addr × Obj)) (e : PySem.Expr) (K : Value → List (Addr × Obj) → Prop) : Prop where
  h : ∀ (s : Shared) (Q : Value → Shared → Prop), Fr c.h₀ c.L s.heap (look l) → News c.h₀ c.L s.heap news → (∀ v nw h' tk, K v nw → Fr c.h₀ c.L h' (look l) → News c.h₀ c.L h' nw → Q v { s with heap := h', toks := tk }) →
    wpAny (model PySem.Challenge.pw_nu0340_01 c.w) (c.A fi) (eval e (c.env fi)) Q c.E s
/-- a body that ends by a return whose value and ledger fulfil K -/
structure Bd (fi : Fi) (c : Lc) (l : List (Str × Value)) (news : List (Addr × Obj)) (st : List Stmt) (K : Value → List (Addr × Obj) → Prop) : Prop where
  h : ∀ (s : Shared) (Q : Flow → Shared → Prop), Fr c.h₀ c.L s.heap (look l) → News c.h₀ c.L s.heap news → (∀ v nw h' tk l', K v nw → Fr c.h₀ c.L h' (look l') → News c.h₀ c.L h' nw → Q (.ret v) { s with heap := h', toks := tk }) →
    wpAny (model PySem.Challenge.pw_nu0340_01 c.w) (c.A fi) (execs st (c.env fi)) Q c.E s
abbrev sv (x : Str) : Tok → Value := fun t => .str x t
abbrev iv (x : Int) : Tok → Value := fun t => .int x t
abbrev vv (v : Value) : Tok → Value := fun _ => v
section
variable {fi : Fi} {c : Lc} {l : List (Str × Value)} {news : List (Addr × Obj)} {x y : Str} {i j : Int} {v : Value} {e e1 e2 : PySem.Expr} {p p1 p2 : Pos} {k : Nat} {f f1 f2 : Tok → Value} {b b1 b2 : Bool} {K : Value → List (Addr × Obj) → Prop} {st st1 st2 : List Stmt}
theorem Ev.name (hv : look l x = some v) (ok : okL fi.cs x = true) : Ev fi c l news (.Name x p) (vv v) := ⟨fun s Q F N h => nameL F hv ok (h 0 s.heap s.toks F N)⟩
theorem Ev.nameS {t : Tok} (hv : look l x = some (.str y t)) (ok : okL fi.cs x = true) : Ev fi c l news (.Name x p) (sv y) := ⟨fun s Q F N h => nameL F hv ok (h t s.heap s.toks F N)⟩
theorem Ev.nameI {t : Tok} (hv : look l x = some (.int i t)) (ok : okL fi.cs x = true) : Ev fi c l news (.Name x p) (iv i) := ⟨fun s Q F N h => nameL F hv ok (h t s.heap s.toks F N)⟩
theorem Ev.str : Ev fi c l news (.Constant (.str x) k p) (sv x) := ⟨fun s Q F N h => PySem.wpAny_Constant_str (h s.toks s.heap (s.toks + 1) F N)⟩
theorem Ev.int : Ev fi c l news (.Constant (.int i) k p) (iv i) := ⟨fun s Q F N h => PySem.wpAny_Constant_int (h s.toks s.heap (s.toks + 1) F N)⟩
theorem Ev.none : Ev fi c l news (.Constant .none k p) (vv .none) := ⟨fun s Q F N h => PySem.wpAny_Constant_none (h 0 s.heap s.toks F N)⟩
theorem Ev.bool : Ev fi c l news (.Constant (.bool b) k p) (vv (.bool b)) := ⟨fun s Q F N h => PySem.wpAny_Constant_bool (h 0 s.heap s.toks F N)⟩
/-- what the class's table says of a plain attribute -/
noncomputable def AttrOk (C : Addr) (x : Str) : Prop := ∀ P, ∃ attr, plainGet (hd.heap_1 P) C x = true ∧ hasDictIn (hd.heap_1 P) C = true ∧ findIn (hd.heap_1 P) (.ref C) x = some attr ∧ noGet (hd.heap_1 P) attr = true
/-- an expression on which an attribute is read the plain way -/
noncomputable def Base (e : PySem.Expr) : Prop := ∀ (attr : Str) (pos : Pos) (env : Env), eval (.Attribute e attr pos) env = (do
  let o ← eval e env
  standAt pos.atName
  let r ← holding [o] (getAttr o attr true)
  letTemporaryGo e o r
  pure r)
theorem base_name : Base (.Name y p) := fun _ _ _ => rfl
theorem base_attr : Base (.Attribute e y p) := fun _ _ _ => rfl
theorem base_sub : Base (.Subscript e e1 p) := fun _ _ _ => rfl
theorem Ev.attr {a dx C : Addr} {es : List DictEntry} {n : Nat} (hb : Base e) (he : Ev fi c l news e (vv (.ref a))) (X : (hd.heap_1 c.w.params).In c.h₀) (ha : AttrOk C x) (h1 : (a, instObj C dx) ∈ news) (h2 : (dx, dictOf es n) ∈ news) (hl : getL x es = some (some v)) (hv : handedIn v = true) :
    Ev fi c l news (.Attribute e x p) (vv v) := ⟨fun s Q F N h => by
  obtain ⟨attr, q1, q2, q3, q4⟩ := ha c.w.params
  exact Attribute_any_ (he.h s _ F N fun t h' tk F' N' => get_own F' X (InstAt.of_news N' h1 h2) q1 q2 q3 q4 hl hv (h 0 h' (tk + 1) F' N')) (hb _ _ _)⟩
theorem Ev.toS {t : Tok} (h : Ev fi c l news e (vv (.str y t))) : Ev fi c l news e (sv y) := ⟨fun s Q F N k => h.h s Q F N fun _ h' tk F' N' => k t h' tk F' N'⟩
theorem Ev.toI {t : Tok} (h : Ev fi c l news e (vv (.int i t))) : Ev fi c l news e (iv i) := ⟨fun s Q F N k => h.h s Q F N fun _ h' tk F' N' => k t h' tk F' N'⟩
theorem Ts.cmp {op : CmpOp} (h1 : Ev fi c l news e1 f1) (h2 : Ev fi c l news e2 f2) (hm : behindInMarks op e2 = false)
    (hc : ∀ t1 t2 s Q, Q (.bool b) s → wpAny (model PySem.Challenge.pw_nu0340_01 c.w) (c.A fi) (compareOp op (f1 t1) (f2 t2)) Q c.E s) : Ts fi c l news (.Compare e1 [op] [e2] p) b := ⟨fun s Q F N h =>
  wpAny_isTrue_Compare1 (h1.h s _ F N fun t1 h' tk F' N' => h2.h _ _ F' N' fun t2 h'' tk2 F'' N'' => hc t1 t2 _ _ (PySem.wpAny_truthy_bool (h h'' tk2 F'' N''))) hm⟩
theorem nomarks {op : CmpOp} (h : (op == .In || op == .NotIn) = false) : behindInMarks op e2 = false := by
  cases e2 with
  | Set elts k _ =>
    show (k == 0 && (op == .In || op == .NotIn) && elts.all (constantsAlone 8)) = false
    rw [h, Bool.and_false]
    rfl
  | _ => rfl
theorem Ts.eqS (h1 : Ev fi c l news e1 (sv x)) (h2 : Ev fi c l news e2 (sv y)) : Ts fi c l news (.Compare e1 [.Eq] [e2] p) (x == y) := Ts.cmp h1 h2 (nomarks rfl) fun _ _ _ _ h => eq_str h
theorem Ts.neS (h1 : Ev fi c l news e1 (sv x)) (h2 : Ev fi c l news e2 (sv y)) : Ts fi c l news (.Compare e1 [.NotEq] [e2] p) (x != y) := Ts.cmp h1 h2 (nomarks rfl) fun _ _ _ _ h => ne_str h
theorem Ts.eqI (h1 : Ev fi c l news e1 (iv i)) (h2 : Ev fi c l news e2 (iv j)) : Ts fi c l news (.Compare e1 [.Eq] [e2] p) (i == j) := Ts.cmp h1 h2 (nomarks rfl) fun _ _ _ _ h => eq_int h
theorem Ts.bool (h1 : Ev fi c l news e (vv (.bool b))) (he : ∀ whole, isTrue e (c.env fi) whole = (do let v ← whole; standAt e.pos; holding [v] (truthy v))) : Ts fi c l news e b := ⟨fun s Q F N h =>
  isTrue_plain (h1.h s _ F N fun _ h' tk F' N' => PySem.wpAny_truthy_bool (h h' tk F' N')) (he _)⟩
theorem Ts.not (h : Ts fi c l news e b) : Ts fi c l news (.UnaryOp .Not e p) (!b) := ⟨fun s Q F N k => isTrue_not (h.h s _ F N fun h' tk F' N' => k h' tk F' N')⟩
/-- the strings of a written row -/
noncomputable def strE : (e : PySem.Expr) → Option {x : Str // ∃ k p, e = .Constant (.str x) k p}
  | .Constant (.str x) k p => some ⟨x, k, p, rfl⟩
  | _ => none
noncomputable def strsOf : List PySem.Expr → Option (List Str)
  | [] => some []
  | e :: r => (strE e).bind fun x => (strsOf r).map (x.1 :: ·)
inductive StrsAre : List Value → List Str → Prop
  | nil : StrsAre [] []
  | cons {x t vs cs} : StrsAre vs cs → StrsAre (.str x t :: vs) (x :: cs)
theorem strsOf_cons {e : PySem.Expr} {r : List PySem.Expr} {cs : List Str} (h : strsOf (e :: r) = some cs) : ∃ x k p ds, e = .Constant (.str x) k p ∧ strsOf r = some ds ∧ cs = x :: ds := by
  obtain ⟨⟨x, k, p, rfl⟩, _, h⟩ := Option.bind_eq_some_iff.mp (show (strE e).bind (fun x => (strsOf r).map (x.1 :: ·)) = some cs from h)
  obtain ⟨ds, h1, h2⟩ := Option.map_eq_some_iff.mp h
  exact ⟨x, k, p, ds, rfl, h1, h2.symm⟩
theorem strs_ev {M : Model} {A : Around} {E : Value → Shared → Prop} {env : Env} {pos : Pos} {es : List PySem.Expr} {cs : List Str} (h : strsOf es = some cs) : ∀ (s : Shared) (Q : List Value → Shared → Prop),
    (∀ vs tk, StrsAre vs cs → Q vs { s with toks := tk }) → wpAny M A (spliced (backTo pos (starEach es env))) Q E s := by
  induction es generalizing cs with
  | nil =>
    intro s Q k
    obtain rfl : [] = cs := Option.some.inj h
    exact args_nil (k [] s.toks .nil)
  | cons e r ih =>
    intro s Q k
    obtain ⟨x, k1, p1, ds, rfl, h1, rfl⟩ := strsOf_cons h
    exact args_cons (PySem.wpAny_Constant_str (ih h1 _ _ fun vs tk hv => k (.str x s.toks :: vs) tk (.cons hv)))
noncomputable def isStrOf (x : Str) : Value → Bool
  | .str y _ => y == x
  | _ => false
theorem strs_any {x : Str} {vs : List Value} {cs : List Str} (h : StrsAre vs cs) : vs.toArray.any (isStrOf x) = cs.any fun y => y == x := by
  rw [List.any_toArray]
  induction h with
  | nil => rfl
  | cons _ ih =>
    rw [List.any_cons, List.any_cons, ih]
    rfl
theorem strs_at {A : Around} {s : Shared} {x : Str} {t : Tok} {vs : List Value} {cs : List Str} (h : StrsAre vs cs) : ∀ y, y ∈ vs.toArray → EqAt A s y (.str x t) (isStrOf x y) := fun y hy => by
  have hy' : y ∈ vs := by simpa using hy
  clear hy
  induction h with
  | nil => cases hy'
  | cons _ ih =>
    rcases List.mem_cons.mp hy' with rfl | hy'
    · exact EqAt.str_str _ _ _ _
    · exact ih hy'
theorem strs_len {vs : List Value} {cs : List Str} (h : StrsAre vs cs) : vs.length = cs.length := by
  induction h with
  | nil => rfl
  | cons _ ih => rw [List.length_cons, List.length_cons, ih]
theorem Ts.inT {es : List PySem.Expr} {cs : List Str} {k : Nat} {p2 : Pos} (h1 : Ev fi c l news e1 (sv x)) (hc : strsOf es = some cs) (hz : cs.length ≤ 64) : Ts fi c l news (.Compare e1 [.In] [.Tuple es k p2] p) (cs.any fun y => y == x) := ⟨fun s Q F N h =>
  wpAny_isTrue_Compare1 (h1.h s _ F N fun t1 h' tk F' N' => Tuple_ (strs_ev hc _ _ fun vs tk2 hv => kup_newTuple F' N' (fun D h2 F2 N2 _ => in_tupleAt (isStrOf x) ⟨_, (N2 _ (.head _)).1, rfl, 0, rfl⟩ (strs_at hv) (by
    rw [strs_any hv]
    exact PySem.wpAny_truthy_bool (h h2 tk2 F2 (cb_drop N2 fun _ h => .tail _ h)))) (by rw [strs_len hv]; exact Nat.le_trans hz (Nat.le_of_ble_eq_true rfl)))) rfl⟩
theorem Rt.ev (h : Ev fi c l news e f) (hK : ∀ t, K (f t) news) : Rt fi c l news e K := ⟨fun s Q F N k => h.h s Q F N fun t h' tk F' N' => k _ _ h' tk (hK t) F' N'⟩
theorem Bd.ret (h : Rt fi c l news e K) : Bd fi c l news (.Return (some e) p :: st) K := ⟨fun s Q F N k =>
  wpAny_execs_cons (PySem.wpAny_Return_some (h.h s _ F N fun v nw h' tk hv F' N' => k v nw h' tk l hv F' N'))⟩
theorem Bd.ifR (T : Ts fi c l news e b) (h1 : b = true → Rt fi c l news e1 K) (h2 : b = false → Bd fi c l news st K) : Bd fi c l news (.If e [.Return (some e1) p1] [] p2 :: st) K := ⟨fun s Q F N k =>
  wpAny_execs_cons (wpAny_If (T.h s _ F N fun h' tk F' N' => by
    cases b with
    | true => exact ite_tt <| wpAny_execs_cons (PySem.wpAny_Return_some ((h1 rfl).h { s with heap := h', toks := tk } _ F' N' fun v nw h2 tk2 hv F2 N2 => k v nw h2 tk2 l hv F2 N2))
    | false => exact ite_ff <| wpAny_pure (a := Flow.next) ((h2 rfl).h { s with heap := h', toks := tk } _ F' N' fun v nw h3 tk2 l' hv F2 N2 => k v nw h3 tk2 l' hv F2 N2)))⟩
end
end Mine
namespace Mine
theorem callOk_of {w : World} {f : Addr} {k : Nat} {news : List (Addr × Obj)} {vs : List Value} {Post : Value → List (Addr × Obj) → Prop} {name qual : Str} {params : Arguments} {body : List Stmt} {scope : Scope} {dV kV doc pm cdv ct oc : Value} {an od : Option Addr} {osl : Array (Option Value)} (dv : List Value) {l : List (Str × Value)}
    (ho : (hd.heap_1 w.params).lookup f = some ⟨oc, od, .func (fnOf name qual params body scope dV kV doc pm an cdv ct), osl⟩) (hcd : codeIn (hd.heap_1 w.params) cdv qual = true)
    (hbind : ∀ s, BindsTo s (fnOf name qual params body scope dV kV doc pm an cdv ct) ⟨vs, []⟩ ((params.args.map (·.arg)).zip (vs ++ dv))) (hl : ((params.args.map (·.arg)).zip (vs ++ dv)).reverse = l)
    (hcell : (scope.names.all fun x => match x.2 with | .cell => false | _ => true) = true)
    (hloc : (((params.args.map (·.arg)).zip (vs ++ dv)).all fun x => decide (scope.names.lookup x.1 = some .local)) = true)
    (hco : scope.isCoroutine = false) (hgen : scope.isGenerator = false) (hk : scope.kind = .function)
    (hB : ∀ c : Lc, c.w = w → c.cl = [] → c.Ok k → Bd ⟨qual, scope, f, cdv⟩ c l news body Post) : CallOk w f (k + 1) news vs Post := by
  intro loose mean mg mb dp un gd cn cs a ccd cl outer A₀ base h₀ L m s Q E B F X N T hk0 hd hu hret
  refine wpAny_call ?_
  refine enterW dv rfl rfl hk0 B F X N T ho hcd (by show dp < _; omega) (hbind _) hl hcell hloc hco hgen hk fun g L' h₁ tk FG F' N' B' X' T' => ?_
  exact (hB ⟨w, dp + 1, un + 3, gd, L', [], envX cn cs L a ccd cl :: outer, _, g, ktrTop dp un gd cn cs L a ccd cl outer, base, loose, mean, mg, mb⟩ rfl rfl ⟨B', X', T', by show dp + 1 + k < _; omega, by show un + 3 + 8 * k < _; omega⟩).h _ _ F' N' fun v nw h' tk' l' hv F2 N2 => leaveK_ F2 N2 fun F3 N3 => hret v nw _ _ F3 N3 hv
end Mine

namespace Mine
/-- a row of arguments -/
structure Evs (fi : Fi) (c : Lc) (l : List (Str × Value)) (news : List (Addr × Obj)) (es : List PySem.Expr) (P : List Value → Prop) : Prop where
  h : ∀ (s : Shared) (pos : Pos) (Q : List Value → Shared → Prop), Fr c.h₀ c.L s.heap (look l) → News c.h₀ c.L s.heap news → (∀ vs h' tk, P vs → Fr c.h₀ c.L h' (look l) → News c.h₀ c.L h' news → Q vs { s with heap := h', toks := tk }) →
    wpAny (model PySem.Challenge.pw_nu0340_01 c.w) (c.A fi) (spliced (backTo pos (starEach es (c.env fi)))) Q c.E s
noncomputable def noStar : List PySem.Expr → Bool
  | [] => true
  | .Starred _ _ :: _ => false
  | _ :: r => noStar r
theorem noStar_cons {e : PySem.Expr} {r : List PySem.Expr} (h : noStar (e :: r) = true) : (∀ env, starEach (e :: r) env = (false, eval e env) :: starEach r env) ∧ noStar r = true := by
  cases e with
  | Starred _ _ => cases h
  | _ => exact ⟨fun _ => rfl, h⟩
theorem starEach_cons {e : PySem.Expr} {r : List PySem.Expr} {env : Env} (h : noStar (e :: r) = true) : starEach (e :: r) env = (false, eval e env) :: starEach r env ∧ noStar r = true := ⟨(noStar_cons h).1 env, (noStar_cons h).2⟩
theorem noStar_any {pos : Pos} {env : Env} : ∀ {es : List PySem.Expr}, noStar es = true → (backTo pos (starEach es env)).any (·.1) = false
  | [], _ => rfl
  | e :: r, h => by
    obtain ⟨h1, h2⟩ := starEach_cons (env := env) h
    have ih := noStar_any (pos := pos) (env := env) h2
    rw [h1]
    show (false || (backTo pos (starEach r env)).any (·.1)) = false
    rw [ih]
    rfl
section
variable {fi : Fi} {c : Lc} {l : List (Str × Value)} {news : List (Addr × Obj)} {x y : Str} {i j : Int} {v : Value} {e e1 e2 fe : PySem.Expr} {es : List PySem.Expr} {p p1 p2 : Pos} {k k2 : Nat} {f f1 f2 g : Tok → Value} {b b1 b2 : Bool} {K Post : Value → List (Addr × Obj) → Prop} {st st1 st2 : List Stmt} {P : List Value → Prop} {a : Addr}
theorem Evs.nil : Evs fi c l news [] (fun vs => vs = []) := ⟨fun s pos Q F N h => args_nil (h [] s.heap s.toks rfl F N)⟩
theorem Evs.cons (hn : noStar (e :: es) = true) (h1 : Ev fi c l news e f) (h2 : Evs fi c l news es P) : Evs fi c l news (e :: es) (fun vs => ∃ t r, vs = f t :: r ∧ P r) := ⟨fun s pos Q F N h =>
  args_cons (h1.h s _ F N fun t h' tk F' N' => h2.h _ _ _ F' N' fun vs h2 tk2 hp F2 N2 => h (f t :: vs) h2 tk2 ⟨t, vs, rfl, hp⟩ F2 N2) (starEach_cons hn).1⟩
/-- a name of the text's own top -/
noncomputable def GlobOk (x : Str) (v : Value) : Prop := ∀ P, nsIn (hd.heap_1 P) mainGlobals x = some (some v) ∧ keepIn (hd.heap_1 P) v = true
noncomputable def okG (cs : Scope) (x : Str) : Bool := (match cs.kind with | .function => true | _ => false) && (match cs.names.lookup x with | some .globalImplicit => true | _ => false) && !(x == ("__debug__" : Str))
theorem okG_of {cs : Scope} {x : Str} (h : okG cs x = true) : cs.kind = .function ∧ cs.names.lookup x = some .globalImplicit ∧ (x == ("__debug__" : Str)) = false := by
  unfold okG at h
  simp only [Bool.and_eq_true, Bool.not_eq_true'] at h
  obtain ⟨⟨h1, h2⟩, h3⟩ := h
  refine ⟨?_, ?_, h3⟩
  · cases hk : cs.kind <;> rw [hk] at h1 <;> first | rfl | cases h1
  · cases hk : cs.names.lookup x with
    | none => rw [hk] at h2; cases h2
    | some k => rw [hk] at h2; cases k <;> first | rfl | cases h2
theorem Ev.glob (O : c.Ok k) (g : GlobOk x v) (ok : okG fi.cs x = true) : Ev fi c l news (.Name x p) (vv v) := ⟨fun s Q F N h =>
  nameX_K F O.X (topRead_of O.T) (g c.w.params).1 (h 0 s.heap s.toks F N) (okG_of ok).1 (okG_of ok).2.1 (okG_of ok).2.2⟩
/-- a call of a def of the text's, by its contract -/
theorem Rt.call (O : c.Ok k2) (hO : k + 1 ≤ k2) (hk : fi.cs.kind = .function) (g : GlobOk x (.ref a)) (ok : okG fi.cs x = true) (hn : noStar (e :: es) = true) (ha : Evs fi c l news (e :: es) P) (C : ∀ vs, P vs → CallOk c.w a k news vs Post) (hK : ∀ v nw, Post v nw → K v nw) : Rt fi c l news (.Call (.Name x p1) (e :: es) [] p) K := ⟨fun s Q F N h =>
  Call_ ((Ev.glob (k := k2) O g ok).h s _ F N fun t h1 tk F1 N1 => callWith_K O.X (g c.w.params).2 (ha.h _ _ _ F1 N1 fun vs h2 tk2 hp F2 N2 => ⟨O.X.keeps F2.keep, (C vs hp).use O.B F2 O.X N2 O.T hk (by have := O.hd; omega) (by have := O.hu; omega) fun r nw h3 tk3 F3 N3 hP => h r nw h3 tk3 (hK r nw hP) F3 N3⟩) (starEach_cons hn).1 (noStar_any (starEach_cons (env := c.env fi) hn).2)) (by rfl)⟩
theorem Ev.call (O : c.Ok k2) (hO : k + 1 ≤ k2) (hk : fi.cs.kind = .function) (g : GlobOk x (.ref a)) (ok : okG fi.cs x = true) (hn : noStar (e :: es) = true) (ha : Evs fi c l news (e :: es) P) (C : ∀ vs, P vs → CallOk c.w a k news vs (Pure news f)) : Ev fi c l news (.Call (.Name x p1) (e :: es) [] p) f := ⟨fun s Q F N h =>
  (Rt.call (K := Pure news f) O hO hk g ok hn ha C (fun _ _ h => h)).h s Q F N fun v nw h' tk ⟨e1, t, e2⟩ F' N' => by subst e1; subst e2; exact h t h' tk F' N'⟩
theorem Ts.call (h : Ev fi c l news (.Call (.Name x p1) es [] p) (vv (.bool b))) : Ts fi c l news (.Call (.Name x p1) es [] p) b := Ts.bool h fun _ => rfl
theorem Ts.name {t : Bool} (hv : look l x = some (.bool t)) (ok : okL fi.cs x = true) : Ts fi c l news (.Name x p) t := Ts.bool (Ev.name hv ok) fun _ => rfl
/-- a store -/
theorem Bd.asg (ok : okL fi.cs x = true) (hs : ∀ env, swapsWith e (some (.Name x p1)) p2.line env = pure false) (h : Ev fi c l news e f) (hB : ∀ t, Bd fi c ((x, f t) :: l) news st K) : Bd fi c l news (.Assign [.Name x p1] e p2 :: st) K := ⟨fun s Q F N k =>
  wpAny_execs_cons (PySem.wpAny_Assign_Name (h.h s _ F N fun t h' tk F' N' => storeL F' N' ok fun h2 F2 N2 => (hB t).h { s with heap := h2, toks := tk + 1 } Q F2 N2 fun v nw h3 tk3 l3 hv F3 N3 => k v nw h3 tk3 l3 hv F3 N3) (hs _))⟩
theorem Bd.asgR (ok : okL fi.cs x = true) (hs : ∀ env, swapsWith e (some (.Name x p1)) p2.line env = pure false) (h : Rt fi c l news e Post) (hB : ∀ v nw, Post v nw → Bd fi c ((x, v) :: l) nw st K) : Bd fi c l news (.Assign [.Name x p1] e p2 :: st) K := ⟨fun s Q F N k =>
  wpAny_execs_cons (PySem.wpAny_Assign_Name (h.h s _ F N fun v nw h' tk hP F' N' => storeL F' N' ok fun h2 F2 N2 => (hB v nw hP).h { s with heap := h2, toks := tk + 1 } Q F2 N2 fun v nw h3 tk3 l3 hv F3 N3 => k v nw h3 tk3 l3 hv F3 N3) (hs _))⟩
end
end Mine
namespace Mine
section
variable {fi : Fi} {c : Lc} {l : List (Str × Value)} {news : List (Addr × Obj)} {x y : Str} {i j : Int} {v : Value} {e e1 e2 fe : PySem.Expr} {es : List PySem.Expr} {p p1 p2 : Pos} {k k2 : Nat} {f f1 f2 g : Tok → Value} {b b1 b2 : Bool} {K Post : Value → List (Addr × Obj) → Prop} {st st1 st2 : List Stmt} {P : List Value → Prop} {a : Addr}
theorem ts_any {op : BoolOp} {fi : Fi} {c : Lc} {s : Shared} {Q : Bool → Shared → Prop} {E : Value → Shared → Prop} {whole whole' : Sem Value} (h : wpAny (model PySem.Challenge.pw_nu0340_01 c.w) (c.A fi) (isTrue (.BoolOp op es p) (c.env fi) whole) Q E s) : wpAny (model PySem.Challenge.pw_nu0340_01 c.w) (c.A fi) (isTrue (.BoolOp op es p) (c.env fi) whole') Q E s := h
theorem Ts.and1 (h1 : Ts fi c l news e b) : Ts fi c l news (.BoolOp .And [e] p) b := ⟨fun s Q F N h =>
  isTrue_and (h1.h s _ F N fun h' tk F' N' => by
    cases b with
    | true => exact ite_tt (isTrue_and_nil (h h' tk F' N'))
    | false => exact ite_ff (h h' tk F' N'))⟩
theorem Ts.and (h1 : Ts fi c l news e b1) (h2 : b1 = true → Ts fi c l news (.BoolOp .And (e2 :: es) p) b2) : Ts fi c l news (.BoolOp .And (e :: e2 :: es) p) (b1 && b2) := ⟨fun s Q F N h =>
  isTrue_and (h1.h s _ F N fun h' tk F' N' => by
    cases b1 with
    | true => exact ite_tt (ts_any ((h2 rfl).h { s with heap := h', toks := tk } _ F' N' h))
    | false => exact ite_ff (h h' tk F' N'))⟩
theorem Ts.or1 (h1 : Ts fi c l news e b) : Ts fi c l news (.BoolOp .Or [e] p) b := ⟨fun s Q F N h =>
  isTrue_or (h1.h s _ F N fun h' tk F' N' => by
    cases b with
    | true => exact ite_tt (h h' tk F' N')
    | false => exact ite_ff (isTrue_or_nil (h h' tk F' N')))⟩
theorem Ts.or (h1 : Ts fi c l news e b1) (h2 : b1 = false → Ts fi c l news (.BoolOp .Or (e2 :: es) p) b2) : Ts fi c l news (.BoolOp .Or (e :: e2 :: es) p) (b1 || b2) := ⟨fun s Q F N h =>
  isTrue_or (h1.h s _ F N fun h' tk F' N' => by
    cases b1 with
    | true => exact ite_tt (h h' tk F' N')
    | false => exact ite_ff (ts_any ((h2 rfl).h { s with heap := h', toks := tk } _ F' N' h)))⟩
/-- a value by a test: one term, no two ways -/
theorem Ev.ifE {α : Type} {x y : α} (mk : α → Tok → Value) (T : Ts fi c l news e b) (h1 : b = true → Ev fi c l news e1 (mk x)) (h2 : b = false → Ev fi c l news e2 (mk y)) : Ev fi c l news (.IfExp e e1 e2 p) (mk (if b = true then x else y)) := ⟨fun s Q F N k =>
  wpAny_IfExp (T.h s _ F N fun h' tk F' N' => by
    cases b with
    | true => exact ite_tt ((h1 rfl).h { s with heap := h', toks := tk } _ F' N' k)
    | false => exact ite_ff ((h2 rfl).h { s with heap := h', toks := tk } _ F' N' k))⟩
theorem Bd.val (h : Ev fi c l news e f) : Bd fi c l news (.Return (some e) p :: st) (Pure news f) := Bd.ret (Rt.ev h fun t => ⟨rfl, t, rfl⟩)
theorem Bd.ifV {α : Type} {x y : α} (mk : α → Tok → Value) (T : Ts fi c l news e b) (h1 : b = true → Ev fi c l news e1 (mk x)) (h2 : b = false → Bd fi c l news st (Pure news (mk y))) : Bd fi c l news (.If e [.Return (some e1) p1] [] p2 :: st) (Pure news (mk (if b = true then x else y))) :=
  Bd.ifR T (fun h => by subst h; exact Rt.ev (h1 rfl) fun t => ⟨rfl, t, rfl⟩) (fun h => by subst h; exact h2 rfl)
theorem Ev.cmp {op : CmpOp} (h1 : Ev fi c l news e1 f1) (h2 : Ev fi c l news e2 f2) (hm : behindInMarks op e2 = false)
    (hc : ∀ t1 t2 s Q, Q (.bool b) s → wpAny (model PySem.Challenge.pw_nu0340_01 c.w) (c.A fi) (compareOp op (f1 t1) (f2 t2)) Q c.E s) : Ev fi c l news (.Compare e1 [op] [e2] p) (vv (.bool b)) := ⟨fun s Q F N h =>
  wpAny_Compare1 (h1.h s _ F N fun t1 h' tk F' N' => h2.h _ _ F' N' fun t2 h'' tk2 F'' N'' => hc t1 t2 _ _ (h 0 h'' tk2 F'' N'')) hm⟩
theorem Ev.eqS (h1 : Ev fi c l news e1 (sv x)) (h2 : Ev fi c l news e2 (sv y)) : Ev fi c l news (.Compare e1 [.Eq] [e2] p) (vv (.bool (x == y))) := Ev.cmp h1 h2 (nomarks rfl) fun _ _ _ _ h => eq_str h
theorem Ev.inT {es : List PySem.Expr} {cs : List Str} {k : Nat} {p2 : Pos} (h1 : Ev fi c l news e1 (sv x)) (hc : strsOf es = some cs) (hz : cs.length ≤ 64) : Ev fi c l news (.Compare e1 [.In] [.Tuple es k p2] p) (vv (.bool (cs.any fun y => y == x))) := ⟨fun s Q F N h =>
  wpAny_Compare1 (h1.h s _ F N fun t1 h' tk F' N' => Tuple_ (strs_ev hc _ _ fun vs tk2 hv => kup_newTuple F' N' (fun D h2 F2 N2 _ => in_tupleAt (isStrOf x) ⟨_, (N2 _ (.head _)).1, rfl, 0, rfl⟩ (strs_at hv) (by
    rw [strs_any hv]
    exact h 0 h2 tk2 F2 (cb_drop N2 fun _ h => .tail _ h))) (by rw [strs_len hv]; exact Nat.le_trans hz (Nat.le_of_ble_eq_true rfl)))) rfl⟩
theorem Ev.or1 (h : Ev fi c l news e f) : Ev fi c l news (.BoolOp .Or [e] p) f := ⟨fun s Q F N k => BoolOp_one (h.h s Q F N k)⟩
theorem Ev.and1 (h : Ev fi c l news e f) : Ev fi c l news (.BoolOp .And [e] p) f := ⟨fun s Q F N k => BoolOp_one (h.h s Q F N k)⟩
theorem Ev.or {b1 b2 : Bool} (h1 : Ev fi c l news e1 (vv (.bool b1))) (h2 : b1 = false → Ev fi c l news (.BoolOp .Or (e2 :: es) p) (vv (.bool b2))) : Ev fi c l news (.BoolOp .Or (e1 :: e2 :: es) p) (vv (.bool (b1 || b2))) := ⟨fun s Q F N h =>
  BoolOp_or (h1.h s _ F N fun t h' tk F' N' => PySem.wpAny_truthy_bool (by
    cases b1 with
    | true => exact ite_tt (h t h' tk F' N')
    | false => exact ite_ff ((h2 rfl).h { s with heap := h', toks := tk } _ F' N' h)))⟩
theorem Ev.and {b1 b2 : Bool} (h1 : Ev fi c l news e1 (vv (.bool b1))) (h2 : b1 = true → Ev fi c l news (.BoolOp .And (e2 :: es) p) (vv (.bool b2))) : Ev fi c l news (.BoolOp .And (e1 :: e2 :: es) p) (vv (.bool (b1 && b2))) := ⟨fun s Q F N h =>
  BoolOp_and (h1.h s _ F N fun t h' tk F' N' => PySem.wpAny_truthy_bool (by
    cases b1 with
    | true => exact ite_tt ((h2 rfl).h { s with heap := h', toks := tk } _ F' N' h)
    | false => exact ite_ff (h t h' tk F' N')))⟩
theorem Ev.not {b : Bool} (h : Ev fi c l news e (vv (.bool b))) : Ev fi c l news (.UnaryOp .Not e p) (vv (.bool (!b))) := ⟨fun s Q F N k => by
  refine UnaryOp_ (h.h s _ F N fun t h' tk F' N' => ?_)
  exact not_of (PySem.wpAny_truthy_bool (k t h' tk F' N'))⟩
end
theorem ao_op : AttrOk 60 (Str.ofString "op") := fun P => ⟨none, by kernel_rfl, by kernel_rfl, by kernel_rfl, by kernel_rfl⟩
theorem ao_place : AttrOk 60 (Str.ofString "place") := fun P => ⟨none, by kernel_rfl, by kernel_rfl, by kernel_rfl, by kernel_rfl⟩
theorem ao_type : AttrOk 60 (Str.ofString "type") := fun P => ⟨none, by kernel_rfl, by kernel_rfl, by kernel_rfl, by kernel_rfl⟩
theorem ao_kids : AttrOk 60 (Str.ofString "kids") := fun P => ⟨none, by kernel_rfl, by kernel_rfl, by kernel_rfl, by kernel_rfl⟩
theorem ao_value : AttrOk 60 (Str.ofString "value") := fun P => ⟨none, by kernel_rfl, by kernel_rfl, by kernel_rfl, by kernel_rfl⟩
theorem ao_form : AttrOk 310 (Str.ofString "form") := fun P => ⟨none, by kernel_rfl, by kernel_rfl, by kernel_rfl, by kernel_rfl⟩
theorem ao_size : AttrOk 310 (Str.ofString "size") := fun P => ⟨none, by kernel_rfl, by kernel_rfl, by kernel_rfl, by kernel_rfl⟩
theorem ao_length : AttrOk 310 (Str.ofString "length") := fun P => ⟨none, by kernel_rfl, by kernel_rfl, by kernel_rfl, by kernel_rfl⟩
theorem ao_number : AttrOk 310 (Str.ofString "number") := fun P => ⟨none, by kernel_rfl, by kernel_rfl, by kernel_rfl, by kernel_rfl⟩
section
variable {fi : Fi} {c : Lc} {l : List (Str × Value)} {news : List (Addr × Obj)} {e : PySem.Expr} {p p1 : Pos} {k : Nat} {a ty : Addr} {op f : Str} {pl sz ln nu : Int} {tv kd v : Value} {d : Sd}
theorem n_evOp (he : Ev fi c l news e (vv (.ref a))) (hb : Base e) (h : NodeAt c.w.params news a op pl tv kd v) (O : c.Ok k) : Ev fi c l news (.Attribute e (Str.ofString "op") p) (sv op) := by
  obtain ⟨z, t1, t2, su, h1, h2⟩ := h
  exact Ev.toS (Ev.attr hb he O.X ao_op h1 h2 rfl rfl)
theorem n_evPlace (he : Ev fi c l news e (vv (.ref a))) (hb : Base e) (h : NodeAt c.w.params news a op pl tv kd v) (O : c.Ok k) : Ev fi c l news (.Attribute e (Str.ofString "place") p) (iv pl) := by
  obtain ⟨z, t1, t2, su, h1, h2⟩ := h
  exact Ev.toI (Ev.attr hb he O.X ao_place h1 h2 rfl rfl)
theorem n_evType (he : Ev fi c l news e (vv (.ref a))) (hb : Base e) (h : NodeAt c.w.params news a op pl tv kd v) (hv : handedIn tv = true) (O : c.Ok k) : Ev fi c l news (.Attribute e (Str.ofString "type") p) (vv tv) := by
  obtain ⟨z, t1, t2, su, h1, h2⟩ := h
  exact Ev.attr hb he O.X ao_type h1 h2 rfl hv
theorem n_evKids (he : Ev fi c l news e (vv (.ref a))) (hb : Base e) (h : NodeAt c.w.params news a op pl tv kd v) (hv : handedIn kd = true) (O : c.Ok k) : Ev fi c l news (.Attribute e (Str.ofString "kids") p) (vv kd) := by
  obtain ⟨z, t1, t2, su, h1, h2⟩ := h
  exact Ev.attr hb he O.X ao_kids h1 h2 rfl hv
theorem n_evValue (he : Ev fi c l news e (vv (.ref a))) (hb : Base e) (h : NodeAt c.w.params news a op pl tv kd v) (hv : handedIn v = true) (O : c.Ok k) : Ev fi c l news (.Attribute e (Str.ofString "value") p) (vv v) := by
  obtain ⟨z, t1, t2, su, h1, h2⟩ := h
  exact Ev.attr hb he O.X ao_value h1 h2 rfl hv
theorem t_evForm (he : Ev fi c l news e (vv (.ref ty))) (hb : Base e) (h : TypeAt c.w.params news ty f sz ln nu) (O : c.Ok k) : Ev fi c l news (.Attribute e (Str.ofString "form") p) (sv f) := by
  obtain ⟨z, h1, h2⟩ := h
  exact Ev.toS (Ev.attr hb he O.X ao_form h1 h2 rfl rfl)
theorem t_evSize (he : Ev fi c l news e (vv (.ref ty))) (hb : Base e) (h : TypeAt c.w.params news ty f sz ln nu) (O : c.Ok k) : Ev fi c l news (.Attribute e (Str.ofString "size") p) (iv sz) := by
  obtain ⟨z, h1, h2⟩ := h
  exact Ev.toI (Ev.attr hb he O.X ao_size h1 h2 rfl rfl)
theorem t_evLength (he : Ev fi c l news e (vv (.ref ty))) (hb : Base e) (h : TypeAt c.w.params news ty f sz ln nu) (O : c.Ok k) : Ev fi c l news (.Attribute e (Str.ofString "length") p) (iv ln) := by
  obtain ⟨z, h1, h2⟩ := h
  exact Ev.toI (Ev.attr hb he O.X ao_length h1 h2 rfl rfl)
theorem t_evNumber (he : Ev fi c l news e (vv (.ref ty))) (hb : Base e) (h : TypeAt c.w.params news ty f sz ln nu) (O : c.Ok k) : Ev fi c l news (.Attribute e (Str.ofString "number") p) (iv nu) := by
  obtain ⟨z, h1, h2⟩ := h
  exact Ev.toI (Ev.attr hb he O.X ao_number h1 h2 rfl rfl)
theorem s_evOp (he : Ev fi c l news e (vv (.ref a))) (hb : Base e) (h : SideAt c.w.params news a pl d) (O : c.Ok k) : Ev fi c l news (.Attribute e (Str.ofString "op") p) (sv d.sh.op) := by
  obtain ⟨ty, kids, v, h1, h2, h3⟩ := h
  exact n_evOp he hb h1 O
theorem s_evForm (he : Ev fi c l news e (vv (.ref a))) (hb : Base e) (h : SideAt c.w.params news a pl d) (O : c.Ok k) : Ev fi c l news (.Attribute (.Attribute e (Str.ofString "type") p1) (Str.ofString "form") p) (sv d.form) := by
  obtain ⟨ty, kids, v, h1, h2, h3⟩ := h
  exact t_evForm (n_evType he hb h1 rfl O) base_attr h2 O
end
end Mine
namespace Mine
section
variable {fi : Fi} {c : Lc} {l : List (Str × Value)} {news : List (Addr × Obj)} {x y : Str} {i j : Int} {v : Value} {e e1 e2 fe : PySem.Expr} {es : List PySem.Expr} {p p1 p2 p3 p4 : Pos} {k k2 : Nat} {f f1 f2 g : Tok → Value} {b b1 b2 : Bool} {K Post : Value → List (Addr × Obj) → Prop} {st st1 st2 : List Stmt} {a : Addr}
theorem Rt.tup2 (hn : noStar [e1, e2] = true) (h1 : Ev fi c l news e1 f1) (h2 : Ev fi c l news e2 f2) (hK : ∀ D t1 t2, K (.ref D) ((D, tupObj #[f1 t1, f2 t2]) :: news)) : Rt fi c l news (.Tuple [e1, e2] k p) K := ⟨fun s Q F N h =>
  Tuple_ ((Evs.cons hn h1 (Evs.cons (starEach_cons (env := c.env fi) hn).2 h2 Evs.nil)).h s _ _ F N fun vs h3 tk3 hp F3 N3 => by
    obtain ⟨t1, r, rfl, t2, r2, rfl, rfl⟩ := hp
    exact kup_newTuple F3 N3 (fun D h4 F4 N4 _ => h _ _ h4 tk3 (hK D t1 t2) F4 N4) (Nat.le_of_ble_eq_true rfl))⟩
theorem Bd.unp2 (ok1 : okL fi.cs x = true) (ok2 : okL fi.cs y = true) (hs : ∀ env, swapsWithSole [.Tuple [.Name x p1, .Name y p2] k p3] e p4.line env = pure false) (hw : ∀ env, swappedStores [.Tuple [.Name x p1, .Name y p2] k p3] e env = pure none) (h : Rt fi c l news e Post)
    (hB : ∀ v nw, Post v nw → ∃ tp v1 v2, v = .ref tp ∧ (tp, tupObj #[v1, v2]) ∈ nw ∧ Bd fi c ((y, v2) :: (x, v1) :: l) nw st K) : Bd fi c l news (.Assign [.Tuple [.Name x p1, .Name y p2] k p3] e p4 :: st) K := ⟨fun s Q F N kq =>
  wpAny_execs_cons (Assign_Tuple (h.h s _ F N fun v nw h' tk hP F' N' => by
    obtain ⟨tp, v1, v2, rfl, hm, hb⟩ := hB v nw hP
    refine unpackN_ F' N' (News.isTup N' hm) rfl rfl rfl fun h2 F2 N2 => ?_
    refine assignInOrder_cons (PyProof.Rows.assign_Name (storeL F2 N2 ok1 fun h3 F3 N3 => ?_))
    refine assignInOrder_cons (PyProof.Rows.assign_Name (storeL F3 N3 ok2 fun h4 F4 N4 => ?_))
    exact assignInOrder_nil (hb.h { s with heap := h4, toks := tk + 1 + 1 } Q F4 N4 fun v nw h5 tk5 l5 hv F5 N5 => kq v nw h5 tk5 l5 hv F5 N5)) (hs _) (hw _))⟩
theorem Ts.ltI (h1 : Ev fi c l news e1 (iv i)) (h2 : Ev fi c l news e2 (iv j)) : Ts fi c l news (.Compare e1 [.Lt] [e2] p) (decide (i < j)) := Ts.cmp h1 h2 (nomarks rfl) fun _ _ _ _ h => lt_int h
theorem Ts.gtI (h1 : Ev fi c l news e1 (iv i)) (h2 : Ev fi c l news e2 (iv j)) : Ts fi c l news (.Compare e1 [.Gt] [e2] p) (decide (j < i)) := Ts.cmp h1 h2 (nomarks rfl) fun _ _ _ _ h => gt_int h
end
end Mine
namespace Mine
section
variable {fi : Fi} {c : Lc} {l : List (Str × Value)} {news : List (Addr × Obj)} {x y : Str} {i j : Int} {v : Value} {e e1 e2 fe : PySem.Expr} {p p1 p2 p3 p4 : Pos} {k k2 : Nat} {b b1 b2 : Bool}
theorem Ev.eqI (h1 : Ev fi c l news e1 (iv i)) (h2 : Ev fi c l news e2 (iv j)) : Ev fi c l news (.Compare e1 [.Eq] [e2] p) (vv (.bool (i == j))) := Ev.cmp h1 h2 (nomarks rfl) fun _ _ _ _ h => eq_int h
end
end Mine
namespace Mine
section
variable {fi : Fi} {c : Lc} {l : List (Str × Value)} {news : List (Addr × Obj)} {x y : Str} {i j : Int} {v : Value} {e e1 e2 fe : PySem.Expr} {p p1 p2 p3 p4 : Pos} {k k2 : Nat} {b b1 b2 : Bool} {f f1 f2 : Tok → Value}
theorem glob_len : ∀ P, nsIn (hd.heap_1 P) mainGlobals (Str.ofString "len") = some none := fun P => by kernel_rfl
theorem Ev.lenName (O : c.Ok k) (ok : okG fi.cs (Str.ofString "len") = true) : Ev fi c l news (.Name (Str.ofString "len") p) (vv (.builtin "len")) := ⟨fun s Q F N h =>
  nameX_B F O.X (topRead_of O.T) (glob_len c.w.params) (by rfl) (by decide) (h 0 s.heap s.toks F N) (okG_of ok).1 (okG_of ok).2.1 (okG_of ok).2.2⟩
theorem Ev.lenS (O : c.Ok k) (ok : okG fi.cs (Str.ofString "len") = true) (hn : noStar [e] = true) (h : Ev fi c l news e (sv x)) (hx : (x.length : Int) < 9223372036854775808) : Ev fi c l news (.Call (.Name (Str.ofString "len") p1) [e] [] p) (iv x.length) := ⟨fun s Q F N k =>
  Call_ ((Ev.lenName O ok).h s _ F N fun _ h1 tk1 F1 N1 => by
    rw [(starEach_cons (env := c.env fi) hn).1]
    exact callWith_builtin1 (h.h _ _ F1 N1 fun t h2 tk2 F2 N2 => SBL.len hx (k _ h2 _ F2 N2))) (by rfl)⟩
theorem Ev.lenL {a : Addr} {vs : Array Value} {n : Nat} (O : c.Ok k) (ok : okG fi.cs (Str.ofString "len") = true) (hn : noStar [e] = true) (h : Ev fi c l news e (vv (.ref a))) (hm : (a, W.listOf vs n) ∈ news) (hx : vs.size ≤ 3) : Ev fi c l news (.Call (.Name (Str.ofString "len") p1) [e] [] p) (iv vs.size) := ⟨fun s Q F N k =>
  Call_ ((Ev.lenName O ok).h s _ F N fun _ h1 tk1 F1 N1 => by
    rw [(starEach_cons (env := c.env fi) hn).1]
    exact callWith_builtin1 (h.h _ _ F1 N1 fun t h2 tk2 F2 N2 => Mine.lenL N2 hm hx (k _ h2 _ F2 N2))) (by rfl)⟩
theorem Ev.bin {op : Operator} (h1 : Ev fi c l news e1 f1) (h2 : Ev fi c l news e2 f2) (hc : ∀ t1 t2 s Q, (∀ t tk, Q (f t) { s with toks := tk }) → wpAny (model PySem.Challenge.pw_nu0340_01 c.w) (c.A fi) (binaryOp op (f1 t1) (f2 t2)) Q c.E s) : Ev fi c l news (.BinOp e1 op e2 p) f := ⟨fun s Q F N k =>
  wpAny_BinOp (h1.h s _ F N fun t1 h' tk F' N' => h2.h _ _ F' N' fun t2 h'' tk2 F'' N'' => hc t1 t2 _ _ fun t tk3 => k t h'' tk3 F'' N'')⟩
end
end Mine
namespace Mine
section
variable {fi : Fi} {c : Lc} {l : List (Str × Value)} {news : List (Addr × Obj)} {x y : Str} {i j : Int} {v : Value} {e e1 e2 fe : PySem.Expr} {es : List PySem.Expr} {p p1 p2 p3 p4 : Pos} {k k2 n : Nat} {f f1 f2 g : Tok → Value} {b b1 b2 : Bool} {K K2 Post : Value → List (Addr × Obj) → Prop} {st st1 st2 rest : List Stmt} {a : Addr}
theorem Ev.itemL {vs : Array Value} (hn : decide (0 ≤ i ∧ i < 100) = true) (he : Ev fi c l news e (vv (.ref a))) (hm : (a, W.listOf vs n) ∈ news) (hx : vs.toList[i.toNat]? = some v) (hs : ∀ u, subscripted (.Constant (.int i) k p1) false (.ref a) (.int i u) = operate [.ref a, .int i u] (getItem (.ref a) (.int i u))) : Ev fi c l news (.Subscript e (.Constant (.int i) k p1) p) (vv v) := ⟨fun s Q F N h =>
  Subscript_ (he.h s _ F N fun _ h1 tk1 F1 N1 => PySem.wpAny_Constant_int (Mine.itemL N1 hm hn hx (h 0 h1 (tk1 + 1) F1 N1) (hs _)))⟩
theorem Ev.itemT {vs : List Value} {j : Nat} (hj : seqIndex? i vs.length = some j) (hlo : -(2 ^ 63) ≤ i) (hhi : i < 2 ^ 63) (he : Ev fi c l news e (vv (.ref a))) (hm : (a, tupObj vs.toArray) ∈ news) (hx : vs[j]? = some v) (hs : ∀ u, subscripted (.Constant (.int i) k p1) false (.ref a) (.int i u) = operate [.ref a, .int i u] (getItem (.ref a) (.int i u))) : Ev fi c l news (.Subscript e (.Constant (.int i) k p1) p) (vv v) := ⟨fun s Q F N h =>
  Subscript_ (he.h s _ F N fun _ h1 tk1 F1 N1 => PySem.wpAny_Constant_int (item_tupleT (News.isTup N1 hm) hlo hhi hj hx (h 0 h1 (tk1 + 1) F1 N1) (hs _)))⟩
theorem strs_list {es : List PySem.Expr} {cs : List Str} (h1 : Ev fi c l news e1 (sv x)) (hc : strsOf es = some cs) (hz : cs.length ≤ 64) (s : Shared) (Q : Value → Shared → Prop) (F : Fr c.h₀ c.L s.heap (look l)) (N : News c.h₀ c.L s.heap news) (h : ∀ h' tk, Fr c.h₀ c.L h' (look l) → News c.h₀ c.L h' news → Q (.bool (cs.any fun y => y == x)) { s with heap := h', toks := tk }) :
    wpAny (model PySem.Challenge.pw_nu0340_01 c.w) (c.A fi) (eval e1 (c.env fi)) (fun a s₁ => wpAny (model PySem.Challenge.pw_nu0340_01 c.w) (c.A fi) (eval (.List es p2) (c.env fi)) (fun b s₂ => wpAny (model PySem.Challenge.pw_nu0340_01 c.w) (c.A fi) (compareOp .In a b) Q c.E s₂) c.E s₁) c.E s :=
  h1.h s _ F N fun t1 h' tk F' N' => List_ (strs_ev hc _ _ fun vs tk2 hv => newList_K F' N' (fun D h2 F2 N2 _ => in_listAt (isStrOf x) ⟨_, (N2 _ (.head _)).1, rfl, _, rfl⟩ (strs_at hv) (by
    rw [strs_any hv]
    exact h h2 tk2 F2 (cb_drop N2 fun _ h => .tail _ h))) (by rw [strs_len hv]; exact Nat.le_trans hz (Nat.le_of_ble_eq_true rfl)))
theorem Ts.inL {cs : List Str} (h1 : Ev fi c l news e1 (sv x)) (hc : strsOf es = some cs) (hz : cs.length ≤ 64) : Ts fi c l news (.Compare e1 [.In] [.List es p2] p) (cs.any fun y => y == x) := ⟨fun s Q F N h =>
  wpAny_isTrue_Compare1 (strs_list h1 hc hz s _ F N fun h' tk F' N' => PySem.wpAny_truthy_bool (h h' tk F' N')) rfl⟩
theorem Ev.inL {cs : List Str} (h1 : Ev fi c l news e1 (sv x)) (hc : strsOf es = some cs) (hz : cs.length ≤ 64) : Ev fi c l news (.Compare e1 [.In] [.List es p2] p) (vv (.bool (cs.any fun y => y == x))) := ⟨fun s Q F N h =>
  wpAny_Compare1 (strs_list h1 hc hz s _ F N fun h' tk F' N' => h 0 h' tk F' N') rfl⟩
theorem Bd.conv (h : Bd fi c l news st K2) (hc : ∀ v nw, K2 v nw → ∃ nw', K v nw' ∧ ∀ q ∈ nw', q ∈ nw) : Bd fi c l news st K := ⟨fun s Q F N k =>
  h.h s Q F N fun v nw h' tk l' hv F' N' => by
    obtain ⟨nw', h1, h2⟩ := hc v nw hv
    exact k v nw' h' tk l' h1 F' (cb_drop N' h2)⟩
/-- an if whose body ends by a return on every way -/
theorem Bd.ifK {α : Type} {x y : α} (Kf : α → Value → List (Addr × Obj) → Prop) (T : Ts fi c l news e b) (h1 : b = true → Bd fi c l news st1 (Kf x)) (h2 : b = false → Bd fi c l news st (Kf y)) : Bd fi c l news (.If e st1 [] p2 :: st) (Kf (if b = true then x else y)) := ⟨fun s Q F N k =>
  wpAny_execs_cons (wpAny_If (T.h s _ F N fun h' tk F' N' => by
    cases b with
    | true => exact ite_tt ((h1 rfl).h { s with heap := h', toks := tk } _ F' N' fun v nw h2 tk2 l2 hv F2 N2 => k v nw h2 tk2 l2 hv F2 N2)
    | false => exact ite_ff <| wpAny_pure (a := Flow.next) ((h2 rfl).h { s with heap := h', toks := tk } _ F' N' fun v nw h3 tk2 l' hv F2 N2 => k v nw h3 tk2 l' hv F2 N2)))⟩
/-- a body that ends by a return or falls through, the frame and the ledger then as R says -/
structure Bx (fi : Fi) (c : Lc) (l : List (Str × Value)) (news : List (Addr × Obj)) (st : List Stmt) (K : Value → List (Addr × Obj) → Prop) (R : List (Str × Value) → List (Addr × Obj) → Prop) : Prop where
  h : ∀ (s : Shared) (Q : Flow → Shared → Prop), Fr c.h₀ c.L s.heap (look l) → News c.h₀ c.L s.heap news → (∀ v nw h' tk l', K v nw → Fr c.h₀ c.L h' (look l') → News c.h₀ c.L h' nw → Q (.ret v) { s with heap := h', toks := tk }) →
    (∀ l' nw h' tk, R l' nw → Fr c.h₀ c.L h' (look l') → News c.h₀ c.L h' nw → Q .next { s with heap := h', toks := tk }) → wpAny (model PySem.Challenge.pw_nu0340_01 c.w) (c.A fi) (execs st (c.env fi)) Q c.E s
variable {R : List (Str × Value) → List (Addr × Obj) → Prop}
theorem Bx.nil (h : R l news) : Bx fi c l news [] K R := ⟨fun s Q F N _ kn => wpAny_execs_nil (kn l news s.heap s.toks h F N)⟩
theorem Bx.ifR (T : Ts fi c l news e b) (h1 : b = true → Rt fi c l news e1 K) (h2 : b = false → Bx fi c l news st K R) : Bx fi c l news (.If e [.Return (some e1) p1] [] p2 :: st) K R := ⟨fun s Q F N k kn =>
  wpAny_execs_cons (wpAny_If (T.h s _ F N fun h' tk F' N' => by
    cases b with
    | true => exact ite_tt <| wpAny_execs_cons (PySem.wpAny_Return_some ((h1 rfl).h { s with heap := h', toks := tk } _ F' N' fun v nw h2 tk2 hv F2 N2 => k v nw h2 tk2 l hv F2 N2))
    | false => exact ite_ff <| wpAny_pure (a := Flow.next) ((h2 rfl).h { s with heap := h', toks := tk } _ F' N' (fun v nw h3 tk2 l' hv F2 N2 => k v nw h3 tk2 l' hv F2 N2) (fun l' nw h3 tk2 hr F2 N2 => kn l' nw h3 tk2 hr F2 N2))))⟩
theorem Bx.asgR (ok : okL fi.cs x = true) (hs : ∀ env, swapsWith e (some (.Name x p1)) p2.line env = pure false) (h : Rt fi c l news e Post) (hB : ∀ v nw, Post v nw → Bx fi c ((x, v) :: l) nw st K R) : Bx fi c l news (.Assign [.Name x p1] e p2 :: st) K R := ⟨fun s Q F N k kn =>
  wpAny_execs_cons (PySem.wpAny_Assign_Name (h.h s _ F N fun v nw h' tk hP F' N' => storeL F' N' ok fun h2 F2 N2 => (hB v nw hP).h { s with heap := h2, toks := tk + 1 } Q F2 N2 (fun v nw h3 tk3 l3 hv F3 N3 => k v nw h3 tk3 l3 hv F3 N3) (fun l' nw h3 tk3 hr F3 N3 => kn l' nw h3 tk3 hr F3 N3)) (hs _))⟩
theorem Bd.ifX (T : Ts fi c l news e b) (h1 : b = true → Bx fi c l news st1 K R) (h2 : b = false → Bx fi c l news st2 K R) (h3 : ∀ l' nw, R l' nw → Bd fi c l' nw st K) : Bd fi c l news (.If e st1 st2 p :: st) K := ⟨fun s Q F N k =>
  wpAny_execs_cons (wpAny_If (T.h s _ F N fun h' tk F' N' => by
    have hx : ∀ stx, Bx fi c l news stx K R → wpAny (model PySem.Challenge.pw_nu0340_01 c.w) (c.A fi) (execs stx (c.env fi)) (fun f s' => match f with | .next => wpAny (model PySem.Challenge.pw_nu0340_01 c.w) (c.A fi) (execs st (c.env fi)) Q c.E s' | f => Q f s') c.E { s with heap := h', toks := tk } := fun stx hb =>
      hb.h { s with heap := h', toks := tk } _ F' N' (fun v nw h4 tk4 l4 hv F4 N4 => k v nw h4 tk4 l4 hv F4 N4) (fun l' nw h4 tk4 hr F4 N4 => (h3 l' nw hr).h { s with heap := h4, toks := tk4 } Q F4 N4 fun v nw h5 tk5 l5 hv F5 N5 => k v nw h5 tk5 l5 hv F5 N5)
    cases b with
    | true => exact ite_tt (hx _ (h1 rfl))
    | false => exact ite_ff (hx _ (h2 rfl))))⟩
end
end Mine
namespace Mine
theorem Bd.ifF {fi : Fi} {c : Lc} {l : List (Str × Value)} {news : List (Addr × Obj)} {e : PySem.Expr} {p2 : Pos} {K : Value → List (Addr × Obj) → Prop} {st st1 : List Stmt} (T : Ts fi c l news e false) (h2 : Bd fi c l news st K) : Bd fi c l news (.If e st1 [] p2 :: st) K := ⟨fun s Q F N k =>
  wpAny_execs_cons (wpAny_If (T.h s _ F N fun h' tk F' N' => ite_ff <| wpAny_pure (a := Flow.next) (h2.h { s with heap := h', toks := tk } _ F' N' fun v nw h3 tk2 l' hv F2 N2 => k v nw h3 tk2 l' hv F2 N2)))⟩
theorem Ts.fnNot {fi : Fi} {c : Lc} {l : List (Str × Value)} {news : List (Addr × Obj)} {e1 : PySem.Expr} {x : Str} {p p1 p2 : Pos} {k : Nat} (h1 : Ev fi c l news e1 (sv x)) (O : c.Ok k) (hO : 6 ≤ k) (hk : fi.cs.kind = .function) (g : GlobOk (Str.ofString "_law_functions") (.ref 399)) (ok : okG fi.cs (Str.ofString "_law_functions") = true)
    (C : CallOk c.w 399 5 news [] (fun r nw => ∃ d o, r = .ref d ∧ nw = (d, o) :: news ∧ (∀ p ∈ news, p.1 < d) ∧ FnAt c.w d o)) : Ts fi c l news (.Compare e1 [.NotIn] [.Call (.Name (Str.ofString "_law_functions") p1) [] [] p2] p) (!isF x) := ⟨fun s Q F N h =>
  wpAny_isTrue_Compare1 (h1.h s _ F N fun t1 h' tk F' N' => Call_ ((Ev.glob O g ok).h _ _ F' N' fun _ h2 tk2 F2 N2 => callWith_K0 (O.X.keeps F2.keep) (g c.w.params).2 (C.use O.B F2 O.X N2 O.T hk (by have := O.hd; omega) (by have := O.hu; omega) fun r nw h3 tk3 F3 N3 hh => by
    obtain ⟨d, o, e1, e2, _, hf⟩ := hh
    subst e1; subst e2
    exact fn_notin N3 (.head _) hf (PySem.wpAny_truthy_bool (h h3 _ F3 (cb_drop N3 fun _ h => .tail _ h))))) (by rfl)) rfl⟩
end Mine
namespace Mine
section
variable {fi : Fi} {c : Lc} {l : List (Str × Value)} {news : List (Addr × Obj)} {i : Int} {v : Value} {e : PySem.Expr} {p p1 : Pos} {k n : Nat} {a : Addr}
theorem Ev.tupN {vs : List Value} {j : Nat} (he : Ev fi c l news e (vv (.ref a))) (hm : (a, tupObj vs.toArray) ∈ news) (hj : seqIndex? i vs.length = some j) (hlo : -(2 ^ 63) ≤ i) (hhi : i < 2 ^ 63) (hx : vs[j]? = some v) (hs : ∀ u, subscripted (.Constant (.int i) k p1) false (.ref a) (.int i u) = operate [.ref a, .int i u] (getItem (.ref a) (.int i u))) : Ev fi c l news (.Subscript e (.Constant (.int i) k p1) p) (vv v) :=
  Ev.itemT hj hlo hhi he hm hx hs
theorem Ev.lstN {vs : Array Value} (he : Ev fi c l news e (vv (.ref a))) (hm : (a, W.listOf vs n) ∈ news) (hx : vs.toList[i.toNat]? = some v) (hn : decide (0 ≤ i ∧ i < 100) = true) (hs : ∀ u, subscripted (.Constant (.int i) k p1) false (.ref a) (.int i u) = operate [.ref a, .int i u] (getItem (.ref a) (.int i u))) : Ev fi c l news (.Subscript e (.Constant (.int i) k p1) p) (vv v) :=
  Ev.itemL hn he hm hx hs
end
end Mine
namespace Mine
section
variable {fi : Fi} {c : Lc} {l : List (Str × Value)} {news : List (Addr × Obj)} {i j k : Int} {e e1 e2 e3 : PySem.Expr} {p p1 p2 : Pos} {n : Nat} {b : Bool} {K : Value → List (Addr × Obj) → Prop} {st st1 : List Stmt}
theorem Ts.range (h1 : Ev fi c l news e1 (iv i)) (h2 : Ev fi c l news e2 (iv j)) (h3 : Ev fi c l news e3 (iv k)) : Ts fi c l news (.Compare e1 [.LtE, .Lt] [e2, e3] p) (decide (i ≤ j) && decide (j < k)) := ⟨fun s Q F N kq =>
  isTrue_chain (h1.h s _ F N fun t1 g1 tk1 F1 N1 => test_link (h2.h _ _ F1 N1 fun t2 g2 tk2 F2 N2 => PyProof.Rows.le_int (PySem.wpAny_truthy_bool (by
    generalize decide (i ≤ j) = b1 at kq ⊢
    cases b1 with
    | true => exact ite_tt (test_last (h3.h _ _ F2 N2 fun t3 g3 tk3 F3 N3 => PyProof.Rows.lt_int (PySem.wpAny_truthy_bool (by rw [Bool.true_and] at kq; exact kq g3 tk3 F3 N3))))
    | false => exact ite_ff (by rw [Bool.false_and] at kq; exact kq g2 tk2 F2 N2))))) (nomarks rfl : behindInMarks .Lt e3 = false)⟩
theorem Ts.notNoneN (h : Ev fi c l news e (vv .none)) : Ts fi c l news (.Compare e [.IsNot] [.Constant .none n p1] p) false := Ts.cmp h Ev.none (nomarks rfl) fun _ _ _ _ h => wpAny_isNot_plain rfl h
theorem Ts.notNoneI (h : Ev fi c l news e (iv i)) : Ts fi c l news (.Compare e [.IsNot] [.Constant .none n p1] p) true := Ts.cmp h Ev.none (nomarks rfl) fun _ _ _ _ h => wpAny_isNot_plain rfl h
theorem Bd.ifN (T : Ts fi c l news e b) (hb : b = false) (h2 : Bd fi c l news st K) : Bd fi c l news (.If e st1 [] p2 :: st) K := Bd.ifF (hb ▸ T) h2
theorem Ts.ninL {es : List PySem.Expr} {x : Str} {cs : List Str} (h1 : Ev fi c l news e1 (sv x)) (hc : strsOf es = some cs) (hz : cs.length ≤ 64) : Ts fi c l news (.Compare e1 [.NotIn] [.List es p2] p) (!(cs.any fun y => y == x)) := ⟨fun s Q F N h =>
  wpAny_isTrue_Compare1 (h1.h s _ F N fun t1 h' tk F' N' => List_ (strs_ev hc _ _ fun vs tk2 hv => newList_K F' N' (fun D h2 F2 N2 _ => notIn_listAt (isStrOf x) ⟨_, (N2 _ (.head _)).1, rfl, _, rfl⟩ (strs_at hv) (by
    rw [strs_any hv]
    exact PySem.wpAny_truthy_bool (h h2 tk2 F2 (cb_drop N2 fun _ h => .tail _ h)))) (by rw [strs_len hv]; exact Nat.le_trans hz (Nat.le_of_ble_eq_true rfl)))) rfl⟩
end
end Mine
namespace Mine
theorem ne_no {b : Bool} (h : b = false) : ¬ b = true := by rw [h]; decide
theorem noStar_tl {e : PySem.Expr} {r : List PySem.Expr} (h : noStar (e :: r) = true) : noStar r = true := (noStar_cons h).2
/-- a row of arguments that may add to the ledger -/
structure Rs (fi : Fi) (c : Lc) (l : List (Str × Value)) (news : List (Addr × Obj)) (es : List PySem.Expr) (P : List Value → List (Addr × Obj) → Prop) : Prop where
  h : ∀ (s : Shared) (pos : Pos) (Q : List Value → Shared → Prop), Fr c.h₀ c.L s.heap (look l) → News c.h₀ c.L s.heap news → (∀ vs nw h' tk, P vs nw → Fr c.h₀ c.L h' (look l) → News c.h₀ c.L h' nw → Q vs { s with heap := h', toks := tk }) →
    wpAny (model PySem.Challenge.pw_nu0340_01 c.w) (c.A fi) (spliced (backTo pos (starEach es (c.env fi)))) Q c.E s
section
variable {fi : Fi} {c : Lc} {l : List (Str × Value)} {news : List (Addr × Obj)} {x y : Str} {i j : Int} {v : Value} {e e1 e2 fe : PySem.Expr} {es : List PySem.Expr} {p p1 p2 p3 p4 : Pos} {k k2 n : Nat} {f f1 f2 g : Tok → Value} {b b1 b2 : Bool} {K K1 K2 Post : Value → List (Addr × Obj) → Prop} {st st1 st2 rest : List Stmt} {a : Addr} {P : List Value → List (Addr × Obj) → Prop} {R R1 : List (Str × Value) → List (Addr × Obj) → Prop}
theorem Rs.nil (h : P [] news) : Rs fi c l news [] P := ⟨fun s _ Q F N k => args_nil (k [] news s.heap s.toks h F N)⟩
theorem Rs.cons (hn : noStar (e :: es) = true) (h1 : Rt fi c l news e K) (h2 : ∀ v nw, K v nw → Rs fi c l nw es (fun vs nw' => P (v :: vs) nw')) : Rs fi c l news (e :: es) P := ⟨fun s _ Q F N k =>
  args_cons (h1.h s _ F N fun v nw h' tk hv F' N' => (h2 v nw hv).h _ _ _ F' N' fun vs nw2 h2 tk2 hp F2 N2 => k (v :: vs) nw2 h2 tk2 hp F2 N2) (starEach_cons hn).1⟩
theorem Rs.ev (hn : noStar (e :: es) = true) (h1 : Ev fi c l news e f) (h2 : ∀ t, Rs fi c l news es (fun vs nw' => P (f t :: vs) nw')) : Rs fi c l news (e :: es) P := ⟨fun s _ Q F N k =>
  args_cons (h1.h s _ F N fun t h' tk F' N' => (h2 t).h _ _ _ F' N' fun vs nw2 h2 tk2 hp F2 N2 => k (f t :: vs) nw2 h2 tk2 hp F2 N2) (starEach_cons hn).1⟩
/-- a call by its contract, the arguments any -/
theorem Rt.callC (O : c.Ok k2) (hO : k + 1 ≤ k2) (hk : fi.cs.kind = .function) (g : GlobOk x (.ref a)) (ok : okG fi.cs x = true) (hn : noStar (e :: es) = true) (ha : Rs fi c l news (e :: es) fun vs nw => CallOk c.w a k nw vs K) : Rt fi c l news (.Call (.Name x p1) (e :: es) [] p) K := ⟨fun s Q F N h =>
  Call_ ((Ev.glob (k := k2) O g ok).h s _ F N fun t h1 tk F1 N1 => callWith_K O.X (g c.w.params).2 (ha.h _ _ _ F1 N1 fun vs nw h2 tk2 C F2 N2 => ⟨O.X.keeps F2.keep, C.use O.B F2 O.X N2 O.T hk (by have := O.hd; omega) (by have := O.hu; omega) fun r nw h3 tk3 F3 N3 hP => h r nw h3 tk3 hP F3 N3⟩) (starEach_cons hn).1 (noStar_any (starEach_cons (env := c.env fi) hn).2)) (by rfl)⟩
theorem Rt.mono (h : Rt fi c l news e K1) (hK : ∀ v nw, K1 v nw → K v nw) : Rt fi c l news e K := ⟨fun s Q F N k => h.h s Q F N fun v nw h' tk hv F' N' => k v nw h' tk (hK v nw hv) F' N'⟩
theorem Rt.conv (h : Rt fi c l news e K1) (hK : ∀ v nw, K1 v nw → ∃ nw', K v nw' ∧ ∀ q ∈ nw', q ∈ nw) : Rt fi c l news e K := ⟨fun s Q F N k => h.h s Q F N fun v nw h' tk hv F' N' => by
  obtain ⟨nw', h1, h2⟩ := hK v nw hv
  exact k v nw' h' tk h1 F' (cb_drop N' h2)⟩
theorem Rt.list (ha : Rs fi c l news es fun vs nw => vs.length ≤ 64 ∧ ∀ D, K (.ref D) ((D, W.listOf vs.toArray 0) :: nw)) : Rt fi c l news (.List es p) K := ⟨fun s Q F N h =>
  List_ (ha.h s _ _ F N fun vs nw h2 tk2 ⟨hz, hK⟩ F2 N2 => newList_K F2 N2 (fun D h3 F3 N3 _ => h _ _ h3 tk2 (hK D) F3 N3) (Nat.le_trans hz (Nat.le_of_ble_eq_true rfl)))⟩
theorem Ts.conv (h : Ts fi c l news e b1) (hb : b1 = b) : Ts fi c l news e b := hb ▸ h
theorem Ts.eqB (h : Ts fi c l news e b1) (hb : b1 = b) : Ts fi c l news e b := hb ▸ h
/-- an if whose body ends by a return or falls through -/
theorem Bx.ifX (T : Ts fi c l news e b) (h1 : b = true → Bx fi c l news st1 K R1) (h2 : b = false → Bx fi c l news st2 K R1) (h3 : ∀ l' nw, R1 l' nw → Bx fi c l' nw st K R) : Bx fi c l news (.If e st1 st2 p :: st) K R := ⟨fun s Q F N k kn =>
  wpAny_execs_cons (wpAny_If (T.h s _ F N fun h' tk F' N' => by
    have hx : ∀ stx, Bx fi c l news stx K R1 → wpAny (model PySem.Challenge.pw_nu0340_01 c.w) (c.A fi) (execs stx (c.env fi)) (fun f s' => match f with | .next => wpAny (model PySem.Challenge.pw_nu0340_01 c.w) (c.A fi) (execs st (c.env fi)) Q c.E s' | f => Q f s') c.E { s with heap := h', toks := tk } := fun stx hb =>
      hb.h { s with heap := h', toks := tk } _ F' N' (fun v nw h4 tk4 l4 hv F4 N4 => k v nw h4 tk4 l4 hv F4 N4) (fun l' nw h4 tk4 hr F4 N4 => (h3 l' nw hr).h { s with heap := h4, toks := tk4 } Q F4 N4 (fun v nw h5 tk5 l5 hv F5 N5 => k v nw h5 tk5 l5 hv F5 N5) (fun l5 nw h5 tk5 hr5 F5 N5 => kn l5 nw h5 tk5 hr5 F5 N5))
    cases b with
    | true => exact ite_tt (hx _ (h1 rfl))
    | false => exact ite_ff (hx _ (h2 rfl))))⟩
/-- a body that ends by a return, as one that may fall through -/
theorem Bx.ofBd (h : Bd fi c l news st K) : Bx fi c l news st K R := ⟨fun s Q F N k _ => h.h s Q F N k⟩
theorem Bd.mono (h : Bd fi c l news st K1) (hK : ∀ v nw, K1 v nw → K v nw) : Bd fi c l news st K := ⟨fun s Q F N k => h.h s Q F N fun v nw h' tk l' hv F' N' => k v nw h' tk l' (hK v nw hv) F' N'⟩
theorem Bd.ifXl (R : List (Str × Value) → List (Str × Value) → List (Addr × Obj) → Prop) (T : Ts fi c l news e b) (h1 : b = true → Bx fi c l news st1 K (R l)) (h2 : b = false → Bx fi c l news st2 K (R l)) (h3 : ∀ l' nw, R l l' nw → Bd fi c l' nw st K) : Bd fi c l news (.If e st1 st2 p :: st) K := Bd.ifX T h1 h2 h3
/-- an if that goes the one way -/
theorem Bd.ifT (T : Ts fi c l news e b) (hb : b = true) (h1 : Bx fi c l news st1 K fun l' nw => Bd fi c l' nw st K) : Bd fi c l news (.If e st1 st2 p :: st) K := by
  subst hb
  exact Bd.ifX T (fun _ => h1) (fun h => by cases h) fun _ _ h => h
theorem Bd.ifE (T : Ts fi c l news e b) (hb : b = false) (h1 : Bx fi c l news st2 K fun l' nw => Bd fi c l' nw st K) : Bd fi c l news (.If e st1 st2 p :: st) K := by
  subst hb
  exact Bd.ifX T (fun h => by cases h) (fun _ => h1) fun _ _ h => h
theorem Bx.ifT (T : Ts fi c l news e b) (hb : b = true) (h1 : Bx fi c l news st1 K fun l' nw => Bx fi c l' nw st K R) : Bx fi c l news (.If e st1 st2 p :: st) K R := by
  subst hb
  exact Bx.ifX T (fun _ => h1) (fun h => by cases h) fun _ _ h => h
theorem Bx.ifE (T : Ts fi c l news e b) (hb : b = false) (h1 : Bx fi c l news st2 K fun l' nw => Bx fi c l' nw st K R) : Bx fi c l news (.If e st1 st2 p :: st) K R := by
  subst hb
  exact Bx.ifX T (fun h => by cases h) (fun _ => h1) fun _ _ h => h
theorem Bx.asg (ok : okL fi.cs x = true) (hs : ∀ env, swapsWith e (some (.Name x p1)) p2.line env = pure false) (h : Ev fi c l news e f) (hB : ∀ t, Bx fi c ((x, f t) :: l) news st K R) : Bx fi c l news (.Assign [.Name x p1] e p2 :: st) K R :=
  Bx.asgR ok hs (Rt.ev (K := fun v nw => (∃ t, v = f t) ∧ nw = news) h fun t => ⟨⟨t, rfl⟩, rfl⟩) fun v nw ⟨⟨t, e1⟩, e2⟩ => by
    subst e1; subst e2; exact hB t
theorem Ev.gtI (h1 : Ev fi c l news e1 (fun t => .int i t)) (h2 : Ev fi c l news e2 (fun t => .int j t)) : Ev fi c l news (.Compare e1 [.Gt] [e2] p) (vv (.bool (decide (j < i)))) := Ev.cmp h1 h2 (nomarks rfl) fun _ _ _ _ h => gt_int h
end
end Mine
namespace Mine
/-- an expression's value inside a list display's block, its name x being v -/
structure Ec (fi : Fi) (c : Lc) (news : List (Addr × Obj)) (x : Str) (sc : Scope) (v : Value) (e : PySem.Expr) (f : Tok → Value) : Prop where
  h : ∀ (s : Shared) (Q : Value → Shared → Prop) (E' : Value → Shared → Prop) (m m₂ : Str → Option Value) (nw : List (Addr × Obj)) (C : Addr) (oC : Obj), Fr c.h₀ c.L s.heap m → News c.h₀ c.L s.heap nw → (∀ q ∈ news, q ∈ nw) → (C, oC) ∈ nw → LCg.NsObj oC m₂ → m₂ x = some v →
    (∀ t h' tk, Fr c.h₀ c.L h' m → News c.h₀ c.L h' nw → Q (f t) { s with heap := h', toks := tk }) → wpAny (model PySem.Challenge.pw_nu0340_01 c.w) (c.A fi) (eval e (compEnvC sc [] C (c.env fi))) Q E' s
/-- a test inside the block -/
structure Tc (fi : Fi) (c : Lc) (news : List (Addr × Obj)) (x : Str) (sc : Scope) (v : Value) (e : PySem.Expr) (b : Bool) : Prop where
  h : ∀ (s : Shared) (Q : Bool → Shared → Prop) (E' : Value → Shared → Prop) (m m₂ : Str → Option Value) (nw : List (Addr × Obj)) (C : Addr) (oC : Obj), Fr c.h₀ c.L s.heap m → News c.h₀ c.L s.heap nw → (∀ q ∈ news, q ∈ nw) → (C, oC) ∈ nw → LCg.NsObj oC m₂ → m₂ x = some v →
    (∀ h' tk, Fr c.h₀ c.L h' m → News c.h₀ c.L h' nw → Q b { s with heap := h', toks := tk }) → wpAny (model PySem.Challenge.pw_nu0340_01 c.w) (c.A fi) (isTrue e (compEnvC sc [] C (c.env fi)) (eval e (compEnvC sc [] C (c.env fi)))) Q E' s
section
variable {fi : Fi} {c : Lc} {l : List (Str × Value)} {news : List (Addr × Obj)} {x y : Str} {i j : Int} {v : Value} {e e1 e2 elt iter ct : PySem.Expr} {p p1 p2 p3 p4 : Pos} {k n : Nat} {f : Tok → Value} {b : Bool} {K : Value → List (Addr × Obj) → Prop} {a : Addr} {sc : Scope}
theorem Ec.var (ok : okL sc x = true) : Ec fi c news x sc v (.Name x p) (vv v) := ⟨fun s Q E' m m₂ nw C oC F N sub hC ho hx k => by
  obtain ⟨h1, h2, h3⟩ := okL_of ok
  exact ldVarK (ho.ns (N _ hC).1) hx (k 0 s.heap s.toks F N) h1 (lookup_relabel_local h2) h3⟩
theorem Ec.attr {dx C : Addr} {es : List DictEntry} {n : Nat} (hb : Base e) (he : Ec fi c news x sc v e (vv (.ref a))) (X : (hd.heap_1 c.w.params).In c.h₀) (ha : AttrOk C y) (h1 : (a, instObj C dx) ∈ news) (h2 : (dx, dictOf es n) ∈ news) {u : Value} (hl : getL y es = some (some u)) (hv : handedIn u = true) : Ec fi c news x sc v (.Attribute e y p) (vv u) := ⟨fun s Q E' m m₂ nw C oC F N sub hC ho hx k => by
  obtain ⟨attr, q1, q2, q3, q4⟩ := ha c.w.params
  exact Attribute_any_ (he.h s _ E' m m₂ nw C oC F N sub hC ho hx fun t h' tk F' N' => get_own F' X (InstAt.of_news N' (sub _ h1) (sub _ h2)) q1 q2 q3 q4 hl hv (k 0 h' (tk + 1) F' N')) (hb _ _ _)⟩
theorem Ec.item {vs : List Value} {j : Nat} {u : Value} (hj : seqIndex? i vs.length = some j) (hlo : -(2 ^ 63) ≤ i) (hhi : i < 2 ^ 63) (he : Ec fi c news x sc v e (vv (.ref a))) (hm : (a, tupObj vs.toArray) ∈ news) (hx : vs[j]? = some u) (hs : ∀ u, subscripted (.Constant (.int i) k p1) false (.ref a) (.int i u) = operate [.ref a, .int i u] (getItem (.ref a) (.int i u))) : Ec fi c news x sc v (.Subscript e (.Constant (.int i) k p1) p) (vv u) := ⟨fun s Q E' m m₂ nw C oC F N sub hC ho hx' k =>
  Subscript_ (he.h s _ E' m m₂ nw C oC F N sub hC ho hx' fun _ h1 tk1 F1 N1 => PySem.wpAny_Constant_int (item_tupleT (News.isTup N1 (sub _ hm)) hlo hhi hj hx (k 0 h1 (tk1 + 1) F1 N1) (hs _)))⟩
theorem Ec.int : Ec fi c news x sc v (.Constant (.int i) k p) (iv i) := ⟨fun s Q E' m m₂ nw C oC F N sub hC ho hx k => PySem.wpAny_Constant_int (k s.toks s.heap (s.toks + 1) F N)⟩
theorem Tc.isNoneN (he : Ec fi c news x sc v e (vv .none)) : Tc fi c news x sc v (.Compare e [.Is] [.Constant .none k p1] p) true := ⟨fun s Q E' m m₂ nw C oC F N sub hC ho hx k =>
  wpAny_isTrue_Compare1 (he.h s _ E' m m₂ nw C oC F N sub hC ho hx fun t h' tk F' N' => PySem.wpAny_Constant_none (wpAny_is_plain rfl (PySem.wpAny_truthy_bool (k h' tk F' N')))) (nomarks rfl)⟩
theorem Tc.isNoneI {t : Tok} (he : Ec fi c news x sc v e (vv (.int i t))) : Tc fi c news x sc v (.Compare e [.Is] [.Constant .none k p1] p) false := ⟨fun s Q E' m m₂ nw C oC F N sub hC ho hx k =>
  wpAny_isTrue_Compare1 (he.h s _ E' m m₂ nw C oC F N sub hC ho hx fun t h' tk F' N' => PySem.wpAny_Constant_none (wpAny_is_plain rfl (PySem.wpAny_truthy_bool (k h' tk F' N')))) (nomarks rfl)⟩
/-- the values of a list display over a list -/
inductive Els (R : Value → (Tok → Value) → Prop) : List Value → List (Tok → Value) → Prop
  | nil : Els R [] []
  | cons {v f vs fs} : R v f → Els R vs fs → Els R (v :: vs) (f :: fs)
inductive ValsOf : List (Tok → Value) → List Value → Prop
  | nil : ValsOf [] []
  | cons {f : Tok → Value} {t fs vs} : ValsOf fs vs → ValsOf (f :: fs) (f t :: vs)
theorem comp_rest {lo : Addr × Obj} {vs : List Value} {s : Shared} {Q : Value → Shared → Prop} {m : Str → Option Value} {n : Nat} (hlo : lo = (a, W.listOf vs.toArray n)) (hm : lo ∈ news) {Fin : List Value → List (Addr × Obj) → Prop} (r : List Value) (fs : List (Tok → Value)) (pre : List Value) (ys : List Value) (e : vs = pre ++ r) (T : Els (fun v f => Ec fi c news x sc v elt f) r fs) (hf : ∀ zs, ValsOf fs zs → Fin (ys ++ zs) news) :
    LCg.CompRest PySem.Challenge.pw_nu0340_01 c.w (c.A fi) c.h₀ c.L m (c.env fi) elt x sc [] s (LCg.SrcAt c.h₀ a vs.toArray) (fun i v => vs.toArray[i]? = some v) Fin r.length pre.length ys news := by
  induction T generalizing pre ys with
  | nil =>
    refine LCg.CompRest.zero ?_
    have := hf [] .nil
    rw [List.append_nil] at this
    exact this
  | @cons v f r fs h1 h2 ih0 =>
    refine LCg.CompRest.succ fun v' I oI C oC D m₂ h tk E' hP ho hx F N off ne => ?_
    have hv : v = v' := by
      rw [e] at hP
      exact Option.some.inj ((List.getElem?_concat_length (l := pre) (a := v)).symm.trans ((by rw [List.getElem?_toArray, List.getElem?_append_right (Nat.le_refl _), Nat.sub_self, List.getElem?_append_right (Nat.le_refl _), Nat.sub_self]; rfl : (pre ++ [v])[pre.length]? = (pre ++ v :: r).toArray[pre.length]?).trans hP))
    subst hv
    refine h1.h _ _ E' _ m₂ _ C oC F N (fun q h => .tail _ (.tail _ (.tail _ h))) (.tail _ (.head _)) ho hx fun t h' tk' F' N' => ?_
    refine LCg.CompEnd.intro (s₁ := { s with heap := h, toks := tk }) F' N' news (fun q h => h) off (.inr ⟨_, hlo ▸ hm, rfl, _, rfl⟩) ?_
    have ih := ih0 (pre ++ [v]) (ys ++ [f t]) (by rw [e, List.append_assoc]; rfl) fun zs hz => by
      rw [List.append_assoc]
      exact hf (f t :: zs) (.cons hz)
    rw [List.length_append] at ih
    exact ih
theorem Rt.comp {vs : List Value} {fs : List (Tok → Value)} (he : Ev fi c l news iter (vv (.ref a))) (hm : (a, W.listOf vs.toArray n) ∈ news) (hcl : closureFor sc (c.env fi) = pure []) (hcell : (sc.names.all fun y => match y.2 with | .cell => false | _ => true) = true) (hkind : sc.kind = .function) (hnm : (sc.names.all fun y => match y.2 with | .local => decide (sc.names.lookup y.1 = some .local) | _ => true) = true) (hx : sc.names.lookup x = some .local)
    (hs : ∀ u, foldedSetIterable iter (c.env fi) u = pure u) (hsz : vs.length ≤ 64) (hel : Els (fun v f => Ec fi c news x sc v elt f) vs fs) (hK : ∀ D zs, ValsOf fs zs → K (.ref D) ((D, W.listOf zs.toArray zs.length) :: news)) : Rt fi c l news (.ListComp elt [⟨.Name x p1, iter, [], 0⟩] sc p) K := ⟨fun s Q F N k => by
  refine LCg.ListComp_U F hcl (fun y hy e => ?_) hkind (fun y hy e => ?_) hx (he.h s _ F N fun _ h' tk F' N' => ?_) hs
  · have := List.all_eq_true.mp hcell y hy
    rw [e] at this
    cases this
  · have := List.all_eq_true.mp hnm y hy
    rw [e] at this
    exact of_decide_eq_true this
  · refine LCg.CompSrc.ledger rfl F' N' hm (by rw [List.size_toArray]; exact Nat.le_trans hsz (Nat.le_of_ble_eq_true rfl)) fun g => ?_
    rw [List.size_toArray]
    refine comp_rest (Q := Q) (lo := (a, W.listOf vs.toArray n)) rfl hm vs fs [] [] rfl hel fun zs hz => ?_
    intro D h2 tk2 F2 N2 off
    exact k _ _ h2 tk2 (hK D zs hz) F2 N2⟩
/-- [e1] + e2[1:] -/
theorem Rt.kids {v1 : Value} {vs zs : List Value} (hn : noStar [e1] = true) (h1 : Ev fi c l news e1 (vv v1)) (h2 : ∀ D o, Ev fi c l ((D, o) :: news) e2 (vv (.ref a))) (hm : (a, W.listOf vs.toArray n) ∈ news) (ez : kms_pick vs (some 1) none = zs) (hz : vs.length ≤ 64) (hz2 : zs.length ≤ 64)
    (hs : ∀ x, subscripted (.Slice (some (.Constant (.int 1) k p1)) none none p2) false (.ref a) (.ref x) = operate [.ref x, .ref a] (getItem (.ref a) (.ref x))) (ht : ∀ r, letTemporaryGo e2 (.ref a) r = pure ()) (hK : ∀ D nw, (∀ q ∈ news, q ∈ nw) → (D, W.listOf (v1 :: zs).toArray 0) ∈ nw → K (.ref D) nw) :
    Rt fi c l news (.BinOp (.List [e1] p3) .Add (.Subscript e2 (.Slice (some (.Constant (.int 1) k p1)) none none p2) p4) p) K := ⟨fun s Q F N kq => by
  refine wpAny_BinOp ((Rt.list (K := fun v nw => ∃ D, v = .ref D ∧ nw = (D, W.listOf #[v1] 0) :: news) (Rs.ev hn h1 fun _ => Rs.nil ⟨Nat.le_of_ble_eq_true rfl, fun D => ⟨D, rfl, rfl⟩⟩)).h s _ F N fun v nw h3 tk3 ⟨D, e1, e2⟩ F3 N3 => ?_)
  subst e1; subst e2
  refine Subscript_ ((h2 D _).h _ _ F3 N3 fun _ h4 tk4 F4 N4 => wpAny_Slice (wpAny_evalPart_some (PySem.wpAny_Constant_int (wpAny_evalPart_none (wpAny_evalPart_none ?_)))))
  have N5 : News c.h₀ c.L h4 _ := N4
  refine kms_slice_lit (s := { s with heap := h4, toks := tk4 + 1 }) (its := vs.toArray) (lo := some 1) (hi := none) F4 N5 (isL (s := { s with heap := h4, toks := tk4 + 1 }) N5 (.tail _ hm)) (.int _ _) .none ez (fun D2 h6 F6 N6 _ => ?_) (hs _) ht (by rw [List.size_toArray]; exact Nat.le_trans hz (Nat.le_of_ble_eq_true rfl))
  refine kmk_add_lit (s := { s with heap := h6, toks := tk4 + 1 }) (its := #[v1]) (its2 := zs.toArray) F6 N6 (isL (s := { s with heap := h6, toks := tk4 + 1 }) N6 (.tail _ (.head _))) (isL (s := { s with heap := h6, toks := tk4 + 1 }) N6 (.head _)) rfl (fun D3 h7 F7 N7 _ => ?_) ?_
  · exact kq _ _ h7 _ (hK D3 _ (fun q h => .tail _ (.tail _ (.tail _ h))) (.head _)) F7 N7
  · show 1 + zs.length ≤ _
    exact Nat.le_trans (Nat.add_le_add_left hz2 1) (Nat.le_of_ble_eq_true rfl)⟩
/-- a loop over a list whose body leaves the ledger as it stood, turn by turn -/
noncomputable def Turns (fi : Fi) (c : Lc) (x : Str) (body : List Stmt) (K : Value → List (Addr × Obj) → Prop) (news : List (Addr × Obj)) (Rend : List (Str × Value) → Prop) : List Value → List (Str × Value) → Prop
  | [], l => Rend l
  | v :: r, l => ∀ I it, Bx fi c ((x, v) :: l) ((I, it) :: news) body K fun l' nw => (∀ q ∈ (I, it) :: news, q ∈ nw) ∧ Turns fi c x body K news Rend r l'
theorem turns_rest {x : Str} {body : List Stmt} {Rend : List (Str × Value) → Prop} {s : Shared} {Q : Flow → Shared → Prop} {I : Addr} {lp : Addr × Obj} (hlp : lp ∈ news) (off : ∀ p ∈ news, p.1 < I)
    (kr : ∀ v nw h' tk l', K v nw → Fr c.h₀ c.L h' (look l') → News c.h₀ c.L h' nw → Q (.ret v) { s with heap := h', toks := tk }) (kn : ∀ l' h' tk, Rend l' → Fr c.h₀ c.L h' (look l') → News c.h₀ c.L h' news → Q .next { s with heap := h', toks := tk }) :
    ∀ (vs : List Value) (l : List (Str × Value)), Turns fi c x body K news Rend vs l → ListRest PySem.Challenge.pw_nu0340_01 c.w (c.A fi) c.E c.h₀ (c.env fi) x body Q s I lp vs (look l) news := fun vs => by
  induction vs with
  | nil => exact fun l h => ListRest.zero fun h' tk F N => kn l h' tk h F N
  | cons v r ih => exact fun l h => listRest_cons fun it h' tk _ F N => (h I it).h { s with heap := h', toks := tk } _ F N (fun u nw h2 tk2 l2 hu F2 N2 => kr u nw h2 tk2 l2 hu F2 N2) fun l2 nw h2 tk2 hh F2 N2 => unrL (s₁ := { s with heap := h', toks := tk }) off F2 N2 hh.1 ⟨hlp, ih l2 hh.2⟩
theorem Bd.for_ {vs : List Value} {body st : List Stmt} {Rend : List (Str × Value) → Prop} (PO : PassesOwn (model PySem.Challenge.pw_nu0340_01 c.w) (c.A fi) (c.env fi) c.E) (ok : okL fi.cs x = true) (he : Ev fi c l news iter (vv (.ref a))) (hm : (a, W.listOf vs.toArray n) ∈ news) (hs : ∀ u, foldedSetIterable iter (c.env fi) u = pure u)
    (T : Turns fi c x body K news Rend vs l) (hB : ∀ l', Rend l' → Bd fi c l' news st K) : Bd fi c l news (.For (.Name x p1) iter body [] p :: st) K := ⟨fun s Q F N k =>
  wpAny_execs_cons (For_invVF F (okL_of ok).2.1 (by show (fi.cs.kind == .class || (fi.cs.kind == .module && _)) = false; rw [(okL_of ok).1]; rfl) (he.h s _ F N fun _ h' tk F' N' => iter_listUnr rfl F' N' hm rfl rfl fun I off => turns_rest (s := { s with heap := h', toks := tk }) (Q := fun f s' => match f with | .next => wpAny (model PySem.Challenge.pw_nu0340_01 c.w) (c.A fi) (execs st (c.env fi)) Q c.E s' | f => Q f s') hm off (fun v nw h2 tk2 l2 hv F2 N2 => k v nw h2 tk2 l2 hv F2 N2) (fun l' h2 tk2 hr F2 N2 => (hB l' hr).h { s with heap := h2, toks := tk2 } Q F2 N2 fun v nw h3 tk3 l3 hv F3 N3 => k v nw h3 tk3 l3 hv F3 N3) vs l T) hs PO)⟩
theorem Bd.forl {vs : List Value} {body st : List Stmt} (Rend : List (Str × Value) → List (Str × Value) → Prop) (PO : PassesOwn (model PySem.Challenge.pw_nu0340_01 c.w) (c.A fi) (c.env fi) c.E) (ok : okL fi.cs x = true) (he : Ev fi c l news iter (vv (.ref a))) (hm : (a, W.listOf vs.toArray n) ∈ news) (hs : ∀ u, foldedSetIterable iter (c.env fi) u = pure u)
    (T : Turns fi c x body K news (Rend l) vs l) (hB : ∀ l', Rend l l' → Bd fi c l' news st K) : Bd fi c l news (.For (.Name x p1) iter body [] p :: st) K := Bd.for_ PO ok he hm hs T hB
theorem Ts.geI (h1 : Ev fi c l news e1 (iv i)) (h2 : Ev fi c l news e2 (iv j)) : Ts fi c l news (.Compare e1 [.GtE] [e2] p) (decide (j ≤ i)) := Ts.cmp h1 h2 (nomarks rfl) fun _ _ _ _ h => ge_int h
end
theorem callOk_ofP {w : World} {f : Addr} {k : Nat} {news : List (Addr × Obj)} {vs : List Value} {Post : Value → List (Addr × Obj) → Prop} {name qual : Str} {params : Arguments} {body : List Stmt} {scope : Scope} {dV kV doc pm cdv ct oc : Value} {an od : Option Addr} {osl : Array (Option Value)} (dv : List Value) {l : List (Str × Value)}
    (ho : (hd.heap_1 w.params).lookup f = some ⟨oc, od, .func (fnOf name qual params body scope dV kV doc pm an cdv ct), osl⟩) (hcd : codeIn (hd.heap_1 w.params) cdv qual = true)
    (hbind : ∀ s, BindsTo s (fnOf name qual params body scope dV kV doc pm an cdv ct) ⟨vs, []⟩ ((params.args.map (·.arg)).zip (vs ++ dv))) (hl : ((params.args.map (·.arg)).zip (vs ++ dv)).reverse = l)
    (hcell : (scope.names.all fun x => match x.2 with | .cell => false | _ => true) = true)
    (hloc : (((params.args.map (·.arg)).zip (vs ++ dv)).all fun x => decide (scope.names.lookup x.1 = some .local)) = true)
    (hco : scope.isCoroutine = false) (hgen : scope.isGenerator = false) (hk : scope.kind = .function)
    (hB : ∀ c : Lc, c.w = w → c.cl = [] → c.Ok k → PassesOwn (model PySem.Challenge.pw_nu0340_01 c.w) (c.A ⟨qual, scope, f, cdv⟩) (c.env ⟨qual, scope, f, cdv⟩) c.E → Bd ⟨qual, scope, f, cdv⟩ c l news body Post) : CallOk w f (k + 1) news vs Post := by
  intro loose mean mg mb dp un gd cn cs a ccd cl outer A₀ base h₀ L m s Q E B F X N T hk0 hd hu hret
  refine wpAny_call ?_
  refine enterW dv rfl rfl hk0 B F X N T ho hcd (by show dp < _; omega) (hbind _) hl hcell hloc hco hgen hk fun g L' h₁ tk FG F' N' B' X' T' => ?_
  exact (hB ⟨w, dp + 1, un + 3, gd, L', [], envX cn cs L a ccd cl :: outer, _, g, ktrTop dp un gd cn cs L a ccd cl outer, base, loose, mean, mg, mb⟩ rfl rfl ⟨B', X', T', by show dp + 1 + k < _; omega, by show un + 3 + 8 * k < _; omega⟩ (by passes_own)).h _ _ F' N' fun v nw h' tk' l' hv F2 N2 => leaveK_ F2 N2 fun F3 N3 => hret v nw _ _ F3 N3 hv
theorem glob_ord : ∀ P, nsIn (hd.heap_1 P) mainGlobals (Str.ofString "ord") = some none := fun P => by kernel_rfl
section
variable {fi : Fi} {c : Lc} {l : List (Str × Value)} {news nw : List (Addr × Obj)} {x y : Str} {i j pl v : Int} {e e1 e2 e3 e4 e5 : PySem.Expr} {p p1 p2 : Pos} {k : Nat} {K : Value → List (Addr × Obj) → Prop} {R : List (Str × Value) → List (Addr × Obj) → Prop} {a ty : Addr} {st st1 : List Stmt} {b : Bool} {tv : Value} {op nm : Str} {ks : Array Value}
theorem Ev.ordS (O : c.Ok k) (ok : okG fi.cs (Str.ofString "ord") = true) (hn : noStar [e] = true) (h : Ev fi c l news e (sv x)) (hx : x.length = 1) (hi : ((x.cps.getD 0 0 : Nat) : Int) = i) : Ev fi c l news (.Call (.Name (Str.ofString "ord") p1) [e] [] p) (iv i) := ⟨fun s Q F N k => by
  subst hi
  refine Call_ ?_ (by rfl)
  refine nameX_B F O.X (topRead_of O.T) (glob_ord c.w.params) (by rfl) (by decide) ?_ (okG_of ok).1 (okG_of ok).2.1 (okG_of ok).2.2
  rw [(starEach_cons (env := c.env fi) hn).1]
  exact callWith_builtin1 (h.h _ _ F N fun t h2 tk2 F2 N2 => ord_of_one hx (k _ h2 _ F2 N2))⟩
theorem Bx.drop (h : Bx fi c l nw st K R) (sub : ∀ q ∈ nw, q ∈ news) : Bx fi c l news st K R := ⟨fun s Q F N k kn => h.h s Q F (cb_drop N sub) k kn⟩
theorem Bd.less (h : Bd fi c l nw st K) (sub : ∀ q ∈ nw, q ∈ news) : Bd fi c l news st K := ⟨fun s Q F N k => h.h s Q F (cb_drop N sub) k⟩
/-- an if whose body ends by a return on every way -/
theorem Bd.ifB (T : Ts fi c l news e b) (h1 : b = true → Bd fi c l news st1 K) (h2 : b = false → Bd fi c l news st K) : Bd fi c l news (.If e st1 [] p2 :: st) K := Bd.ifK (fun _ : Unit => K) (x := ()) (y := ()) T h1 h2
end
end Mine
namespace Mine
section
variable {fi : Fi} {c : Lc} {l : List (Str × Value)} {news nw : List (Addr × Obj)} {x y z : Str} {i j : Int} {v : Value} {e e1 e2 e3 e4 e5 e6 elt iter ct : PySem.Expr} {es : List PySem.Expr} {p p1 p2 p3 p4 : Pos} {k n m : Nat} {f f1 f2 f3 g1 g2 g3 : Tok → Value} {b b1 b2 b3 : Bool} {K K1 : Value → List (Addr × Obj) → Prop} {K2 : Value → Value → List (Addr × Obj) → Prop} {a a2 : Addr} {st : List Stmt} {sc : Scope} {op : CmpOp} {R : List (Str × Value) → List (Addr × Obj) → Prop}
/-- two values of a kind: how they compare -/
noncomputable def EqV (f g : Tok → Value) (b : Bool) : Prop := ∀ (A : Around) (s : Shared) (t u : Tok), EqAt A s (f t) (g u) b
theorem EqV.str : EqV (sv x) (sv y) (x == y) := fun _ _ t u => EqAt.str_str x t y u
theorem EqV.strS : EqV (sv x) (sv x) true := fun _ _ t u => EqAt.strS
theorem EqV.intS : EqV (iv i) (iv i) true := fun _ _ t u => EqAt.intS
theorem EqV.none : EqV (vv .none) (vv .none) true := fun _ _ t u => EqAt.none2
theorem Rt.tup (ha : Rs fi c l news es fun vs nw => vs.length ≤ 64 ∧ ∀ D, K (.ref D) ((D, tupObj vs.toArray) :: nw)) : Rt fi c l news (.Tuple es k p) K := ⟨fun s Q F N h =>
  Tuple_ (ha.h s _ _ F N fun vs nw h2 tk2 ⟨hz, hK⟩ F2 N2 => kup_newTuple F2 N2 (fun D h3 F3 N3 _ => h _ _ h3 tk2 (hK D) F3 N3) (Nat.le_trans hz (Nat.le_of_ble_eq_true rfl)))⟩
/-- a comparison, both sides any -/
theorem Ev.cmpR (h1 : Rt fi c l news e1 K1) (h2 : ∀ v nw, K1 v nw → Rt fi c l nw e2 (K2 v)) (hm : behindInMarks op e2 = false)
    (hc : ∀ v1 v2 nw, K2 v1 v2 nw → (∀ q ∈ news, q ∈ nw) ∧ ∀ (s : Shared) (Q : Value → Shared → Prop), News c.h₀ c.L s.heap nw → Q (.bool b) s → wpAny (model PySem.Challenge.pw_nu0340_01 c.w) (c.A fi) (compareOp op v1 v2) Q c.E s) : Ev fi c l news (.Compare e1 [op] [e2] p) (vv (.bool b)) := ⟨fun s Q F N h =>
  wpAny_Compare1 (h1.h s _ F N fun v1 nw1 h' tk hv F' N' => (h2 v1 nw1 hv).h _ _ F' N' fun v2 nw2 h'' tk2 hv2 F'' N'' => (hc v1 v2 nw2 hv2).2 _ _ N'' (h 0 h'' tk2 F'' (cb_drop N'' (hc v1 v2 nw2 hv2).1))) hm⟩
theorem Ts.cmpR (h1 : Rt fi c l news e1 K1) (h2 : ∀ v nw, K1 v nw → Rt fi c l nw e2 (K2 v)) (hm : behindInMarks op e2 = false)
    (hc : ∀ v1 v2 nw, K2 v1 v2 nw → (∀ q ∈ news, q ∈ nw) ∧ ∀ (s : Shared) (Q : Value → Shared → Prop), News c.h₀ c.L s.heap nw → Q (.bool b) s → wpAny (model PySem.Challenge.pw_nu0340_01 c.w) (c.A fi) (compareOp op v1 v2) Q c.E s) : Ts fi c l news (.Compare e1 [op] [e2] p) b := ⟨fun s Q F N h =>
  wpAny_isTrue_Compare1 (h1.h s _ F N fun v1 nw1 h' tk hv F' N' => (h2 v1 nw1 hv).h _ _ F' N' fun v2 nw2 h'' tk2 hv2 F'' N'' => (hc v1 v2 nw2 hv2).2 _ _ N'' (PySem.wpAny_truthy_bool (h h'' tk2 F'' (cb_drop N'' (hc v1 v2 nw2 hv2).1)))) hm⟩
theorem Lc.Ok.un (O : c.Ok k) (hO : 9 ≤ k) : (c.A fi).units + 64 < cLine := by
  show c.un + 64 < cLine
  have := O.hu
  omega
/-- a value that is a list -/
noncomputable def IsL (news : List (Addr × Obj)) (vs : List Value) (v : Value) (nw : List (Addr × Obj)) : Prop := ∃ a n, v = .ref a ∧ (a, W.listOf vs.toArray n) ∈ nw ∧ ∀ q ∈ news, q ∈ nw
theorem Rt.isL {vs : List Value} (h : Ev fi c l news e (vv (.ref a))) (hm : (a, W.listOf vs.toArray n) ∈ news) : Rt fi c l news e (IsL news vs) := Rt.ev h fun _ => ⟨a, n, rfl, hm, fun _ h => h⟩
theorem Rt.nilL : Rt fi c l news (.List [] p) (IsL news []) := Rt.list (Rs.nil ⟨Nat.le_of_ble_eq_true rfl, fun D => ⟨D, 0, rfl, .head _, fun q h => .tail _ h⟩⟩)
theorem two_lists {vs ws : List Value} (h2 : ∀ nw, (∀ q ∈ news, q ∈ nw) → Rt fi c l nw e2 (IsL nw ws)) (v : Value) (nw : List (Addr × Obj)) (h : IsL news vs v nw) : Rt fi c l nw e2 (fun v2 nw2 => IsL news vs v nw2 ∧ IsL news ws v2 nw2) := by
  obtain ⟨a, n, e, hm, s⟩ := h
  exact (h2 nw s).mono fun v2 nw2 h => by obtain ⟨a2, n2, e2, hm2, s2⟩ := h; exact ⟨⟨a, n, e, s2 _ hm, fun q h => s2 q (s q h)⟩, a2, n2, e2, hm2, fun q h => s2 q (s q h)⟩
theorem Ts.neL {vs : List Value} (O : c.Ok k) (hO : 9 ≤ k) (h1 : Rt fi c l news e1 (IsL news vs)) (hb : (vs.length != 0) = b) : Ts fi c l news (.Compare e1 [.NotEq] [.List [] p1] p) b :=
  Ts.cmpR h1 (two_lists fun _ _ => Rt.nilL) (nomarks rfl) fun v1 v2 nw hh => by obtain ⟨⟨a, n, e1, m1, s1⟩, a2, n2, e2, m2, s2⟩ := hh; exact ⟨s1, fun s Q N h => by
    subst e1; subst e2
    cases vs with
    | nil => subst hb; exact neNil N m1 m2 (O.un hO) h
    | cons v vs => subst hb; exact neLen N m1 m2 (by simp) (O.un hO) (by simpa using h)⟩
theorem Ev.eqNilL (O : c.Ok k) (hO : 9 ≤ k) (h1 : Rt fi c l news e1 (IsL news [])) : Ev fi c l news (.Compare e1 [.Eq] [.List [] p1] p) (vv (.bool true)) :=
  Ev.cmpR h1 (two_lists fun _ _ => Rt.nilL) (nomarks rfl) fun v1 v2 nw hh => by obtain ⟨⟨a, n, e1, m1, s1⟩, a2, n2, e2, m2, s2⟩ := hh; exact ⟨s1, fun s Q N h => by
    subst e1; subst e2
    exact eqNil N m1 m2 (O.un hO) h⟩
theorem eqInts {prog : Program} {w : World} {A : Around} {E : Value → Shared → Prop} {s : Shared} {h₀ : Heap} {L : Addr} {Q : Value → Shared → Prop} {vs ws : List Value} {ns : List Int} (N : News h₀ L s.heap news) (h1 : (a, W.listOf vs.toArray n) ∈ news) (h2 : (a2, W.listOf ws.toArray m) ∈ news) (i1 : IntsAre vs ns) (i2 : IntsAre ws ns) (hu : A.units + 64 < cLine) (h : Q (.bool true) s) :
    wpAny (model prog w) A (compareOp .Eq (.ref a) (.ref a2)) Q E s := by
  refine RcAt.lists (e := fun _ => true) (isL N h1) (isL N h2) (by rw [List.size_toArray, List.size_toArray, i1.length, i2.length]) (by omega) (fun j g1 g2 => ?_) prog w E Q ?_
  · obtain ⟨n1, t1, e1, q1⟩ := i1.at j vs[j] (by simpa using g1)
    obtain ⟨n2, t2, e2, q2⟩ := i2.at j ws[j] (by simpa using g2)
    rw [q1] at q2
    obtain rfl := Option.some.inj q2
    show EqAt _ s vs[j] ws[j] true
    rw [e1, e2]
    exact EqAt.intS
  · rw [show (List.range vs.toArray.size).all (fun _ => true) = true by simp]
    exact h
/-- a value that is a list of these numbers -/
noncomputable def IsI (news : List (Addr × Obj)) (ns : List Int) (v : Value) (nw : List (Addr × Obj)) : Prop := ∃ vs, IntsAre vs ns ∧ IsL news vs v nw
theorem twoI {ns : List Int} (h2 : ∀ nw, (∀ q ∈ news, q ∈ nw) → Rt fi c l nw e2 (IsI nw ns)) (v : Value) (nw : List (Addr × Obj)) (h : IsI news ns v nw) : Rt fi c l nw e2 (fun v2 nw2 => IsI news ns v nw2 ∧ IsI news ns v2 nw2) := by
  obtain ⟨vs, i1, a, n, e, hm, s⟩ := h
  refine (h2 nw s).mono fun v2 nw2 h => ?_
  obtain ⟨ws, i2, a2, n2, e2, hm2, s2⟩ := h
  exact ⟨⟨vs, i1, a, n, e, s2 _ hm, fun q h => s2 q (s q h)⟩, ws, i2, a2, n2, e2, hm2, fun q h => s2 q (s q h)⟩
theorem Ev.eqIntsL {ns : List Int} (O : c.Ok k) (hO : 9 ≤ k) (h1 : Rt fi c l news e1 (IsI news ns)) (h2 : ∀ nw, (∀ q ∈ news, q ∈ nw) → Rt fi c l nw e2 (IsI nw ns)) (hm : behindInMarks .Eq e2 = false) : Ev fi c l news (.Compare e1 [.Eq] [e2] p) (vv (.bool true)) :=
  Ev.cmpR (K2 := fun v1 v2 nw => IsI news ns v1 nw ∧ IsI news ns v2 nw) h1 (twoI h2) hm fun v1 v2 nw h => by
    obtain ⟨⟨vs, i1, a, n, e1, m1, s1⟩, ws, i2, a2, n2, e2, m2, s2⟩ := h
    refine ⟨s1, fun s Q N h => ?_⟩
    subst e1; subst e2
    exact eqInts N m1 m2 i1 i2 (O.un hO) h
/-- three values in a tuple -/
noncomputable def IsT3 (news : List (Addr × Obj)) (f1 f2 f3 : Tok → Value) (v : Value) (nw : List (Addr × Obj)) : Prop := ∃ D t1 t2 t3, v = .ref D ∧ (D, tupObj #[f1 t1, f2 t2, f3 t3]) ∈ nw ∧ ∀ q ∈ news, q ∈ nw
theorem Rt.t3 (hn : noStar [e1, e2, e3] = true) (h1 : Ev fi c l news e1 f1) (h2 : Ev fi c l news e2 f2) (h3 : Ev fi c l news e3 f3) : Rt fi c l news (.Tuple [e1, e2, e3] k p) (IsT3 news f1 f2 f3) :=
  Rt.tup (Rs.ev hn h1 fun t1 => Rs.ev (noStar_tl hn) h2 fun t2 => Rs.ev (noStar_tl (noStar_tl hn)) h3 fun t3 => Rs.nil ⟨Nat.le_of_ble_eq_true rfl, fun D => ⟨D, t1, t2, t3, rfl, .head _, fun q h => .tail _ h⟩⟩)
noncomputable def IsT2 (news : List (Addr × Obj)) (f1 f2 : Tok → Value) (v : Value) (nw : List (Addr × Obj)) : Prop := ∃ D t1 t2, v = .ref D ∧ (D, tupObj #[f1 t1, f2 t2]) ∈ nw ∧ ∀ q ∈ news, q ∈ nw
theorem Rt.t2 (hn : noStar [e1, e2] = true) (h1 : Ev fi c l news e1 f1) (h2 : Ev fi c l news e2 f2) : Rt fi c l news (.Tuple [e1, e2] k p) (IsT2 news f1 f2) :=
  Rt.tup (Rs.ev hn h1 fun t1 => Rs.ev (noStar_tl hn) h2 fun t2 => Rs.nil ⟨Nat.le_of_ble_eq_true rfl, fun D => ⟨D, t1, t2, rfl, .head _, fun q h => .tail _ h⟩⟩)
theorem twoT3 (h2 : ∀ nw, (∀ q ∈ news, q ∈ nw) → Rt fi c l nw e2 (IsT3 nw g1 g2 g3)) (v : Value) (nw : List (Addr × Obj)) (h : IsT3 news f1 f2 f3 v nw) : Rt fi c l nw e2 (fun v2 nw2 => IsT3 news f1 f2 f3 v nw2 ∧ IsT3 news g1 g2 g3 v2 nw2) := by
  obtain ⟨D, t1, t2, t3, e, hm, s⟩ := h
  refine (h2 nw s).mono fun v2 nw2 h => ?_
  obtain ⟨D2, u1, u2, u3, e2, hm2, s2⟩ := h
  exact ⟨⟨D, t1, t2, t3, e, s2 _ hm, fun q h => s2 q (s q h)⟩, D2, u1, u2, u3, e2, hm2, fun q h => s2 q (s q h)⟩
theorem twoT2 (h2 : ∀ nw, (∀ q ∈ news, q ∈ nw) → Rt fi c l nw e2 (IsT2 nw g1 g2)) (v : Value) (nw : List (Addr × Obj)) (h : IsT2 news f1 f2 v nw) : Rt fi c l nw e2 (fun v2 nw2 => IsT2 news f1 f2 v nw2 ∧ IsT2 news g1 g2 v2 nw2) := by
  obtain ⟨D, t1, t2, e, hm, s⟩ := h
  refine (h2 nw s).mono fun v2 nw2 h => ?_
  obtain ⟨D2, u1, u2, e2, hm2, s2⟩ := h
  exact ⟨⟨D, t1, t2, e, s2 _ hm, fun q h => s2 q (s q h)⟩, D2, u1, u2, e2, hm2, fun q h => s2 q (s q h)⟩
theorem Ev.eq3 (O : c.Ok k) (hO : 9 ≤ k) (h1 : Rt fi c l news e1 (IsT3 news f1 f2 f3)) (h2 : ∀ nw, (∀ q ∈ news, q ∈ nw) → Rt fi c l nw e2 (IsT3 nw g1 g2 g3)) (hm : behindInMarks .Eq e2 = false) (q1 : EqV f1 g1 b1) (q2 : EqV f2 g2 b2) (q3 : EqV f3 g3 b3) : Ev fi c l news (.Compare e1 [.Eq] [e2] p) (vv (.bool (b1 && (b2 && b3)))) :=
  Ev.cmpR (K2 := fun v1 v2 nw => IsT3 news f1 f2 f3 v1 nw ∧ IsT3 news g1 g2 g3 v2 nw) h1 (twoT3 h2) hm fun v1 v2 nw hh => by obtain ⟨⟨D, t1, t2, t3, e1, m1, s1⟩, D2, u1, u2, u3, e2, m2, s2⟩ := hh; exact ⟨s1, fun s Q N h => by
    subst e1; subst e2
    exact eqThree N m1 m2 (q1 _ _ _ _) (q2 _ _ _ _) (q3 _ _ _ _) (O.un hO) h⟩
theorem Ts.ne3 (O : c.Ok k) (hO : 9 ≤ k) (h1 : Rt fi c l news e1 (IsT3 news f1 f2 f3)) (h2 : ∀ nw, (∀ q ∈ news, q ∈ nw) → Rt fi c l nw e2 (IsT3 nw g1 g2 g3)) (hm : behindInMarks .NotEq e2 = false) (q1 : EqV f1 g1 b1) (q2 : EqV f2 g2 b2) (q3 : EqV f3 g3 b3) : Ts fi c l news (.Compare e1 [.NotEq] [e2] p) (!(b1 && (b2 && b3))) :=
  Ts.cmpR (K2 := fun v1 v2 nw => IsT3 news f1 f2 f3 v1 nw ∧ IsT3 news g1 g2 g3 v2 nw) h1 (twoT3 h2) hm fun v1 v2 nw hh => by obtain ⟨⟨D, t1, t2, t3, e1, m1, s1⟩, D2, u1, u2, u3, e2, m2, s2⟩ := hh; exact ⟨s1, fun s Q N h => by
    subst e1; subst e2
    exact neThree N m1 m2 (q1 _ _ _ _) (q2 _ _ _ _) (q3 _ _ _ _) (O.un hO) h⟩
theorem Ev.eq2 (O : c.Ok k) (hO : 9 ≤ k) (h1 : Rt fi c l news e1 (IsT2 news f1 f2)) (h2 : ∀ nw, (∀ q ∈ news, q ∈ nw) → Rt fi c l nw e2 (IsT2 nw g1 g2)) (hm : behindInMarks .Eq e2 = false) (q1 : EqV f1 g1 b1) (q2 : EqV f2 g2 b2) : Ev fi c l news (.Compare e1 [.Eq] [e2] p) (vv (.bool (b1 && b2))) :=
  Ev.cmpR (K2 := fun v1 v2 nw => IsT2 news f1 f2 v1 nw ∧ IsT2 news g1 g2 v2 nw) h1 (twoT2 h2) hm fun v1 v2 nw hh => by obtain ⟨⟨D, t1, t2, e1, m1, s1⟩, D2, u1, u2, e2, m2, s2⟩ := hh; exact ⟨s1, fun s Q N h => by
    subst e1; subst e2
    exact eqTwo N m1 m2 (q1 _ _ _ _) (q2 _ _ _ _) (O.un hO) h⟩
theorem Ts.neI (h1 : Ev fi c l news e1 (iv i)) (h2 : Ev fi c l news e2 (iv j)) : Ts fi c l news (.Compare e1 [.NotEq] [e2] p) (i != j) := Ts.cmp h1 h2 (nomarks rfl) fun _ _ _ _ h => ne_int h
theorem Ts.or0 (h1 : Ts fi c l news e false) (h2 : Ts fi c l news (.BoolOp .Or (e2 :: es) p) b) : Ts fi c l news (.BoolOp .Or (e :: e2 :: es) p) b := Ts.conv (Ts.or h1 fun _ => h2) (Bool.false_or _)
theorem Ev.andT {b : Bool} (h1 : Ev fi c l news e (vv (.bool true))) (h2 : Ev fi c l news (.BoolOp .And (e2 :: es) p) (vv (.bool b))) : Ev fi c l news (.BoolOp .And (e :: e2 :: es) p) (vv (.bool b)) := by
  have := Ev.and h1 fun _ => h2
  rwa [Bool.true_and] at this
end
section
variable {fi : Fi} {c : Lc} {l : List (Str × Value)} {news : List (Addr × Obj)} {x y : Str} {i : Int} {e e1 e2 elt iter ct : PySem.Expr} {p p1 p2 p3 p4 : Pos} {k n : Nat} {b : Bool} {K : Value → List (Addr × Obj) → Prop} {a : Addr} {sc : Scope} {st : List Stmt}
noncomputable def cntT : List Bool → Nat
  | [] => 0
  | true :: r => cntT r + 1
  | false :: r => cntT r
inductive TEls (R : Value → Bool → Prop) : List Value → List Bool → Prop
  | nil : TEls R [] []
  | cons {v b vs bs} : R v b → TEls R vs bs → TEls R (v :: vs) (b :: bs)
theorem comp_restT {lo : Addr × Obj} {vs : List Value} {s : Shared} {m : Str → Option Value} {n : Nat} (hlo : lo = (a, W.listOf vs.toArray n)) (hm : lo ∈ news) (he : ∀ v, Ec fi c news x sc v elt (iv i)) {Fin : List Value → List (Addr × Obj) → Prop} (r : List Value) (bs : List Bool) (pre : List Value) (ys : List Value) (e : vs = pre ++ r) (T : TEls (fun v b => Tc fi c news x sc v ct b) r bs) (hf : ∀ zs, zs.length = cntT bs → Fin (ys ++ zs) news) :
    LCt.CompRestT PySem.Challenge.pw_nu0340_01 c.w (c.A fi) c.h₀ c.L m (c.env fi) ct elt x sc [] s (LCg.SrcAt c.h₀ a vs.toArray) (fun i v => vs.toArray[i]? = some v) Fin r.length pre.length ys news := by
  induction T generalizing pre ys with
  | nil =>
    refine LCt.CompRestT.zero ?_
    have := hf [] rfl
    rw [List.append_nil] at this
    exact this
  | @cons v b r bs h1 h2 ih0 =>
    refine LCt.CompRestT.succ fun v' I oI C oC D m₂ h tk E' hP ho hx F N off ne => ?_
    have hv : v = v' := by
      rw [e] at hP
      exact Option.some.inj ((List.getElem?_concat_length (l := pre) (a := v)).symm.trans ((by rw [List.getElem?_toArray, List.getElem?_append_right (Nat.le_refl _), Nat.sub_self, List.getElem?_append_right (Nat.le_refl _), Nat.sub_self]; rfl : (pre ++ [v])[pre.length]? = (pre ++ v :: r).toArray[pre.length]?).trans hP))
    subst hv
    have ih : ∀ ys', (∀ zs, zs.length = cntT bs → Fin (ys' ++ zs) news) → LCt.CompRestT PySem.Challenge.pw_nu0340_01 c.w (c.A fi) c.h₀ c.L m (c.env fi) ct elt x sc [] s (LCg.SrcAt c.h₀ a vs.toArray) (fun i v => vs.toArray[i]? = some v) Fin r.length (pre.length + 1) ys' news := fun ys' hz => by
      have q := ih0 (pre ++ [v]) ys' (by rw [e, List.append_assoc]; rfl) hz
      rw [List.length_append] at q
      exact q
    refine h1.h _ _ E' _ m₂ _ C oC F N (fun q h => .tail _ (.tail _ (.tail _ h))) (.tail _ (.head _)) ho hx fun h' tk' F' N' => ?_
    cases b with
    | true =>
      refine ite_tt ?_
      refine (he v).h { s with heap := h', toks := tk' } _ E' _ m₂ _ C oC F' N' (fun q h => .tail _ (.tail _ (.tail _ h))) (.tail _ (.head _)) ho hx fun t h2 tk2 F2 N2 => ?_
      exact LCg.CompEnd.intro (s₁ := { s with heap := h, toks := tk }) F2 N2 news (fun q h => h) off (.inr ⟨_, hlo ▸ hm, rfl, _, rfl⟩) (ih _ fun zs hz => by
        rw [List.append_assoc]
        exact hf (iv i t :: zs) (by rw [List.length_cons, hz]; rfl))
    | false =>
      refine ite_ff ?_
      exact LCg.CompEnd.intro (s₁ := { s with heap := h, toks := tk }) F' N' news (fun q h => h) off (.inr ⟨_, hlo ▸ hm, rfl, _, rfl⟩) (ih _ fun zs hz => hf zs hz)
theorem Rt.compT {vs : List Value} {bs : List Bool} (he : Ev fi c l news iter (vv (.ref a))) (hm : (a, W.listOf vs.toArray n) ∈ news) (hcl : closureFor sc (c.env fi) = pure []) (hcell : (sc.names.all fun y => match y.2 with | .cell => false | _ => true) = true) (hkind : sc.kind = .function) (hnm : (sc.names.all fun y => match y.2 with | .local => decide (sc.names.lookup y.1 = some .local) | _ => true) = true) (hx : sc.names.lookup x = some .local)
    (hs : ∀ u, foldedSetIterable iter (c.env fi) u = pure u) (hsz : vs.length ≤ 64) (hel : TEls (fun v b => Tc fi c news x sc v ct b) vs bs) : Rt fi c l news (.ListComp (.Constant (.int i) k p2) [⟨.Name x p1, iter, [ct], 0⟩] sc p) (fun v nw => ∃ zs, zs.length = cntT bs ∧ IsL news zs v nw) := ⟨fun s Q F N kq => by
  refine LCt.ListComp_T F hcl (fun y hy e => ?_) hkind (fun y hy e => ?_) hx (he.h s _ F N fun _ h' tk F' N' => ?_) hs
  · have := List.all_eq_true.mp hcell y hy
    rw [e] at this
    cases this
  · have := List.all_eq_true.mp hnm y hy
    rw [e] at this
    exact of_decide_eq_true this
  · refine LCt.CompSrcT.ledger rfl F' N' hm (by rw [List.size_toArray]; exact Nat.le_trans hsz (Nat.le_of_ble_eq_true rfl)) fun g => ?_
    rw [List.size_toArray]
    refine comp_restT (lo := (a, W.listOf vs.toArray n)) rfl hm (fun v => Ec.int) vs bs [] [] rfl hel fun zs hz => ?_
    intro D h2 tk2 F2 N2 off
    exact kq _ _ h2 tk2 ⟨zs, hz, D, zs.length, rfl, .head _, fun q h => .tail _ h⟩ F2 N2⟩
theorem Ts.neLx {m : Nat} (O : c.Ok k) (hO : 9 ≤ k) (h1 : Rt fi c l news e1 fun v nw => ∃ zs, zs.length = m ∧ IsL news zs v nw) (hb : (m != 0) = b) : Ts fi c l news (.Compare e1 [.NotEq] [.List [] p1] p) b :=
  Ts.cmpR (K2 := fun v1 v2 nw => (∃ zs, zs.length = m ∧ IsL news zs v1 nw) ∧ IsL news [] v2 nw) h1 (fun v nw hh => by obtain ⟨zs, hz, hL⟩ := hh; exact (two_lists (fun _ _ => Rt.nilL) v nw hL).mono fun v2 nw2 h => ⟨⟨zs, hz, h.1⟩, h.2⟩) (nomarks rfl) fun v1 v2 nw hh => by obtain ⟨⟨zs, hz, a, n, e1, m1, s1⟩, a2, n2, e2, m2, s2⟩ := hh; exact ⟨s1, fun s Q N h => by
    subst e1; subst e2
    cases zs with
    | nil => subst hz; subst hb; exact neNil N m1 m2 (O.un hO) h
    | cons v vs => subst hz; subst hb; exact neLen N m1 m2 (by simp) (O.un hO) (by simpa using h)⟩
/-- y = [elt for x in iter] -/
theorem Bd.asgComp {vs : List Value} {fs : List (Tok → Value)} (hsw : swapsWith (.ListComp elt [⟨.Name x p1, iter, [], 0⟩] sc p) (some (.Name y p2)) p3.line (c.env fi) = pure true) (ok : okL fi.cs y = true) (he : Ev fi c l news iter (vv (.ref a))) (hm : (a, W.listOf vs.toArray n) ∈ news) (hcl : closureFor sc (c.env fi) = pure []) (hcell : (sc.names.all fun y => match y.2 with | .cell => false | _ => true) = true) (hkind : sc.kind = .function) (hnm : (sc.names.all fun y => match y.2 with | .local => decide (sc.names.lookup y.1 = some .local) | _ => true) = true) (hx : sc.names.lookup x = some .local)
    (hs : ∀ u, foldedSetIterable iter (c.env fi) u = pure u) (hsz : vs.length ≤ 64) (hel : Els (fun v f => Ec fi c news x sc v elt f) vs fs) (hB : ∀ D zs, ValsOf fs zs → Bd fi c ((y, .ref D) :: l) ((D, W.listOf zs.toArray zs.length) :: news) st K) : Bd fi c l news (.Assign [.Name y p2] (.ListComp elt [⟨.Name x p1, iter, [], 0⟩] sc p) p3 :: st) K := ⟨fun s Q F N k => by
  refine wpAny_execs_cons (LCg.Assign_ListComp_U F rfl hsw hcl (fun y hy e => ?_) hkind (fun y hy e => ?_) hx (okL_of ok).2.1 (by show (fi.cs.kind == .class || (fi.cs.kind == .module && _)) = false; rw [(okL_of ok).1]; rfl) (he.h s _ F N fun _ h' tk F' N' => ?_) hs)
  · have := List.all_eq_true.mp hcell y hy
    rw [e] at this
    cases this
  · have := List.all_eq_true.mp hnm y hy
    rw [e] at this
    exact of_decide_eq_true this
  · refine LCg.CompSrc.ledger rfl F' N' hm (by rw [List.size_toArray]; exact Nat.le_trans hsz (Nat.le_of_ble_eq_true rfl)) fun g => ?_
    rw [List.size_toArray]
    refine comp_rest (Q := fun _ _ => True) (lo := (a, W.listOf vs.toArray n)) rfl hm vs fs [] [] rfl hel fun zs hz => ?_
    intro D h2 tk2 F2 N2 off
    exact (hB D zs hz).h { s with heap := h2, toks := tk2 } Q (look_store ▸ F2) N2 fun v nw h3 tk3 l3 hv F3 N3 => k v nw h3 tk3 l3 hv F3 N3⟩
/-- e1 + [e2] -/
theorem Rt.addL {vs : List Value} (h1 : Ev fi c l news e1 (vv (.ref a))) (hm : (a, W.listOf vs.toArray n) ∈ news) (hsz : vs.length ≤ 64) (hn : noStar [e2] = true) {f : Tok → Value} (h2 : Ev fi c l news e2 f) : Rt fi c l news (.BinOp e1 .Add (.List [e2] p1) p) (fun v nw => ∃ t, IsL news (vs ++ [f t]) v nw) := ⟨fun s Q F N k => by
  refine wpAny_BinOp (h1.h s _ F N fun _ h3 tk3 F3 N3 => ?_)
  refine (Rt.list (K := fun v nw => ∃ D t, v = .ref D ∧ nw = (D, W.listOf #[f t] 0) :: news) (Rs.ev hn h2 fun t => Rs.nil ⟨Nat.le_of_ble_eq_true rfl, fun D => ⟨D, t, rfl, rfl⟩⟩)).h _ _ F3 N3 fun v nw h4 tk4 ⟨D, t, e1, e2⟩ F4 N4 => ?_
  subst e1; subst e2
  refine kmk_add_lit (s := { s with heap := h4, toks := tk4 }) (its := vs.toArray) (its2 := #[f t]) F4 N4 (Mine.isL (s := { s with heap := h4, toks := tk4 }) N4 (.tail _ hm)) (Mine.isL (s := { s with heap := h4, toks := tk4 }) N4 (.head _)) rfl (fun D3 h7 F7 N7 _ => ?_) ?_
  · exact k _ _ h7 _ ⟨t, D3, 0, rfl, .head _, fun q h => .tail _ (.tail _ h)⟩ F7 N7
  · show vs.toArray.toList.length + 1 ≤ _
    exact Nat.le_trans (Nat.add_le_add_right hsz 1) (Nat.le_of_ble_eq_true rfl)⟩
end
section
variable {fi : Fi} {c : Lc} {l : List (Str × Value)} {R : List (Addr × Obj)} {e e1 e2 : PySem.Expr} {p : Pos} {f : Tok → Value} {b : Bool}
theorem Ev.ifT (T : Ts fi c l R e b) (hb : b = true) (h : Ev fi c l R e1 f) : Ev fi c l R (.IfExp e e1 e2 p) f := by
  subst hb
  exact Ev.ifE (x := ()) (y := ()) (fun _ => f) T (fun _ => h) fun h => by cases h
theorem Ev.ifF (T : Ts fi c l R e b) (hb : b = false) (h : Ev fi c l R e2 f) : Ev fi c l R (.IfExp e e1 e2 p) f := by
  subst hb
  exact Ev.ifE (x := ()) (y := ()) (fun _ => f) T (fun h => by cases h) fun _ => h
end
noncomputable abbrev lawFi (a : Addr) (ccd : Value) : Fi := ⟨Str.ofString "law", lawScope, a, ccd⟩
theorem okW {x : Str} {a : Addr} {ccd : Value} (h : okL lawScope x = true) : okL (lawFi a ccd).cs x = true := h
theorem okWG {x : Str} {a : Addr} {ccd : Value} (h : okG lawScope x = true) : okG (lawFi a ccd).cs x = true := h
end Mine
set_option rowWalk.seconds 0
namespace Mine
theorem words_lite : True := by
  k_with "okd" => first | decide +kernel | exact okW (by decide +kernel) | exact okWG (by decide +kernel)
  k_with "lk" => ((repeat (first | with_reducible exact look_hit | with_reducible assumption | (apply look_miss; kernel_rfl))); done)
  k_with "base" => first | exact base_name | exact base_attr | exact base_sub
  k_with "evr" => first | (apply Ev.name; (focus k_extra "lk"); (focus k_extra "okd")) | (apply n_evType; (focus k_extra "evr"); (focus k_extra "base"); (focus assumption); (focus exact rfl); (focus assumption)) | (apply n_evValue; (focus k_extra "evr"); (focus k_extra "base"); (focus assumption); (focus exact rfl); (focus assumption))
  k_with "evs" => first | exact Ev.str | (apply Ev.nameS; (focus k_extra "lk"); (focus k_extra "okd")) | (apply s_evForm; (focus k_extra "evr"); (focus k_extra "base"); (focus assumption); (focus assumption)) | (apply s_evOp; (focus k_extra "evr"); (focus k_extra "base"); (focus assumption); (focus assumption)) | (apply t_evForm; (focus k_extra "evr"); (focus k_extra "base"); (focus assumption); (focus assumption)) | (apply n_evOp; (focus k_extra "evr"); (focus k_extra "base"); (focus assumption); (focus assumption)) | (apply Ev.ifE sv; (focus k_extra "ts"); (focus (intro a9; k_extra "evs")); (focus (intro a9; k_extra "evs"))) | k_extra "calls"
  k_with "evi" => first | exact Ev.int | (apply Ev.nameI; (focus k_extra "lk"); (focus k_extra "okd")) | (apply Ev.ifE iv; (focus k_extra "ts"); (focus (intro a9; k_extra "evi")); (focus (intro a9; k_extra "evi"))) | k_extra "calls"
  k_with "evb" => first | (apply Ev.eqS; (focus k_extra "evs"); (focus k_extra "evs")) | (apply Ev.inT; (focus k_extra "evs"); (focus exact rfl); (focus exact Nat.le_of_ble_eq_true rfl)) | (apply Ev.or; (focus k_extra "evb"); (focus (intro a9; k_extra "evb"))) | (apply Ev.and; (focus k_extra "evb"); (focus (intro a9; k_extra "evb"))) | (apply Ev.or1; k_extra "evb") | (apply Ev.and1; k_extra "evb") | (apply Ev.not; k_extra "evb") | (apply Ev.eqI; (focus k_extra "evi"); (focus k_extra "evi")) | (apply Ev.name; (focus k_extra "lk"); (focus k_extra "okd")) | k_extra "calls"
  k_with "ts" => first | (apply Ts.eqS; (focus k_extra "evs"); (focus k_extra "evs")) | (apply Ts.neS; (focus k_extra "evs"); (focus k_extra "evs")) | (apply Ts.inT; (focus k_extra "evs"); (focus exact rfl); (focus exact Nat.le_of_ble_eq_true rfl)) | (apply Ts.and; (focus k_extra "ts"); (focus (intro a9; k_extra "ts"))) | (apply Ts.or; (focus k_extra "ts"); (focus (intro a9; k_extra "ts"))) | (apply Ts.and1; k_extra "ts") | (apply Ts.or1; k_extra "ts") | (apply Ts.ltI; (focus k_extra "evi"); (focus k_extra "evi")) | (apply Ts.gtI; (focus k_extra "evi"); (focus k_extra "evi")) | (apply Ts.eqI; (focus k_extra "evi"); (focus k_extra "evi")) | (apply Ts.not; k_extra "ts") | (apply Ts.name; (focus k_extra "lk"); (focus k_extra "okd")) | (apply Ts.call; k_extra "calls")
  k_with "it" => first | (apply Ev.tupN; (focus k_extra "evr"); (focus assumption); (focus exact rfl); (focus decide); (focus decide); (focus exact rfl); (focus exact (fun _ => by with_unfolding_all rfl))) | (apply Ev.lstN; (focus k_extra "evr"); (focus assumption); (focus exact rfl); (focus decide); (focus exact (fun _ => by with_unfolding_all rfl)))
  k_with "evr" => ((with_reducible show Ev _ _ _ _ (PySem.Expr.Subscript _ (PySem.Expr.Constant (PySem.Const.int _) _ _) _) _); k_extra "it")
  k_with "evs" => ((with_reducible show Ev _ _ _ _ (PySem.Expr.Subscript _ (PySem.Expr.Constant (PySem.Const.int _) _ _) _) _); apply Ev.toS; k_extra "it")
  k_with "evi" => ((with_reducible show Ev _ _ _ _ (PySem.Expr.Subscript _ (PySem.Expr.Constant (PySem.Const.int _) _ _) _) _); apply Ev.toI; k_extra "it")
  k_with "ts" => ((with_reducible show Ts _ _ _ _ (PySem.Expr.Compare _ [PySem.CmpOp.In] [PySem.Expr.List _ _] _) _); apply Ts.inL; (focus k_extra "evs"); (focus exact rfl); (focus exact Nat.le_of_ble_eq_true rfl))
  k_with "bs" => first | (apply Bd.ifV sv; (focus k_extra "ts"); (focus (intro a9; k_extra "evs")); (focus (intro a9; k_extra "bs"))) | (apply Bd.val; k_extra "evs")
  k_with "bi" => first | (apply Bd.ifV iv; (focus k_extra "ts"); (focus (intro a9; k_extra "evi")); (focus (intro a9; k_extra "bi"))) | (apply Bd.val; k_extra "evi")
  k_with "bb" => (apply Bd.val; k_extra "evb")
  k_with "open" => (refine callOk_of [] rfl (by kernel_rfl) (fun s => BindsTo.of_eq (by kernel_rfl)) rfl (by kernel_rfl) (by kernel_rfl) rfl rfl rfl fun c hw hcl ok => ?_; subst hw; dsimp only [List.map, List.zip, List.zipWith, List.reverse, List.reverseAux, List.cons_append, List.nil_append, List.append_eq])
  k_with "openP" => (refine callOk_ofP [] rfl (by kernel_rfl) (fun s => BindsTo.of_eq (by kernel_rfl)) rfl (by kernel_rfl) (by kernel_rfl) rfl rfl rfl fun c hw hcl ok PO => ?_; subst hw; dsimp only [List.map, List.zip, List.zipWith, List.reverse, List.reverseAux, List.cons_append, List.nil_append, List.append_eq])
  trivial
theorem go_integer_code : GlobOk (Str.ofString "integer_code") (.ref 155) := fun P => ⟨by kernel_rfl, by kernel_rfl⟩
theorem go_is_integer : GlobOk (Str.ofString "is_integer") (.ref 99) := fun P => ⟨by kernel_rfl, by kernel_rfl⟩
theorem is_integer_ok (w : World) (news : List (Addr × Obj)) (a : Addr) (form : Str) (sz ln nu : Int) (h : TypeAt w.params news a form sz ln nu) : CallOk w 99 2 news [.ref a] (Pure news (vv (.bool (isInt form)))) := by
  k_extra "open"
  k_extra "bb"
theorem is_function_ok (w : World) (news : List (Addr × Obj)) (n : Str) (t : Tok) : CallOk w 120 2 news [.str n t] (Pure news (vv (.bool (isF n)))) := by
  k_extra "open"
  k_extra "bb"
theorem is_plain_ok (w : World) (news sub : List (Addr × Obj)) (a : Addr) (form : Str) (sz ln nu : Int) (h : TypeAt w.params sub a form sz ln nu) (hsub : ∀ q ∈ sub, q ∈ news) :
    CallOk w 197 5 news [.ref a] (Pure news fun _ => .bool (isPlain form)) := by
  have h0 := h.mono hsub
  k_extra "open"
  k_extra "bb"
theorem integer_code_ok (w : World) (news sub : List (Addr × Obj)) (a : Addr) (pl : Int) (d : Sd) (h : SideAt w.params sub a pl d) (hsub : ∀ q ∈ sub, q ∈ news) :
    CallOk w 155 5 news [.ref a] (Pure news fun t => .str (intCode d.form) t) := by
  obtain ⟨ty, kids, v, hn, ht, hv⟩ := h.mono hsub
  k_extra "open"
  (k_with "calls" => ((with_reducible show Ev _ _ _ _ (PySem.Expr.Call (PySem.Expr.Name (Str.ofString "is_integer") _) _ _ _) _); refine Ev.call (k := 2) ok (Nat.le_of_ble_eq_true rfl) rfl go_is_integer (by decide +kernel) rfl (Evs.cons rfl (by k_extra "evr") Evs.nil) (by rintro vs ⟨t, r, rfl, rfl⟩; exact is_integer_ok _ _ _ _ _ _ _ ht)))
  k_extra "bs"
theorem target_code_ok (w : World) (news sub : List (Addr × Obj)) (a : Addr) (pl : Int) (d : Sd) (h : SideAt w.params sub a pl d) (hsub : ∀ q ∈ sub, q ∈ news) (name : Str) (t : Tok) :
    CallOk w 244 9 news [.str name t, .ref a] (Pure news fun t => .str (targetCode name d.form) t) := by
  have h0 := h.mono hsub
  k_extra "open"
  (k_with "calls" => ((with_reducible show Ev _ _ _ _ (PySem.Expr.Call (PySem.Expr.Name (Str.ofString "integer_code") _) _ _ _) _); refine Ev.call (k := 5) ok (Nat.le_of_ble_eq_true rfl) rfl go_integer_code (by decide +kernel) rfl (Evs.cons rfl (by k_extra "evr") Evs.nil) (by rintro vs ⟨t, r, rfl, rfl⟩; exact integer_code_ok _ _ _ _ _ _ h hsub)))
  k_extra "bs"
theorem Bd.drop {fi : Fi} {c : Lc} {l : List (Str × Value)} {news nw : List (Addr × Obj)} {st : List Stmt} {f : Tok → Value} (h : Bd fi c l nw st (Pure nw f)) (sub : ∀ q ∈ news, q ∈ nw) : Bd fi c l nw st (Pure news f) := ⟨fun s Q F N k =>
  h.h s Q F N fun v nw2 h' tk l' ⟨e1, e2⟩ F' N' => k v news h' tk l' ⟨rfl, e2⟩ F' (by subst e1; exact cb_drop N' sub)⟩
theorem Bd.eqv {fi : Fi} {c : Lc} {l : List (Str × Value)} {news : List (Addr × Obj)} {st : List Stmt} {α : Type} {mk : α → Tok → Value} {x y : α} (h : Bd fi c l news st (Pure news (mk x))) (e : x = y) : Bd fi c l news st (Pure news (mk y)) := e ▸ h
theorem go_is_function : GlobOk (Str.ofString "is_function") (.ref 120) := fun P => ⟨by kernel_rfl, by kernel_rfl⟩
theorem go_wanted_count : GlobOk (Str.ofString "wanted_count") (.ref 113) := fun P => ⟨by kernel_rfl, by kernel_rfl⟩
noncomputable def CountPost (n : Str) (news : List (Addr × Obj)) : Value → List (Addr × Obj) → Prop := fun v nw => ∃ tp t1 t2, v = .ref tp ∧ nw = (tp, tupObj #[.int (least n) t1, .int (most n) t2]) :: news
theorem least_is {n : Str} (h : isID n = true) : least n = 1 ∧ most n = 2 := ⟨if_pos h, if_pos h⟩
theorem least_is2 {n : Str} (h : isID n = false) (h2 : isTwo n = true) : least n = 2 ∧ most n = 2 := by
  unfold least most
  rw [h, h2]
  exact ⟨rfl, rfl⟩
theorem least_is1 {n : Str} (h : isID n = false) (h2 : isTwo n = false) : least n = 1 ∧ most n = 1 := by
  unfold least most
  rw [h, h2]
  exact ⟨rfl, rfl⟩
theorem count_of {n : Str} {news : List (Addr × Obj)} {D : Addr} {i j : Int} {t1 t2 : Tok} (e : least n = i ∧ most n = j) : CountPost n news (.ref D) ((D, tupObj #[.int i t1, .int j t2]) :: news) := ⟨D, t1, t2, rfl, by rw [e.1, e.2]⟩
theorem wanted_count_ok (w : World) (news : List (Addr × Obj)) (n : Str) (t : Tok) : CallOk w 113 2 news [.str n t] (CountPost n news) := by
  k_extra "open"
  apply Bd.ifR (b := isID n) (by k_extra "ts") (fun h => Rt.tup2 rfl Ev.int Ev.int fun D t1 t2 => count_of (least_is h)) fun h => ?_
  apply Bd.ifR (b := isTwo n) (by k_extra "ts") (fun h2 => Rt.tup2 rfl Ev.int Ev.int fun D t1 t2 => count_of (least_is2 h h2)) fun h2 => ?_
  exact Bd.ret (Rt.tup2 rfl Ev.int Ev.int fun D t1 t2 => count_of (least_is1 h h2))
noncomputable def useCodeB (n : Str) (count : Int) (stmt : Bool) : Str :=
  if (stmt && isF n) = true then Str.ofString "is_a_function" else if ((!stmt) && (!isF n)) = true then Str.ofString "not_a_function" else if (decide (count < least n) || decide (most n < count)) = true then Str.ofString "wrong_count" else Str.ofString ""
theorem useCodeB_is (n : Str) (count : Int) (stmt : Bool) : useCodeB n count stmt = useCode n count stmt := by
  unfold useCodeB useCode
  simp only [Bool.and_eq_true, Bool.not_eq_true', Bool.or_eq_true, decide_eq_true_eq]
theorem use_code_ok (w : World) (news : List (Addr × Obj)) (name : Str) (t : Tok) (count : Int) (t2 : Tok) (stmt : Bool) :
    CallOk w 141 5 news [.str name t, .int count t2, .bool stmt] (Pure news fun t => .str (useCode name count stmt) t) := by
  k_extra "open"
  (k_with "calls" => ((with_reducible show Ev _ _ _ _ (PySem.Expr.Call (PySem.Expr.Name (Str.ofString "is_function") _) _ _ _) _); refine Ev.call (k := 2) ok (Nat.le_of_ble_eq_true rfl) rfl go_is_function (by decide +kernel) rfl (Evs.cons rfl (by k_extra "evs") Evs.nil) (by rintro vs ⟨t, r, rfl, rfl⟩; exact is_function_ok _ _ _ _)))
  (k_with "ts" => (first | (apply Ts.ltI; (focus k_extra "evi"); (focus k_extra "evi")) | (apply Ts.gtI; (focus k_extra "evi"); (focus k_extra "evi"))))
  refine Bd.eqv (mk := sv) ?_ (useCodeB_is name count stmt)
  refine Bd.ifV sv (by k_extra "ts") (fun _ => Ev.str) fun _ => ?_
  refine Bd.ifV sv (by k_extra "ts") (fun _ => Ev.str) fun _ => ?_
  refine Bd.unp2 (by decide +kernel) (by decide +kernel) (fun _ => rfl) (fun _ => rfl) (Rt.call (k := 2) ok (Nat.le_of_ble_eq_true rfl) rfl go_wanted_count (by decide +kernel) rfl (Evs.cons rfl (by k_extra "evs") Evs.nil) (by rintro vs ⟨t, r, rfl, rfl⟩; exact wanted_count_ok _ _ _ _) fun v nw h => h) ?_
  rintro v nw ⟨tp, t1, t2, rfl, rfl⟩
  exact ⟨tp, _, _, rfl, .head _, Bd.drop (Bd.ifV sv (by k_extra "ts") (fun _ => Ev.str) fun _ => Bd.val Ev.str) fun q h => .tail _ h⟩
theorem go_is_const : GlobOk (Str.ofString "is_const") (.ref 106) := fun P => ⟨by kernel_rfl, by kernel_rfl⟩
theorem go_is_plain : GlobOk (Str.ofString "is_plain") (.ref 197) := fun P => ⟨by kernel_rfl, by kernel_rfl⟩
theorem is_const_ok (w : World) (news : List (Addr × Obj)) (a : Addr) (pl : Int) (d : Sd) (h : SideAt w.params news a pl d) : CallOk w 106 2 news [.ref a] (Pure news (vv (.bool (d.sh.op == Str.ofString "const")))) := by
  k_extra "open"
  k_extra "bb"
noncomputable def rangeB (sh : Sh) : Bool := match sh with
  | .cint i => decide (i < 0) || decide (31 < i)
  | _ => false
theorem rangeB_is (sh : Sh) (code : Str) : (if (sh.op == Str.ofString "const" && rangeB sh) = true then code else Str.ofString "") = rangeCode sh code := by
  cases sh with
  | cint i =>
    unfold rangeCode rangeB
    rw [show ((Sh.cint i).op == Str.ofString "const") = true from rfl, Bool.true_and]
    simp only [Bool.or_eq_true, decide_eq_true_eq]
  | _ => exact if_neg (by simp [rangeB])
theorem cint_of {sh : Sh} (h : (sh.op == Str.ofString "const") = true) (hw : sh.isStr = false) : ∃ i, sh = .cint i := by
  cases sh with
  | cint i => exact ⟨i, rfl⟩
  | letter => cases hw
  | text => cases hw
  | var _ => exact absurd (show (Str.ofString "var" == Str.ofString "const") = true from h) (by decide)
  | neg => exact absurd (show (Str.ofString "neg" == Str.ofString "const") = true from h) (by decide)
  | typ => exact absurd (show (Str.ofString "type" == Str.ofString "const") = true from h) (by decide)
theorem s_evInt {fi : Fi} {c : Lc} {l : List (Str × Value)} {news : List (Addr × Obj)} {e : PySem.Expr} {p : Pos} {k : Nat} {a : Addr} {pl i : Int} {d : Sd} (he : Ev fi c l news e (vv (.ref a))) (hb : Base e) (h : SideAt c.w.params news a pl d) (hi : d.sh = .cint i) (O : c.Ok k) : Ev fi c l news (.Attribute e (Str.ofString "value") p) (iv i) := by
  obtain ⟨ty, kids, v, h1, h2, h3⟩ := h
  rw [hi] at h3
  obtain ⟨t, rfl⟩ := h3
  exact Ev.toI (n_evValue he hb h1 rfl O)
theorem range_code_ok (w : World) (news sub : List (Addr × Obj)) (a : Addr) (pl : Int) (d : Sd) (h : SideAt w.params sub a pl d) (hsub : ∀ q ∈ sub, q ∈ news) (hw : d.sh.isStr = false) (code : Str) (t : Tok) :
    CallOk w 169 5 news [.ref a, .str code t] (Pure news fun t => .str (rangeCode d.sh code) t) := by
  have h0 := h.mono hsub
  k_extra "open"
  (k_with "calls" => ((with_reducible show Ev _ _ _ _ (PySem.Expr.Call (PySem.Expr.Name (Str.ofString "is_const") _) _ _ _) _); refine Ev.call (k := 2) ok (Nat.le_of_ble_eq_true rfl) rfl go_is_const (by decide +kernel) rfl (Evs.cons rfl (by k_extra "evr") Evs.nil) (by rintro vs ⟨t, r, rfl, rfl⟩; exact is_const_ok _ _ _ _ _ h0)))
  refine Bd.eqv (mk := sv) ?_ (rangeB_is d.sh code)
  refine Bd.ifV sv (Ts.and (by k_extra "ts") fun a9 => ?_) (fun _ => by k_extra "evs") fun _ => Bd.val Ev.str
  obtain ⟨i, hi⟩ := cint_of a9 hw
  (k_with "evi" => (apply s_evInt; (focus k_extra "evr"); (focus k_extra "base"); (focus assumption); (focus exact hi); (focus assumption)))
  rw [show rangeB d.sh = (decide (i < 0) || decide (31 < i)) by rw [hi]; rfl]
  k_extra "ts"
theorem go_is_letter : GlobOk (Str.ofString "is_letter") (.ref 183) := fun P => ⟨by kernel_rfl, by kernel_rfl⟩
noncomputable def letterB (d : Sd) : Bool := match d.sh with
  | .letter => true
  | .text => false
  | _ => false
theorem letter_is (d : Sd) (hw : d.wf) : (d.sh.op == Str.ofString "const" && (d.form == Str.ofString "string" && letterB d)) = isLetter d := by
  obtain ⟨sh, f, a, b, c⟩ := d
  cases sh with
  | letter =>
    have h1 : (f == Str.ofString "string") = true := hw
    show ((Str.ofString "const" == Str.ofString "const") && ((f == Str.ofString "string") && true)) = true
    rw [h1]; rfl
  | text =>
    show (_ && (_ && false)) = false
    rw [Bool.and_false, Bool.and_false]
  | _ =>
    show (_ && (_ && false)) = false
    rw [Bool.and_false, Bool.and_false]
theorem str_of {d : Sd} (hw : d.wf) (h : (d.sh.op == Str.ofString "const") = true) (hf : (d.form == Str.ofString "string") = true) : d.sh = .letter ∨ d.sh = .text := by
  obtain ⟨sh, f, a, b, c⟩ := d
  cases sh with
  | letter => exact .inl rfl
  | text => exact .inr rfl
  | cint i =>
    have h1 : (f == Str.ofString "string") = false := hw
    exact absurd ((show (f == Str.ofString "string") = true from hf).symm.trans h1) (by decide)
  | var _ => exact absurd (show (Str.ofString "var" == Str.ofString "const") = true from h) (by decide)
  | neg => exact absurd (show (Str.ofString "neg" == Str.ofString "const") = true from h) (by decide)
  | typ => exact absurd (show (Str.ofString "type" == Str.ofString "const") = true from h) (by decide)
noncomputable def strOf : Sh → Str
  | .letter => Str.ofString "a"
  | _ => Str.ofString "ab"
theorem s_evStr {fi : Fi} {c : Lc} {l : List (Str × Value)} {news : List (Addr × Obj)} {e : PySem.Expr} {p : Pos} {k : Nat} {a : Addr} {pl : Int} {d : Sd} (he : Ev fi c l news e (vv (.ref a))) (hb : Base e) (h : SideAt c.w.params news a pl d) (hi : d.sh = .letter ∨ d.sh = .text) (O : c.Ok k) : Ev fi c l news (.Attribute e (Str.ofString "value") p) (sv (strOf d.sh)) := by
  obtain ⟨ty, kids, v, h1, h2, h3⟩ := h
  rcases hi with hi | hi
  · rw [hi] at h3 ⊢
    obtain ⟨t, rfl⟩ := h3
    exact Ev.toS (n_evValue he hb h1 rfl O)
  · rw [hi] at h3 ⊢
    obtain ⟨t, rfl⟩ := h3
    exact Ev.toS (n_evValue he hb h1 rfl O)
theorem letterB_is {d : Sd} (h : d.sh = .letter ∨ d.sh = .text) : letterB d = (((strOf d.sh).length : Int) == 1) := by
  unfold letterB
  rcases h with h | h <;> rw [h] <;> rfl
theorem is_letter_ok (w : World) (news sub : List (Addr × Obj)) (a : Addr) (pl : Int) (d : Sd) (h : SideAt w.params sub a pl d) (hsub : ∀ q ∈ sub, q ∈ news) (hw : d.wf) :
    CallOk w 183 5 news [.ref a] (Pure news fun _ => .bool (isLetter d)) := by
  have h0 := h.mono hsub
  k_extra "open"
  (k_with "calls" => ((with_reducible show Ev _ _ _ _ (PySem.Expr.Call (PySem.Expr.Name (Str.ofString "is_const") _) _ _ _) _); refine Ev.call (k := 2) ok (Nat.le_of_ble_eq_true rfl) rfl go_is_const (by decide +kernel) rfl (Evs.cons rfl (by k_extra "evr") Evs.nil) (by rintro vs ⟨t, r, rfl, rfl⟩; exact is_const_ok _ _ _ _ _ h0)))
  refine Bd.eqv (mk := fun b => vv (.bool b)) ?_ (letter_is d hw)
  refine Bd.val (Ev.and (by k_extra "calls") fun a9 => Ev.and (by k_extra "evb") fun a8 => Ev.and1 ?_)
  have hs := str_of hw a9 a8
  rw [letterB_is hs]
  refine Ev.eqI (Ev.lenS ok (by decide +kernel) rfl (s_evStr (by k_extra "evr") base_name h0 hs ok) ?_) Ev.int
  rcases hs with hs | hs <;> rw [hs] <;> decide
noncomputable def ordB (d : Sd) : Str := if (isCBS d.form || isLetter d) = true then Str.ofString "" else Str.ofString "bad_argument"
theorem ordB_is (d : Sd) : ordB d = ordCode d := by
  unfold ordB ordCode
  simp only [Bool.or_eq_true]
theorem ord_code_ok (w : World) (news sub : List (Addr × Obj)) (a : Addr) (pl : Int) (d : Sd) (h : SideAt w.params sub a pl d) (hsub : ∀ q ∈ sub, q ∈ news) (hw : d.wf) :
    CallOk w 190 9 news [.ref a] (Pure news fun t => .str (ordCode d) t) := by
  have h0 := h.mono hsub
  k_extra "open"
  (k_with "calls" => ((with_reducible show Ev _ _ _ _ (PySem.Expr.Call (PySem.Expr.Name (Str.ofString "is_letter") _) _ _ _) _); refine Ev.call (k := 5) ok (Nat.le_of_ble_eq_true rfl) rfl go_is_letter (by decide +kernel) rfl (Evs.cons rfl (by k_extra "evr") Evs.nil) (by rintro vs ⟨t, r, rfl, rfl⟩; exact is_letter_ok _ _ _ _ _ _ h hsub hw)))
  refine Bd.eqv (mk := sv) ?_ (ordB_is d)
  k_extra "bs"
noncomputable def valB (f : Str) (d : Sd) : Str := if (isPlain f && (isPlain d.form || isLetter d)) = true then Str.ofString "" else Str.ofString "bad_argument"
theorem valB_is (f : Str) (d : Sd) : valB f d = valCode f d := by
  unfold valB valCode
  simp only [Bool.or_eq_true, Bool.and_eq_true]
theorem val_code_ok (w : World) (news sub : List (Addr × Obj)) (a : Addr) (pl : Int) (d : Sd) (h : SideAt w.params sub a pl d) (hsub : ∀ q ∈ sub, q ∈ news) (hw : d.wf) (ty1 : Addr) (form1 : Str) (sz1 ln1 nu1 : Int) (hty : TypeAt w.params sub ty1 form1 sz1 ln1 nu1) :
    CallOk w 204 9 news [.ref ty1, .ref a] (Pure news fun t => .str (valCode form1 d) t) := by
  obtain ⟨ty, kids, v, hn, ht, hv⟩ := h.mono hsub
  k_extra "open"
  (k_with "calls" => ((with_reducible show Ev _ _ _ _ (PySem.Expr.Call (PySem.Expr.Name (Str.ofString "is_letter") _) _ _ _) _); refine Ev.call (k := 5) ok (Nat.le_of_ble_eq_true rfl) rfl go_is_letter (by decide +kernel) rfl (Evs.cons rfl (by k_extra "evr") Evs.nil) (by rintro vs ⟨t, r, rfl, rfl⟩; exact is_letter_ok _ _ _ _ _ _ h hsub hw)))
  (k_with "calls" => ((with_reducible show Ev _ _ _ _ (PySem.Expr.Call (PySem.Expr.Name (Str.ofString "is_plain") _) _ _ _) _); refine Ev.call (k := 5) ok (Nat.le_of_ble_eq_true rfl) rfl go_is_plain (by decide +kernel) rfl (Evs.cons rfl (by k_extra "evr") Evs.nil) (by rintro vs ⟨t, r, rfl, rfl⟩; first | exact is_plain_ok _ _ _ _ _ _ _ _ hty hsub | exact is_plain_ok _ _ _ _ _ _ _ _ ht (fun _ h => h))))
  refine Bd.eqv (mk := sv) ?_ (valB_is form1 d)
  k_extra "bs"
theorem ao_boolean : AttrOk 367 (Str.ofString "boolean") := fun P => ⟨none, by kernel_rfl, by kernel_rfl, by kernel_rfl, by kernel_rfl⟩
theorem ao_char : AttrOk 367 (Str.ofString "char") := fun P => ⟨none, by kernel_rfl, by kernel_rfl, by kernel_rfl, by kernel_rfl⟩
theorem ao_integer : AttrOk 367 (Str.ofString "integer") := fun P => ⟨none, by kernel_rfl, by kernel_rfl, by kernel_rfl, by kernel_rfl⟩
section
variable {fi : Fi} {c : Lc} {l : List (Str × Value)} {news : List (Addr × Obj)} {e : PySem.Expr} {p : Pos} {k : Nat} {a tb tc ti : Addr}
theorem y_evBoolean (he : Ev fi c l news e (vv (.ref a))) (hb : Base e) (h : TysAt c.w.params news a tb tc ti) (O : c.Ok k) : Ev fi c l news (.Attribute e (Str.ofString "boolean") p) (vv (.ref tb)) := by
  obtain ⟨z, h1, h2⟩ := h
  exact Ev.attr hb he O.X ao_boolean h1 h2 rfl rfl
theorem y_evChar (he : Ev fi c l news e (vv (.ref a))) (hb : Base e) (h : TysAt c.w.params news a tb tc ti) (O : c.Ok k) : Ev fi c l news (.Attribute e (Str.ofString "char") p) (vv (.ref tc)) := by
  obtain ⟨z, h1, h2⟩ := h
  exact Ev.attr hb he O.X ao_char h1 h2 rfl rfl
theorem y_evInteger (he : Ev fi c l news e (vv (.ref a))) (hb : Base e) (h : TysAt c.w.params news a tb tc ti) (O : c.Ok k) : Ev fi c l news (.Attribute e (Str.ofString "integer") p) (vv (.ref ti)) := by
  obtain ⟨z, h1, h2⟩ := h
  exact Ev.attr hb he O.X ao_integer h1 h2 rfl rfl
end
theorem result_type_ok (w : World) (news sub : List (Addr × Obj)) (tys tb tc ti : Addr) (ht : TysAt w.params sub tys tb tc ti) (hsub : ∀ q ∈ sub, q ∈ news) (name : Str) (t : Tok) (ar : Addr) (hn : (name == Str.ofString "VAL") = false) :
    CallOk w 127 8 news [.ref tys, .str name t, .ref ar] (Pure news fun _ => .ref (resT name tb tc ti)) := by
  have h0 := ht.mono hsub
  k_extra "open"
  refine Bd.ifV (fun a => vv (.ref a)) (by k_extra "ts") (fun _ => y_evBoolean (by k_extra "evr") base_name h0 ok) fun _ => ?_
  refine Bd.ifV (fun a => vv (.ref a)) (by k_extra "ts") (fun _ => y_evChar (by k_extra "evr") base_name h0 ok) fun _ => ?_
  refine Bd.ifN (Ts.and (b1 := name == Str.ofString "VAL") (b2 := false) (by k_extra "ts") fun h => absurd (h.symm.trans hn) (by decide)) (by rw [hn]; rfl) ?_
  exact Bd.val (y_evInteger (by k_extra "evr") base_name h0 ok)
theorem go_marked : GlobOk (Str.ofString "marked") (.ref 148) := fun P => ⟨by kernel_rfl, by kernel_rfl⟩
theorem go_variable_code : GlobOk (Str.ofString "variable_code") (.ref 162) := fun P => ⟨by kernel_rfl, by kernel_rfl⟩
theorem go_target_code : GlobOk (Str.ofString "target_code") (.ref 244) := fun P => ⟨by kernel_rfl, by kernel_rfl⟩
theorem go_range_code : GlobOk (Str.ofString "range_code") (.ref 169) := fun P => ⟨by kernel_rfl, by kernel_rfl⟩
theorem go_ord_code : GlobOk (Str.ofString "ord_code") (.ref 190) := fun P => ⟨by kernel_rfl, by kernel_rfl⟩
theorem go_val_code : GlobOk (Str.ofString "val_code") (.ref 204) := fun P => ⟨by kernel_rfl, by kernel_rfl⟩
theorem go_const : GlobOk (Str.ofString "const") (.ref 71) := fun P => ⟨by kernel_rfl, by kernel_rfl⟩
theorem go_result_type : GlobOk (Str.ofString "result_type") (.ref 127) := fun P => ⟨by kernel_rfl, by kernel_rfl⟩
theorem go_folded : GlobOk (Str.ofString "folded") (.ref 216) := fun P => ⟨by kernel_rfl, by kernel_rfl⟩
theorem go_val_node : GlobOk (Str.ofString "val_node") (.ref 223) := fun P => ⟨by kernel_rfl, by kernel_rfl⟩
theorem go_function_code : GlobOk (Str.ofString "function_code") (.ref 176) := fun P => ⟨by kernel_rfl, by kernel_rfl⟩
theorem go_statement_code : GlobOk (Str.ofString "statement_code") (.ref 237) := fun P => ⟨by kernel_rfl, by kernel_rfl⟩
theorem go_function_node : GlobOk (Str.ofString "function_node") (.ref 209) := fun P => ⟨by kernel_rfl, by kernel_rfl⟩
theorem go_statement_node : GlobOk (Str.ofString "statement_node") (.ref 251) := fun P => ⟨by kernel_rfl, by kernel_rfl⟩
theorem go_use_code : GlobOk (Str.ofString "use_code") (.ref 141) := fun P => ⟨by kernel_rfl, by kernel_rfl⟩
theorem go_Node : GlobOk (Str.ofString "Node") (.ref 60) := fun P => ⟨by kernel_rfl, by kernel_rfl⟩
theorem fill : PySem.Challenge.rw_nu0340_01 = PySem.Challenge.rw_nu0340_01 ∧ hd.heap_1 = hd.heap_1 := by
  w_top off
  k_fill
  exact ⟨rfl, rfl⟩
local macro_rules | `(tactic| k_room) => `(tactic| (simp only [depth_under_make, depth_under_kw, depth_in1, depth_deeper, ktrTop]; omega))
local macro_rules | `(tactic| k_units) => `(tactic| (simp only [units_in1, units_deeper, units_under_make, Around.mark_units, ktrTop]; have hcL9 := cLine_is; omega))
set_option maxHeartbeats 8000000 in
theorem law_pool_ok (w : World) (loose : List Str) (mean : ExcName → Option Value) (mg mb : Str → Option Value) (dp un : Nat) (gd : Option (List Code)) (cn : Str) (cs : Scope) (a : Addr) (ccd : Value) (cl : List (Str × Addr)) (outer : List Env) (A₀ : Around) (base h₀ : Heap) (L : Addr) (m : Str → Option Value) (s : Shared)
    (Q E : Value → Shared → Prop) (news : List (Addr × Obj)) (sa : Addr) (vs : List Value) (ns : List Int) (hS : h₀.IsList sa vs.toArray) (hI : IntsAre vs ns) (hl : ns.length ≤ 63) (hc : ∀ q ∈ news, ∀ its n, q.2 ≠ W.listOf its n)
    (B : Below A₀ base outer h₀) (F : Fr h₀ L s.heap m) (X : (hd.heap_1 w.params).In h₀) (N : News h₀ L s.heap news) (T : Top VQ loose mean mg mb h₀) (hk : cs.kind = .function) (hd : dp + 8 < recursionLimit) (hu : un + 8 * 8 < cLine)
    (hret : ∀ r news' h' tk', Fr h₀ L h' m → News h₀ L h' news' → PoolPost news r news' → Q r { s with heap := h', toks := tk' }) :
    wpAny (model PySem.Challenge.pw_nu0340_01 w) (ktrTop dp un gd cn cs L a ccd cl outer) (call (.ref 378) [.ref sa]) Q E s := by
  (k_with "pyIter ref" => (k_of "cell" => k_state (fun pre mix figures => 0 ≤ mix ∧ mix < 1009 ∧ (∀ x ∈ figures, 0 ≤ x) ∧ figures.length ≤ 60 * pre.length) "mix" "figures"))
  (k_with "pyIter ref" => (k_of "step" => k_state_given ["figures!"] (fun f0 pre rest figures => 0 ≤ rest ∧ (∀ x ∈ figures, 0 ≤ x) ∧ figures.length ≤ f0.length + pre.length) "rest" "figures"))
  (k_with "call builtin:len" => (k_here; k_dflt (refine lenI (by k_asm) (by k_mem) (by assumption) (by omega) ?_; k_whole)))
  (k_with "call builtin:len" => (k_here; k_dflt (refine lenP (by k_asm) (by k_mem) (by assumption) (by omega) ?_; k_whole)))
  (k_with "state" => first
    | (refine ⟨?_, ?_, ?_⟩; (focus first | omega | exact fdiv_nn (by assumption)); (focus first | exact pool_step (by assumption) _ | assumption); (focus first | omega | (simp only [List.length_append, List.length_cons, List.length_nil]; omega)); done)
    | (refine ⟨?_, ?_, ?_, ?_⟩; (focus first | omega | exact fmod_lo _ (by decide)); (focus first | omega | exact fmod_hi _ (by decide)); (focus first | exact pool_step (by assumption) _ | assumption); (focus first | omega | (simp only [List.length_append, List.length_cons, List.length_nil]; omega)); done))
  refine wpAny_call ?_
  k_dflt (apply enterW []; (focus exact rfl); (focus exact rfl); (focus first | exact rfl | assumption); (focus k_asm); (focus k_asm); (focus k_asm); (focus k_asm); (focus k_asm); (focus k_is); (focus k_is); (focus k_room); (focus exact BindsTo.of_eq (by kernel_rfl)); (focus exact rfl); (focus kernel_rfl); (focus kernel_rfl); (focus exact rfl); (focus exact rfl); (focus exact rfl); k_whole; intro g' L' h' tk' FG' F' N' B' X' T'; (try dsimp only [List.map, List.zip, List.zipWith, List.reverse, List.reverseAux, List.cons_append, List.nil_append, List.append_eq] at F'); (try dsimp only); (try k_fold))
  replace hS := Fr.lst FG' hS
  k_steps
  all_goals (first
    | exact poolEnd hret (by assumption) (by assumption) (by k_mem) (by k_mem) (by intro p9 h9; repeat (first | exact h9 | exact List.mem_append_left _ h9 | exact List.mem_append_left _ (List.mem_append_left _ h9) | apply List.mem_cons_of_mem)) hc (by assumption) (by assumption) (by first | omega | (have e9 : (rangeKs 0 (60 - 0 : Int).toNat).length = 60 := by decide) <;> omega) (by first | omega | exact fmod_lo _ (by decide)) (by first | omega | exact fmod_hi _ (by decide))
    | exact poolEndP hret (by assumption) (by assumption) (by k_mem) (by k_mem) (by intro p9 h9; repeat (first | exact h9 | exact List.mem_append_left _ h9 | exact List.mem_append_left _ (List.mem_append_left _ h9) | apply List.mem_cons_of_mem)) hc (by assumption) (by assumption) (fmod_lo _ (by decide)) (by omega) (by first | omega | exact fmod_lo _ (by decide)) (by first | omega | exact fmod_hi _ (by decide))
    )

theorem usePool {w : World} {loose : List Str} {mean : ExcName → Option Value} {mg mb : Str → Option Value} {dp un : Nat} {gd : Option (List Code)} {cn : Str} {cs : Scope} {a : Addr} {ccd : Value} {cl : List (Str × Addr)} {outer : List Env} {A₀ : Around} {base h₀ : Heap} {L : Addr} {m : Str → Option Value} {s : Shared}
    {Q E : Value → Shared → Prop} {news : List (Addr × Obj)} {sa : Addr} {vs : List Value} {ns : List Int}
    (B : Below A₀ base outer h₀) (F : Fr h₀ L s.heap m) (X : (hd.heap_1 w.params).In h₀) (N : News h₀ L s.heap news) (T : Top VQ loose mean mg mb h₀) (hk : cs.kind = .function) (hS : h₀.IsList sa vs.toArray) (hI : IntsAre vs ns) (hl : ns.length ≤ 63) (hc : ∀ q ∈ news, ∀ its n, q.2 ≠ W.listOf its n) (hd : dp + 8 < recursionLimit) (hu : un + 8 * 8 < cLine)
    (ret : ∀ pl fg mix u1 u2 np nf vs ns h' tk', Fr h₀ L h' m → News h₀ L h' ((pl, poolObj fg 0 mix u1 u2 np) :: (fg, W.listOf (List.toArray vs) nf) :: news) → IntsAre vs ns → (∀ x ∈ ns, 0 ≤ x) → ns.length ≤ 3000 → 0 ≤ mix → mix < 1009 → @Ne Nat fg pl → (∀ p ∈ news, @Ne Nat fg p.1 ∧ @Ne Nat pl p.1) → Q (.ref pl) { s with heap := h', toks := tk' }) :
    wpAny (model PySem.Challenge.pw_nu0340_01 w) (ktrTop dp un gd cn cs L a ccd cl outer) (call (.ref 378) [.ref sa]) Q E s :=
  law_pool_ok w loose mean mg mb dp un gd cn cs a ccd cl outer A₀ base h₀ L m s Q E news sa vs ns hS hI hl hc B F X N T hk hd hu fun r nw h' tk' F' N' P => by
    obtain ⟨pl, fg, mix, u1, u2, np, nf, vs, ns, e, e', p1, p2, p3, p4, p5, p6, p7⟩ := P
    subst e; subst e'
    exact ret pl fg mix u1 u2 np nf vs ns h' tk' F' N' p1 p2 p3 p4 p5 p6 fun p hp => ⟨Ne.symm (p7 p hp).1, Ne.symm (p7 p hp).2⟩

local macro_rules | `(tactic| walk_at $s:str) => `(tactic| k_extra $(Lean.Syntax.mkStrLit ("m " ++ s.getString)))
local macro_rules | `(tactic| k_enter) => `(tactic| k_extra "m k_enter")
local macro_rules | `(tactic| k_all) => `(tactic| k_extra "all")
local macro_rules | `(tactic| k_mem) => `(tactic| (with_reducible refine List.mem_append_right _ ?_; k_mem))
local macro_rules | `(tactic| k_mem) => `(tactic| (with_reducible refine List.mem_cons_of_mem _ ?_; k_mem))
local macro_rules | `(tactic| k_mem) => `(tactic| k_dflt (exact List.mem_cons_self))
theorem words_at_13 : True := by
  k_with "m exec For Name Name cons nil" => k_extra "m exec For"
  trivial
theorem words_at_17 : True := by
  k_with "m subscriptTail Name Name ref int" => k_extra "m item"
  trivial
theorem words_at_18 : True := by
  k_with "m subscriptTail Name Call ref int" => k_extra "m item"
  trivial
theorem words_at_19 : True := by
  k_with "m subscriptTail Name BinOp ref int" => k_extra "m item"
  trivial
theorem words_at_20 : True := by
  k_with "m binaryOp Pow int int" => k_extra "m pow"
  trivial
theorem words_at_21 : True := by
  k_with "m subscriptTail List cons" => k_extra "m item"
  trivial
theorem words_at_22 : True := by
  k_with "m call builtin:dict.get" => k_extra "m dict.get"
  trivial
theorem words_at_23 : True := by
  k_with "m ite" => k_extra "m if"
  trivial
local macro_rules | `(tactic| k_lt $_) => `(tactic| skip)
local macro_rules | `(tactic| k_ne) => `(tactic| (refine neN ?_; (try dsimp only); k_extra "ne"))
theorem words_at_26 : True := by
  k_with "m compareOp NotIn str ref" => k_extra "m notin"
  trivial
theorem words_at_27 : True := by
  k_with "m compareOp In str ref" => k_extra "m notin"
  trivial
theorem words_at_28 : True := by
  k_with "m subscriptTail Subscript Constant ref int" => k_extra "m subscriptTail Name Constant ref int"
  trivial
theorem words0 : True := by
  k_with "m newTuple" => (k_here; k_dflt (refine kup_newTuple (by k_asm) (by k_asm) ?_ (by kmk_size)); intro D' h' F' N' l1; (try k_sweep))
  k_with "m notin" => (k_here; k_dflt (first | refine fn_notin (by k_asm) (by k_mem) (by assumption) ?_ | refine fn_in (by k_asm) (by k_mem) (by assumption) ?_); k_whole)
  k_with "all" => first | assumption | exact List.forall_mem_nil _ | exact ne_all (by with_reducible assumption) (fun _ h9 => h9) | (apply ne_all; (focus with_reducible assumption); (focus intro p9 h9; repeat (first | exact h9 | apply List.mem_cons_of_mem)); done) | (refine List.forall_mem_cons.mpr ⟨?_, ?_⟩; (focus k_ne); (focus k_all); done)
  k_with "ne" => first | assumption | (refine Nat.ne_of_gt ?_; k_extra "lo"; done) | (refine Nat.ne_of_lt ?_; k_extra "lo"; done) | exact Nat.ne_of_gt (by assumption) | exact Nat.ne_of_lt (by assumption) | omega
  k_with "lr" => first | (apply lowR; (focus with_reducible assumption); (focus intro p9 h9; repeat (first | exact h9 | apply List.mem_cons_of_mem)); done) | (apply lowR2; (focus with_reducible assumption); (focus with_reducible assumption); (focus intro p9 h9; repeat (first | exact h9 | apply List.mem_cons_of_mem)); done)
  k_with "lo" => first | assumption | (apply low1; (focus with_reducible assumption); (focus k_mem); done) | (apply low2; (focus with_reducible assumption); (focus with_reducible assumption); (focus k_mem); done)
  k_with "m setAttr ref" => (k_here; k_dflt (apply set_dict; (focus k_asm); (focus k_asm); (focus k_asm); (focus k_inst); (focus exact rfl); (focus k_is); (focus k_is); (focus k_is); (focus k_is); (focus exact rfl); (focus with_reducible first | exact put_ct | exact put_base | exact put_length | exact put_module | exact put_label | exact put_readonly); (focus k_upd); (focus first | exact Nat.le_of_ble_eq_true rfl | (simp only [List.length_cons]; omega)); k_whole; intro h' F' N'; (try dsimp only at N'); (try k_sweep)))
  k_with "m getAttr ref" => (k_here; (with_reducible show wpAny _ _ (getAttr (Value.ref _) (Str.ofString "counter") _) _ _ _); k_dflt (apply get_own; (focus k_asm); (focus k_asm); (focus k_inst); (focus k_is); (focus k_is); (focus k_is); (focus k_is); (focus exact rfl); (focus k_handed); k_whole))
  k_with "m if" => (k_openite; first | (with_reducible refine ite_isFalse (by with_reducible assumption) ?_) | (with_reducible refine ite_pos (by with_reducible assumption) ?_) | (with_reducible refine split_ieq ?_ ?_ <;> intro a9))
  k_with "m dict.get" => (k_here; (with_reducible show wpAny _ _ (call (Value.builtin "dict.get") [Value.ref _, Value.str _ _, Value.ref _]) _ _ _); k_dflt (refine want_get (by k_asm) (by k_mem) (by assumption) (by assumption) ?_ ?_ ?_ ?_) <;> intros)
  k_with "m dict.get" => (k_here; (with_reducible show wpAny _ _ (call (Value.builtin "dict.get") [Value.ref _, Value.int _ _, Value.str _ _]) _ _ _); k_dflt (refine kind_get2 (by k_asm) (by k_mem) (by assumption) (by assumption) ?_; k_whole); intro t9)
  k_with "m pow" => ((first | refine pow31 (fun t9 => ?_) | refine pow32 (fun t9 => ?_)); k_whole)
  k_with "m item" => (k_here; k_dflt (refine itemAny (by k_asm) (by k_mem) (by first | omega | exact fmod_lo _ (by decide)) (by (show _ < ((_ : Nat) : Int)); (simp only [List.size_toArray, List.length_cons, List.length_nil]); first | omega | exact fmod_hi _ (by decide)) (Nat.le_of_ble_eq_true rfl) ?_; k_whole); intro v9 hv9; (rename News _ _ _ _ => lN'); (replace lN' := cb_drop lN' (fun _ h9 => List.mem_cons_of_mem _ h9)))
  k_with "m call builtin:len" => (k_here; k_dflt (refine lenI (by k_asm) (by k_mem) (by assumption) (by assumption) ?_; k_whole))
  k_with "m subscriptTail" => (k_here; k_dflt (refine itemI (by k_asm) (by k_mem) (by assumption) (by assumption) (by assumption) (by first | assumption | (simp only [decide_eq_true_eq] at *; omega)) ?_; k_whole); intro t9 x9 hx9)
  k_with "m call builtin:len" => (k_here; k_dflt (refine lenL (by k_asm) (by k_mem) (by assumption) ?_; k_whole))
  k_with "m CompEnd" => (k_here; k_dflt (refine LCg.CompEnd.intro (by assumption) (by assumption) _ (fun _ h9 => h9) (by first | assumption | (simp only [LCg.Off3, and_true]; assumption)) (by lcg_src) ?_))
  k_with "m exec For" => (k_here; (rename Fr _ _ _ _ => lF'); (with_unfolding_all refine For_invVF lF' (by exact rfl) (by exact rfl) ?_); k_whole)
  k_with "u5" => ((focus k_asm); (focus k_asm); (focus k_asm); (focus k_asm); (focus k_asm))
  k_with "u3" => ((focus k_asm); (focus k_asm); (focus k_asm))
  k_with "u9" => ((focus first | omega | ((try simp only [depth_under_make, depth_under_kw, depth_in1, depth_deeper, ktrTop]); omega)); (focus first | omega | ((try simp only [units_in1, units_deeper, units_under_make, Around.mark_units, ktrTop]); omega)); k_whole)
  k_with "m eval Name" => (apply nameO; (focus with_reducible assumption); (focus ((repeat (first | with_reducible exact look_hit | (apply look_miss; kernel_rfl))); done)); (focus kernel_rfl); k_whole)
  k_with "m storeName" => (apply storeO; (focus with_reducible assumption); (focus with_reducible assumption); (focus kernel_rfl); k_whole; intro h' tk' F' N'; (try k_sweep))
  k_with "m execs cons" => (refine wpAny_execs_cons ?_; (try k_fold); (try dsimp only))
  k_with "m execs cons Assign cons" => (refine wpAny_execs_cons ?_; (try k_fold); (try dsimp only))
  k_with "m en1" => ((focus exact rfl); (focus exact rfl); (focus first | exact rfl | assumption); (focus k_asm); (focus k_asm); (focus k_asm); (focus k_asm); (focus k_asm); (focus k_is); (focus k_is); (focus k_room))
  k_with "m en2" => ((focus exact rfl); (focus kernel_rfl); (focus kernel_rfl); (focus exact rfl); (focus exact rfl); (focus exact rfl); k_whole; intro g' L' h' tk' FG' F' N' B' X' T'; (try dsimp only [List.map, List.zip, List.zipWith, List.reverse, List.reverseAux, List.cons_append, List.nil_append, List.append_eq] at F'); (try dsimp only); (try k_fold))
  k_with "m k_enter" => (apply enterW []; k_extra "m en1"; (focus exact BindsTo.of_eq (by kernel_rfl)); k_extra "m en2")
  k_with "m k_enter" => (k_dflt (show codeAny _ _ (Code.call (Value.ref 57) ⟨[_, _, _, _, _, _], _⟩) _ _); apply enterW []; k_extra "m en1"; (focus exact binds_K (by k_in) rfl (by k_is) rfl rfl rfl); k_extra "m en2")
  k_with "m k_enter" => (k_dflt (show codeAny _ _ (Code.call (Value.ref 57) ⟨[_, _, _, _, _], _⟩) _ _); apply enterW [Value.none]; k_extra "m en1"; (focus exact binds_K (by k_in) rfl (by k_is) rfl rfl rfl); k_extra "m en2")
  k_with "m k_enter" => (k_dflt (show codeAny _ _ (Code.call (Value.ref 357) ⟨[_, _, _], _⟩) _ _); apply enterW [_, _]; k_extra "m en1"; (focus exact binds_K (by k_in) rfl (by k_is) rfl rfl rfl); k_extra "m en2")
  k_with "m exec While Compare cons nil" => (k_here; k_dflt (refine whl_start 100 ?_))
  k_with "m WhlIf" => (refine WhlIf.no ?_ ?_; (with_reducible assumption))
  k_with "m subscriptTail Name Constant ref int" => (k_here; k_dflt (refine itemL (by k_asm) (by k_mem) (by exact rfl) (by exact rfl) ?_; k_whole))
  k_with "m subscriptTail Name Constant ref int" => (k_here; k_dflt (apply item_tupleT; (focus (exact News.isTup (by k_asm) (by k_mem))); (focus decide); (focus decide); (focus exact rfl); (focus exact rfl); k_whole))
  k_with "m binaryOp LShift int int" => k_dflt (refine lshift_int_small (by omega) (by omega) (by assumption) ?_)
  k_with "m pyIter ref" => (k_here; (with_reducible show wpAny _ _ (pyIter (Value.ref _)) (fun it s₂ => LoopAtV _ _ _ _ _ _ _ _ _ it s₂) _ _); k_dflt ((rename Fr _ _ _ _ => lF'); (rename News _ _ _ _ => lN'); refine iter_listUnr (by rfl) lF' lN' (by k_mem) (by rfl) (by rfl) ?_; clear lF'; intro i' l1))
  k_with "m ListRest" => (k_here; k_dflt (first | (refine listRest_cons (fun it' h' tk' hit' F' N' => ?_)) | (refine ListRest.zero (fun h' tk' F' N' => ?_))); (try dsimp only))
  k_with "m UnrEnd" => (k_here; k_dflt (refine unrL (by assumption) (by assumption) (by assumption) (by intro p9 h9; repeat (first | exact h9 | exact ‹∀ q, q ∈ _ → q ∈ _› _ h9 | apply List.mem_cons_of_mem | apply List.mem_append_right)) ⟨by k_mem, ?_⟩))
  k_with "m if" => (first | with_reducible refine ite_ff ?_ | with_reducible refine ite_tt ?_)
  trivial

set_option maxHeartbeats 8000000 in
theorem node_cls5_ok (w : World) (news : List (Addr × Obj)) (op place ty kids value : Value) :
    CallOk w 60 10 news [op, place, ty, kids, value] (newNode w.params news op place ty kids value) := by
  unfold CallOk
  intro loose mean mg mb dp un gd cn cs a ccd cl outer A₀ base h₀ L m s Q E B F X N T hk hd hu hret
  k_steps
  all_goals (first | exact hret _ _ _ _ (by assumption) (cb_drop (by assumption) (by (simp only [List.cons_append, List.nil_append, List.forall_mem_cons]; exact ⟨by k_mem, by k_mem, by (intro p9 h9; repeat (first | exact h9 | apply List.mem_cons_of_mem))⟩))) ⟨_, ⟨_, _, _, _, _, _, _⟩, rfl, rfl, by assumption, by first | assumption | omega⟩)
theorem words_node_cls5_ok : True := by
  k_with "m call ref" => (k_here; (with_reducible show wpAny _ _ (call (Value.ref 60) [_, _, _, _, _]) _ _ _); k_dflt (apply useN; k_extra "u5"; (focus first | exact rfl | assumption); (focus (apply node_cls5_ok; done)); k_extra "u9"); intro x9 z9 h9 tk9 F9 N9 f9 f8; (try k_sweep); (try dsimp only); (try k_fold))
  trivial
set_option maxHeartbeats 8000000 in
theorem node_cls4_ok (w : World) (news : List (Addr × Obj)) (op place ty kids : Value) :
    CallOk w 60 10 news [op, place, ty, kids] (newNode w.params news op place ty kids .none) := by
  unfold CallOk
  intro loose mean mg mb dp un gd cn cs a ccd cl outer A₀ base h₀ L m s Q E B F X N T hk hd hu hret
  k_steps
  all_goals (first | exact hret _ _ _ _ (by assumption) (cb_drop (by assumption) (by (simp only [List.cons_append, List.nil_append, List.forall_mem_cons]; exact ⟨by k_mem, by k_mem, by (intro p9 h9; repeat (first | exact h9 | apply List.mem_cons_of_mem))⟩))) ⟨_, ⟨_, _, _, _, _, _, _⟩, rfl, rfl, by assumption, by first | assumption | omega⟩)
theorem words_node_cls4_ok : True := by
  k_with "m call ref" => (k_here; (with_reducible show wpAny _ _ (call (Value.ref 60) [_, _, _, _]) _ _ _); k_dflt (apply useN; k_extra "u5"; (focus first | exact rfl | assumption); (focus (apply node_cls4_ok; done)); k_extra "u9"); intro x9 z9 h9 tk9 F9 N9 f9 f8; (try k_sweep); (try dsimp only); (try k_fold))
  trivial
set_option maxHeartbeats 8000000 in
theorem type_cls_ok (w : World) (news : List (Addr × Obj)) (nu fo si : Value) :
    CallOk w 310 10 news [nu, fo, si] (newTy w.params news nu fo si) := by
  unfold CallOk
  intro loose mean mg mb dp un gd cn cs a ccd cl outer A₀ base h₀ L m s Q E B F X N T hk hd hu hret
  k_steps
  all_goals (first | exact hret _ _ _ _ (by assumption) (cb_drop (by assumption) (by (simp only [List.cons_append, List.nil_append, List.forall_mem_cons]; exact ⟨by k_mem, by k_mem, by (intro p9 h9; repeat (first | exact h9 | apply List.mem_cons_of_mem))⟩))) ⟨_, ⟨_, _, _, _, _, _, _, _, _, _, _, _, _, 0, 0, 0, 0, _, _, _, _, _, _, _, _⟩, _, rfl, rfl, by assumption, by first | assumption | omega⟩)
theorem words_type_cls_ok : True := by
  k_with "m call ref" => (k_here; (with_reducible show wpAny _ _ (call (Value.ref 310) [_, _, _]) _ _ _); k_dflt (apply useTy; k_extra "u5"; (focus first | exact rfl | assumption); (focus (apply type_cls_ok; done)); k_extra "u9"); intro x9 z9 t9 h9 tk9 F9 N9 f9 f8; (try k_sweep); (try dsimp only); (try k_fold))
  trivial
set_option maxHeartbeats 8000000 in
theorem obj_cls_ok (w : World) (news : List (Addr × Obj)) (name kind ty place : Value) :
    CallOk w 331 10 news [name, kind, ty, place] (newObj w.params news) := by
  unfold CallOk
  intro loose mean mg mb dp un gd cn cs a ccd cl outer A₀ base h₀ L m s Q E B F X N T hk hd hu hret
  k_steps
  all_goals (first | exact hret _ _ _ _ (by assumption) (cb_drop (by assumption) (by (simp only [List.cons_append, List.nil_append, List.forall_mem_cons]; exact ⟨by k_mem, by k_mem, by (intro p9 h9; repeat (first | exact h9 | apply List.mem_cons_of_mem))⟩))) ⟨_, ⟨_, _, _, _, _, _, _, _, _, _, _, _, _, _, _, _, _, _, _, _, _, _, _, _, _, _, _, _⟩, rfl, rfl, by assumption, by first | assumption | omega⟩)
theorem words_obj_cls_ok : True := by
  k_with "m call ref" => (k_here; (with_reducible show wpAny _ _ (call (Value.ref 331) [_, _, _, _]) _ _ _); k_dflt (apply useO; k_extra "u5"; (focus first | exact rfl | assumption); (focus (apply obj_cls_ok; done)); k_extra "u9"); intro x9 z9 h9 tk9 F9 N9 f9 f8; (try k_sweep); (try dsimp only); (try k_fold))
  trivial
set_option maxHeartbeats 8000000 in
theorem law_functions_ok (w : World) (news : List (Addr × Obj)) :
    CallOk w 399 5 news [] (fun r nw => ∃ d o, r = .ref d ∧ nw = (d, o) :: news ∧ (∀ p ∈ news, p.1 < d) ∧ FnAt w d o) := by
  unfold CallOk
  intro loose mean mg mb dp un gd cn cs a ccd cl outer A₀ base h₀ L m s Q E B F X N T hk hd hu hret
  refine wpAny_call ?_
  k_dflt k_enter
  k_steps
  all_goals exact hret _ _ _ _ (by assumption) (by assumption) ⟨_, _, rfl, rfl, by assumption, by assumption, _, _, _, _, _, _, _, _, _, _, by assumption⟩
theorem words_law_functions_ok : True := by
  k_with "m call ref" => (k_here; (with_reducible show wpAny _ _ (call (Value.ref 399) _) _ _ _); k_dflt (show wpAny _ _ (call (Value.ref 399) []) _ _ _; apply useFn; k_extra "u5"; (focus first | exact rfl | assumption); (focus (apply law_functions_ok; done)); k_extra "u9"); intro d9 o9 h9 tk9 F9 N9 f9 q9; (try k_sweep); (try dsimp only); (try k_fold))
  trivial
set_option maxHeartbeats 8000000 in
theorem law_pick_ok (w : World) (pl fg : Addr) (i m : Int) (u1 u2 : Tok) (np : Nat) (rest : List (Addr × Obj)) (vs : List Value) (ns : List Int) (nf : Nat) (hf : (fg, W.listOf vs.toArray nf) ∈ rest) (hI : IntsAre vs ns) (hn : ∀ x ∈ ns, 0 ≤ x) (hl : ns.length ≤ 3000) (hi : 0 ≤ i) (hm : 0 ≤ m ∧ m < 1009) (hp : ∀ q ∈ rest, q.1 ≠ pl) (b : Int) (tb : Tok) (hb : 0 < b ∧ b ≤ 16) :
    CallOk w 385 8 ((pl, poolObj fg i m u1 u2 np) :: rest) [.ref pl, .int b tb] (fun r nw => ∃ x t i2 m2 u3 u4 np2, r = .int x t ∧ nw = (pl, poolObj fg i2 m2 u3 u4 np2) :: rest ∧ 0 ≤ x ∧ x < b ∧ 0 ≤ i2 ∧ 0 ≤ m2 ∧ m2 < 1009) := by
  unfold CallOk
  obtain ⟨hb1, hb2⟩ := hb
  obtain ⟨hm1, hm2⟩ := hm
  intro loose mean mg mb dp un gd cn cs a ccd cl outer A₀ base h₀ L m s Q E B F X N T hk hd hu hret
  refine wpAny_call ?_
  k_dflt k_enter
  k_steps
  all_goals (first | exact hret _ _ _ _ (by assumption) (by assumption) ⟨_, _, _, _, _, _, _, rfl, rfl, fmod_lo _ hb1, fmod_hi _ hb1, by omega, by first | omega | exact fmod_lo _ (by omega), by first | omega | exact fmod_hi _ (by omega)⟩)
set_option maxHeartbeats 8000000 in
theorem law_pickU_ok (w : World) (news : List (Addr × Obj)) (g : Obj → List (Addr × Obj)) (pl fg : Addr) (i mm : Int) (u1 u2 : Tok) (np : Nat) (vs : List Value) (ns : List Int) (nf : Nat) (b : Int) (tb : Tok) (U : UpdF pl (poolObj fg i mm u1 u2 np) news g) (hf : (fg, W.listOf vs.toArray nf) ∈ news) (hI : IntsAre vs ns) (hn : ∀ x ∈ ns, 0 ≤ x) (hl : ns.length ≤ 3000) (hi : 0 ≤ i) (hm : 0 ≤ mm ∧ mm < 1009) (hb : 0 < b ∧ b ≤ 16) :
    CallOk w 385 8 news [.ref pl, .int b tb] (PickPost g fg b) := by
  unfold CallOk
  intro loose mean mg mb dp un gd cn cs a ccd cl outer A₀ base h₀ L m s Q E B F X N T hk hd hu hret
  obtain ⟨pre, post, rfl, hg, a1, a2⟩ := U.split
  have hf2 := mem_drop (l := [(fg, W.listOf vs.toArray nf)]) (fun q hq => by rw [List.mem_singleton.mp hq]; exact hf) (fun q hq => by rw [List.mem_singleton.mp hq]; exact ints_no_pool' hI) _ (List.mem_singleton.mpr rfl)
  refine law_pick_ok w pl fg i mm u1 u2 np (pre ++ post) vs ns nf hf2 hI hn hl hi hm (off_head a1 a2) b tb hb _ _ _ _ _ _ _ _ _ _ _ _ _ _ _ _ _ _ _ _ _ B F X (cb_drop N to_head) T hk hd hu fun r nw h' tk' F' N' P => ?_
  obtain ⟨x, t, i2, m2, u3, u4, np2, rfl, rfl, p1, p2, p3, p4, p5⟩ := P
  exact hret _ _ _ _ F' (cb_drop N' (by rw [hg]; exact of_head)) ⟨⟨x, t, i2, m2, u3, u4, np2⟩, rfl, rfl, p1, p2, p3, p4, p5⟩
theorem words_law_pickU_ok : True := by
  k_with "m call ref" => (k_here; (with_reducible show wpAny _ _ (call (Value.ref 385) [_, _]) _ _ _); k_dflt (apply usePick; k_extra "u5"; (focus first | exact rfl | assumption); (focus (apply law_pickU_ok; (focus (k_updF); done); (focus (k_mem); done); (focus (assumption); done); (focus (assumption); done); (focus (assumption); done); (focus (first | assumption | omega); done); (focus (first | assumption | exact ⟨by assumption, by assumption⟩); done); (focus (omega); done); done)); k_extra "u9"); intro x9 t9 i9 m9 ua9 ub9 np9 h9 tk9 pa9 pb9 pc9 pd9 pe9 F9 N9; (try dsimp only at N9); (try k_sweep); (try dsimp only); (try k_fold))
  trivial
set_option maxHeartbeats 8000000 in
theorem new_ok (w : World) (rest : List (Addr × Obj)) (tys td : Addr) (c : Int) (t0 : Tok) (fo : Str) (tf : Tok) (si : Int) (ts : Tok) (k : Tok) (es : List DictEntry) (n : Nat) (hes : es.length ≤ 900) (hm : (tys, instObj 367 td) ∈ rest) (hp : ∀ q ∈ rest, q.1 ≠ td) :
    CallOk w 357 16 ((td, ctD w.params k c t0 es n) :: rest) [.ref tys, .str fo tf, .int si ts] (newPost w.params ((td, ctD w.params k c t0 es n) :: rest) (fun c t => (td, ctD w.params k c t es n) :: rest) c (.str fo tf) (.int si ts)) := by
  unfold CallOk
  intro loose mean mg mb dp un gd cn cs a ccd cl outer A₀ base h₀ L m s Q E B F X N T hk hd hu hret
  refine wpAny_call ?_
  k_dflt k_enter
  k_steps
  refine hret _ _ _ _ (by assumption) (by assumption) ⟨_, TZ.setL (TZ.setM z9 (.str (Str.ofString "") 655)) (.str (Str.ofString "") 656), _, _, _, rfl, rfl, List.forall_mem_cons.mpr ⟨?_, ?_⟩, ?_⟩
  · exact low1 f9 (.head _)
  · exact fun p h => f9 p (.tail _ h)
  · assumption
set_option maxHeartbeats 8000000 in
theorem newV_ok (w : World) (news : List (Addr × Obj)) (g : Obj → List (Addr × Obj)) (tys td : Addr) (c : Int) (t0 : Tok) (fo : Str) (tf : Tok) (si : Int) (ts : Tok) (k : Tok) (es : List DictEntry) (n : Nat) (hm : (tys, instObj 367 td) ∈ news) (U : UpdF td (ctD w.params k c t0 es n) news g) (hes : es.length ≤ 900) :
    CallOk w 357 16 news [.ref tys, .str fo tf, .int si ts] (newPost w.params news (fun c t => g (ctD w.params k c t es n)) c (.str fo tf) (.int si ts)) := by
  unfold CallOk
  intro loose mean mg mb dp un gd cn cs a ccd cl outer A₀ base h₀ L m s Q E B F X N T hk hd hu hret
  obtain ⟨pre, post, rfl, hg, a1, a2⟩ := U.split
  have hm2 := mem_drop (l := [(tys, instObj 367 td)]) (fun q hq => by rw [List.mem_singleton.mp hq]; exact hm) (fun q hq => by rw [List.mem_singleton.mp hq]; intro e; have e2 := congrArg Obj.cls (Prod.mk.inj e).2; cases e2) _ (List.mem_singleton.mpr rfl)
  refine new_ok w (pre ++ post) tys td c t0 fo tf si ts k es n hes hm2 (off_head a1 a2) _ _ _ _ _ _ _ _ _ _ _ _ _ _ _ _ _ _ _ _ _ B F X (cb_drop N to_head) T hk hd hu fun r nw h' tk' F' N' P => ?_
  obtain ⟨x, z, t1, t, t7, rfl, rfl, p1, p3⟩ := P
  have p4 : ∀ q ∈ pre ++ (td, ctD w.params k c t0 es n) :: post, q.1 < z.dx := fun q hq => p1 q (of_head q hq)
  exact hret _ _ _ _ F' (cb_drop N' (fun q hq => (List.mem_append.mp hq).elim (fun h => List.mem_append_left _ h) fun h => List.mem_append_right _ (by have h : q ∈ g _ := h; rw [hg] at h; exact of_head q h))) ⟨x, z, t1, t, t7, rfl, rfl, p4, p3⟩
theorem words_newV_ok : True := by
  k_with "m call ref" => (k_here; (with_reducible show wpAny _ _ (call (Value.ref 357) [_, _, _]) _ _ _); k_dflt (apply useNew; k_extra "u5"; (focus first | exact rfl | assumption); (focus (apply newV_ok; (focus (k_mem); done); (focus (k_updF); done); (focus (exact Nat.le_of_ble_eq_true rfl); done); done)); k_extra "u9"); intro x9 z9 tn9 t9 ta9 h9 tk9 F9 N9 f9 f8; (try dsimp only at N9); (try k_sweep); (try dsimp only); (try k_fold))
  trivial
set_option maxHeartbeats 8000000 in
theorem types_cls_ok (w : World) (news : List (Addr × Obj)) :
    CallOk w 367 30 news [] (TypesPost w.params news) := by
  unfold CallOk
  intro loose mean mg mb dp un gd cn cs a ccd cl outer A₀ base h₀ L m s Q E B F X N T hk hd hu hret
  k_steps
  rename News _ _ _ _ => lN'
  replace lN' := cb_drop lN' (to_head (pre := [(_, _), (_, _), (_, _), (_, _), (_, _), (_, _), (_, _), (_, _), (_, _), (_, _), (_, _), (_, _), (_, _), (_, _), (_, _), (_, _)]) (a := (_, _)) (post := news))
  refine hret _ _ _ _ (by assumption) lN' ⟨_, _, ⟨_, _, _, _, _, _, _, _, _, _, _, _, _, _, _, _, _⟩, _, _, _, rfl, rfl, ⟨by k_mem, ?hb, ?hc, ?hy, ?hi, ?hm⟩, ?ab, by assumption⟩
  case ab => (repeat (first | exact List.forall_mem_nil _ | (refine List.forall_mem_cons.mpr ⟨?_, ?_⟩; (focus k_extra "lo"))))
  case hb => (show TypeAt _ _ _ _ _ _ (0 + 1); dsimp only; apply typeAt_of; (focus k_mem); (focus k_mem); (focus exact rfl))
  case hc => (show TypeAt _ _ _ _ _ _ (0 + 1 + 1); dsimp only; apply typeAt_of; (focus k_mem); (focus k_mem); (focus exact rfl))
  case hy => (show TypeAt _ _ _ _ _ _ (0 + 1 + 1 + 1); dsimp only; apply typeAt_of; (focus k_mem); (focus k_mem); (focus exact rfl))
  case hi => (show TypeAt _ _ _ _ _ _ (0 + 1 + 1 + 1 + 1); dsimp only; apply typeAt_of; (focus k_mem); (focus k_mem); (focus exact rfl))
  case hm => (show TypeAt _ _ _ _ _ _ (0 + 1 + 1 + 1 + 1 + 1); dsimp only; apply typeAt_of; (focus k_mem); (focus k_mem); (focus exact rfl))
theorem words_types_cls_ok : True := by
  k_with "m call ref" => (k_here; (with_reducible show wpAny _ _ (call (Value.ref 367) _) _ _ _); k_dflt (show wpAny _ _ (call (Value.ref 367) []) _ _ _; apply useA; k_extra "u5"; (focus first | exact rfl | assumption); (focus (apply types_cls_ok; done)); k_extra "u9"); intro r9 nw9 h9 tk9 F9 N9 ho9; k_dflt (obtain ⟨tys9, td9, y9, c9, t9, mo9, e9, e8, T9, ab9, lt9⟩ := ho9); subst e9; subst e8; (try dsimp only at N9); (try k_sweep); (try dsimp only); (try k_fold))
  trivial
set_option maxHeartbeats 8000000 in
theorem newU_ok (w : World) (news : List (Addr × Obj)) (g : Obj → List (Addr × Obj)) (y : Y9) (tys td : Addr) (c : Int) (t0 : Tok) (fo : Str) (tf : Tok) (si : Int) (ts : Tok) (hm : (tys, instObj 367 td) ∈ news) (U : UpdF td (tysDict w.params y (.int c t0)) news g) :
    CallOk w 357 16 news [.ref tys, .str fo tf, .int si ts] (newPost w.params news (fun c t => g (tysDict w.params y (.int c t))) c (.str fo tf) (.int si ts)) := by
  exact newV_ok w news g tys td c t0 fo tf si ts y.k1 _ 9 hm U (Nat.le_of_ble_eq_true rfl)
theorem words_newU_ok : True := by
  k_with "m call ref" => (k_here; (with_reducible show wpAny _ _ (call (Value.ref 357) [_, _, _]) _ _ _); k_dflt (apply useNew; k_extra "u5"; (focus first | exact rfl | assumption); (focus (apply newU_ok; (focus (k_mem); done); (focus (k_updF); done); done)); k_extra "u9"); intro x9 z9 tn9 t9 ta9 h9 tk9 F9 N9 f9 f8; (try dsimp only at N9); (try k_sweep); (try dsimp only); (try k_fold))
  trivial
set_option maxHeartbeats 8000000 in
theorem mark_ok (w : World) (rest : List (Addr × Obj)) (er de r p : Addr) (k1 k2 : Tok) (o : Obj) (hE : ErrPre w er de r p k1 k2 o rest) (pl : Int) (t : Tok) (code : Str) (t' : Tok) :
    CallOk w 272 5 (errSeg w.params er de r p k1 k2 o ++ rest) [.ref er, .int pl t, .str code t'] (fun v nw => v = .none ∧ ∃ E', nw = E' ++ rest ∧ ErrAt w.params E' er [(pl, code)]) := by
  unfold CallOk
  have hE0 := hE
  obtain ⟨lo, hs, hi, fi, h1, hr, hp⟩ := hE
  intro loose mean mg mb dp un gd cn cs a ccd cl outer A₀ base h₀ L m s Q E B F X N T hk hd hu hret
  simp only [errSeg, List.cons_append, List.nil_append] at N
  refine wpAny_call ?_
  k_dflt k_enter
  k_steps
  exact hret _ _ _ _ (by k_asm) (by k_asm) ⟨rfl, [(_, _), (_, _), (_, _), (_, _), (_, _)], rfl, de, r, p, k1, k2, by k_mem, by k_mem, 1, _, _, _, by k_mem, by k_mem⟩
theorem words_mark_ok : True := by
  k_with "m call ref" => (k_here; (with_reducible show wpAny _ _ (call (Value.ref 272) [_, _, _]) _ _ _); k_dflt (apply useB; (focus (apply mark_ok; (focus (assumption); done); done)); k_extra "u3"; (focus (first | k_asm | (refine' cb_drop ?n4 ?s4; (case n4 => assumption); (case s4 => simp only [errSeg, List.cons_append, List.nil_append, List.forall_mem_cons]; exact ⟨by k_mem, by k_mem, by k_mem, by k_mem, by (intro p9 h9; repeat (first | exact h9 | exact ‹∀ q, q ∈ _ → q ∈ _› _ h9 | apply List.mem_cons_of_mem | apply List.mem_append_right))⟩))); done); (focus k_asm); (focus first | exact rfl | assumption); k_extra "u9"); intro r9 nw9 h9 tk9 F9 N9 ho9; k_dflt (obtain ⟨e9, E9, e8, o9⟩ := ho9; subst e9; subst e8); (try k_sweep); (try dsimp only); (try k_fold))
  trivial
theorem words_integer_code_ok : True := by
  k_with "m call ref" => (k_here; (with_reducible show wpAny _ _ (call (Value.ref 155) [_]) _ _ _); k_dflt (apply useP; k_extra "u5"; (focus first | exact rfl | assumption); (focus (apply integer_code_ok; (focus (assumption); done); (focus ((intro p9 h9; repeat (first | exact h9 | exact ‹∀ q, q ∈ _ → q ∈ _› _ h9 | apply List.mem_cons_of_mem | apply List.mem_append_right))); done); done)); k_extra "u9"); intro t9 h9 tk9 F9 N9; (try k_sweep); (try dsimp only); (try k_fold))
  trivial
theorem go_is_designator : GlobOk (Str.ofString "is_designator") (.ref 78) := fun P => ⟨by kernel_rfl, by kernel_rfl⟩
theorem go_root_var : GlobOk (Str.ofString "root_var") (.ref 85) := fun P => ⟨by kernel_rfl, by kernel_rfl⟩
theorem go_is_readonly : GlobOk (Str.ofString "is_readonly") (.ref 92) := fun P => ⟨by kernel_rfl, by kernel_rfl⟩
theorem ao_readonly : AttrOk 331 (Str.ofString "readonly") := fun P => ⟨none, by kernel_rfl, by kernel_rfl, by kernel_rfl, by kernel_rfl⟩
theorem Bd.while0 {fi : Fi} {c : Lc} {l : List (Str × Value)} {news : List (Addr × Obj)} {e : PySem.Expr} {p : Pos} {st body : List Stmt} {K : Value → List (Addr × Obj) → Prop} (PO : PassesOwn (model PySem.Challenge.pw_nu0340_01 c.w) (c.A fi) (c.env fi) c.E) (T : Ts fi c l news e false) (hB : Bd fi c l news st K) : Bd fi c l news (.While e body [] p :: st) K := ⟨fun s Q F N k =>
  wpAny_execs_cons (whl_start 1 (whl_turn PO (T.h s _ F N fun h' tk F' N' => WhlIf.no rfl (wpAny_execs_nil (hB.h { s with heap := h', toks := tk } Q F' N' fun v nw h2 tk2 l2 hv F2 N2 => k v nw h2 tk2 l2 hv F2 N2)))))⟩
theorem is_designator_ok (w : World) (news : List (Addr × Obj)) (a : Addr) (pl : Int) (d : Sd) (h : SideAt w.params news a pl d) : CallOk w 78 3 news [.ref a] (Pure news fun _ => .bool (d.sh.op == Str.ofString "var" || d.sh.op == Str.ofString "deref")) := by
  k_extra "openP"
  exact Bd.while0 PO (Ts.conv (by k_extra "ts") (op_loop d.sh)) (by k_extra "bb")
theorem root_var_ok (w : World) (news : List (Addr × Obj)) (a : Addr) (pl : Int) (d : Sd) (ro : Bool) (h : SideAt w.params news a pl d) (ho : d.sh = .var ro) : CallOk w 85 3 news [.ref a] (fun v nw => nw = news ∧ ∃ o, v = .ref o ∧ ObjAt w.params news o ro) := by
  k_extra "openP"
  refine Bd.while0 PO (Ts.conv (by k_extra "ts") (op_loop d.sh)) (Bd.ifR (b := d.sh.op == Str.ofString "var") (by k_extra "ts") (fun _ => ?_) fun hb => by rw [ho] at hb; cases hb)
  obtain ⟨ty, kids, v, h1, h2, h3⟩ := h
  rw [ho] at h3
  obtain ⟨o, rfl, h4⟩ := h3
  exact Rt.ev (n_evValue (by k_extra "evr") base_name h1 rfl ok) fun _ => ⟨rfl, o, rfl, h4⟩
theorem is_readonly_ok (w : World) (news : List (Addr × Obj)) (a : Addr) (pl : Int) (d : Sd) (ro : Bool) (h : SideAt w.params news a pl d) (ho : d.sh = .var ro) : CallOk w 92 5 news [.ref a] (Pure news fun _ => .bool ro) := by
  k_extra "open"
  refine Bd.asgR (by decide +kernel) (fun _ => rfl) (Rt.callC (k := 3) ok (Nat.le_of_ble_eq_true rfl) rfl go_root_var (by decide +kernel) rfl (Rs.ev rfl (by k_extra "evr") fun _ => Rs.nil (root_var_ok _ _ _ _ _ _ h ho))) ?_
  rintro v nw ⟨rfl, o, rfl, z, h1, h2⟩
  exact Bd.val (Ev.andT (Ev.cmp (f1 := vv (.ref o)) (Ev.name (by k_extra "lk") (by decide +kernel)) Ev.none (nomarks rfl) fun _ _ _ _ h => wpAny_isNot_plain rfl h) (Ev.and1 (Ev.attr base_name (Ev.name (by k_extra "lk") (by decide +kernel)) ok.X ao_readonly h1 h2 rfl rfl)))
theorem var_of {sh : Sh} (hb : (!(sh.op == Str.ofString "var" || sh.op == Str.ofString "deref")) = false) : ∃ ro, sh = .var ro := by
  cases sh with
  | var ro => exact ⟨ro, rfl⟩
  | _ => cases hb
theorem variable_code_ok (w : World) (news sub : List (Addr × Obj)) (a : Addr) (pl : Int) (d : Sd) (h : SideAt w.params sub a pl d) (hsub : ∀ q ∈ sub, q ∈ news) :
    CallOk w 162 8 news [.ref a] (Pure news fun t => .str (varCode d.sh) t) := by
  have h0 := h.mono hsub
  k_extra "open"
  refine Bd.ifR (Ts.not (Ts.bool (Ev.call (k := 3) ok (Nat.le_of_ble_eq_true rfl) rfl go_is_designator (by decide +kernel) rfl (Evs.cons rfl (by k_extra "evr") Evs.nil) (by rintro vs ⟨t, r, rfl, rfl⟩; exact is_designator_ok _ _ _ _ _ h0)) (fun _ => rfl))) (fun hb => ?_) fun hb => ?_
  · rw [varCode_no d.sh fun hv => by obtain ⟨ro, hv⟩ := hv; rw [hv] at hb; cases hb]
    exact Rt.ev Ev.str fun t => ⟨rfl, t, rfl⟩
  obtain ⟨ro, ho⟩ := var_of hb
  rw [ho]
  refine Bd.ifV sv (Ts.bool (Ev.call (k := 5) ok (Nat.le_of_ble_eq_true rfl) rfl go_is_readonly (by decide +kernel) rfl (Evs.cons rfl (by k_extra "evr") Evs.nil) (by rintro vs ⟨t, r, rfl, rfl⟩; exact is_readonly_ok _ _ _ _ _ _ h0 ho)) (fun _ => rfl)) (fun _ => Ev.str) fun _ => Bd.val Ev.str
section
variable {fi : Fi} {c : Lc} {l : List (Str × Value)} {news : List (Addr × Obj)} {i j : Int} {e e1 e2 : PySem.Expr} {p p1 p2 p3 : Pos} {k : Nat}
theorem Ev.modI (h1 : Ev fi c l news e1 (iv i)) (h2 : Ev fi c l news e2 (iv j)) (hj : j ≠ 0) : Ev fi c l news (.BinOp e1 .Mod e2 p) (iv (Int.fmod i j)) := Ev.bin h1 h2 fun _ _ s Q h => mod_int hj (h _ _)
theorem Ev.subI (h1 : Ev fi c l news e1 (iv i)) (h2 : Ev fi c l news e2 (iv j)) : Ev fi c l news (.BinOp e1 .Sub e2 p) (iv (i - j)) := Ev.bin h1 h2 fun _ _ s Q h => sub_int (h _ _)
theorem Ev.addI (h1 : Ev fi c l news e1 (iv i)) (h2 : Ev fi c l news e2 (iv j)) : Ev fi c l news (.BinOp e1 .Add e2 p) (iv (i + j)) := Ev.bin h1 h2 fun _ _ s Q h => add_int (h _ _)
theorem Ev.negI (h1 : Ev fi c l news e1 (iv i)) : Ev fi c l news (.UnaryOp .USub e1 p) (iv (-i)) := ⟨fun s Q F N k => UnaryOp_ (h1.h s _ F N fun t h' tk F' N' => neg_int (k _ h' _ F' N'))⟩
theorem Ev.pow31' {k2 : Nat} : Ev fi c l news (.BinOp (.Constant (.int 2) k p1) .Pow (.Constant (.int 31) k2 p2) p3) (iv 2147483648) := Ev.bin Ev.int Ev.int fun _ _ s Q h => Mine.pow31 fun t => h t _
theorem Ev.pow32' {k2 : Nat} : Ev fi c l news (.BinOp (.Constant (.int 2) k p1) .Pow (.Constant (.int 32) k2 p2) p3) (iv 4294967296) := Ev.bin Ev.int Ev.int fun _ _ s Q h => Mine.pow32 fun t => h t _
end
theorem words_variable_code_ok : True := by
  k_with "m call ref" => (k_here; (with_reducible show wpAny _ _ (call (Value.ref 162) [_]) _ _ _); k_dflt (apply useP; k_extra "u5"; (focus first | exact rfl | assumption); (focus (apply variable_code_ok; (focus (assumption); done); (focus ((intro p9 h9; repeat (first | exact h9 | exact ‹∀ q, q ∈ _ → q ∈ _› _ h9 | apply List.mem_cons_of_mem | apply List.mem_append_right))); done); done)); k_extra "u9"); intro t9 h9 tk9 F9 N9; (try k_sweep); (try dsimp only); (try k_fold))
  trivial
theorem mark_meth : ∀ P, plainGet (hd.heap_1 P) 289 (Str.ofString "mark") = true ∧ findIn (hd.heap_1 P) (.ref 289) (Str.ofString "mark") = some (some (.ref 272)) ∧ isFn (hd.heap_1 P) (.ref 272) = true ∧ keepIn (hd.heap_1 P) (.ref 272) = true := fun P => ⟨by kernel_rfl, by kernel_rfl, by kernel_rfl, by kernel_rfl⟩
section
variable {fi : Fi} {c : Lc} {l l0 : List (Str × Value)} {news nw rest : List (Addr × Obj)} {e e1 e2 e3 : PySem.Expr} {p p1 p2 p3 p4 : Pos} {k : Nat} {a er de r pp ar : Addr} {t1 t2 : Tok} {o : Obj} {pl : Int} {d : Sd} {x : Str} {y : Int × Str} {K : Value → List (Addr × Obj) → Prop} {st : List Stmt} {R : List (Str × Value) → List (Addr × Obj) → Prop}
/-- errors.mark(place, code) -/
theorem Bx.mark_ (hE : ErrPre c.w er de r pp t1 t2 o rest) (O : c.Ok k) (hO : 6 ≤ k) (hk : fi.cs.kind = .function) (hn : noStar [e1, e2] = true) (hi : interactive (c.env fi) = false) (he : ∀ env, eval (.Call (.Attribute (.Name (Str.ofString "errors") p1) (Str.ofString "mark") p2) [e1, e2] [] p3) env = (do
      let ov ← eval (.Name (Str.ofString "errors") p1) env
      standAt p2.atName
      let (f, first) ← holding [ov] (getMethod ov (Str.ofString "mark") (do return (← importBound (.Name (Str.ofString "errors") p1) env).getD true))
      callWith p3 f first (backTo p3 (starEach [e1, e2] env)) (backToKw p3 (keywordEach [] env)))) (h0 : Ev fi c l (errSeg c.w.params er de r pp t1 t2 o ++ rest) (.Name (Str.ofString "errors") p1) (vv (.ref er))) (h1 : Ev fi c l (errSeg c.w.params er de r pp t1 t2 o ++ rest) e1 (iv pl)) (h2 : Ev fi c l (errSeg c.w.params er de r pp t1 t2 o ++ rest) e2 (sv x))
    (hB : ∀ E', ErrAt c.w.params E' er [(pl, x)] → Bx fi c l (E' ++ rest) st K R) : Bx fi c l (errSeg c.w.params er de r pp t1 t2 o ++ rest) (.Expr (.Call (.Attribute (.Name (Str.ofString "errors") p1) (Str.ofString "mark") p2) [e1, e2] [] p3) p4 :: st) K R := ⟨fun s Q F N k kn => by
  obtain ⟨q1, q2, q3, q4⟩ := mark_meth c.w.params
  refine wpAny_execs_cons (wpAny_Expr_any (methodCall_KW (h0.h s _ F N fun _ g1 tk1 F1 N1 => method_inst F1 O.X (InstAt.of_news N1 (x := er) (dx := de) (by exact .tail _ (.tail _ (.head _))) (by exact .tail _ (.tail _ (.tail _ (.head _))))) q1 q2 q3 rfl ?_) (he _)) hi rfl)
  refine callWith_K O.X q4 ((Rs.ev (P := fun vs nw => vs.length = 2 ∧ CallOk c.w 272 5 nw (.ref er :: vs) (fun v nw => v = .none ∧ ∃ E', nw = E' ++ rest ∧ ErrAt c.w.params E' er [(pl, x)])) hn h1 fun ta => Rs.ev (noStar_tl hn) h2 fun tb => Rs.nil ⟨rfl, mark_ok c.w rest er de r pp t1 t2 o hE pl ta x tb⟩).h _ _ _ F1 N1 fun vs nw h3 tk3 ⟨_, C⟩ F3 N3 => ⟨O.X.keeps F3.keep, C.use O.B F3 O.X N3 O.T hk (by have := O.hd; omega) (by have := O.hu; omega) fun r nw h4 tk4 F4 N4 ⟨_, E', e', hE'⟩ => ?_⟩) (starEach_cons hn).1 (noStar_any (starEach_cons (env := c.env fi) hn).2)
  subst e'
  exact (hB E' hE').h { s with heap := h4, toks := tk4 } Q F4 N4 k kn⟩
end
theorem marked_ok (w : World) (rest : List (Addr × Obj)) (er de r p : Addr) (k1 k2 : Tok) (o : Obj) (hE : ErrPre w er de r p k1 k2 o rest) (a : Addr) (pl : Int) (d : Sd) (h : SideAt w.params rest a pl d) (code : Str) (t : Tok) :
    CallOk w 148 8 (errSeg w.params er de r p k1 k2 o ++ rest) [.ref er, .ref a, .str code t] (MPost w.params (errSeg w.params er de r p k1 k2 o) rest er pl code) := by
  k_extra "open"
  obtain ⟨ty, kids, v, hA, hT, hv⟩ := h
  have hA' := hA.mono fun q h => List.mem_append_right (errSeg c.w.params er de r p k1 k2 o) h
  refine Bd.ifX (R := fun l' nw => look l' (Str.ofString "code") = some (.str code t) ∧ Marked c.w.params (errSeg c.w.params er de r p k1 k2 o) rest er pl code nw) (by k_extra "ts") (fun a9 => ?_) (fun a9 => ?_) fun l' nw h => ?_
  · exact Bx.mark_ hE ok (Nat.le_of_ble_eq_true rfl) rfl rfl rfl (fun _ => rfl) (by k_extra "evr") (n_evPlace (by k_extra "evr") base_name hA' ok) (by k_extra "evs") fun E' hE' => Bx.nil ⟨(by k_extra "lk"), .inr ⟨by simpa using a9, E', rfl, hE'⟩⟩
  · exact Bx.nil ⟨(by k_extra "lk"), .inl ⟨by simpa using a9, rfl⟩⟩
  · exact Bd.ret (Rt.ev (Ev.nameS h.1 (by decide +kernel)) fun t => ⟨⟨t, rfl⟩, h.2⟩)
theorem Marked.sub {P : Params} {seg rest nw : List (Addr × Obj)} {er : Addr} {pl : Int} {code : Str} (h : Marked P seg rest er pl code nw) : ∀ q ∈ rest, q ∈ nw := by
  rcases h with ⟨_, rfl⟩ | ⟨_, E', rfl, _⟩ <;> exact fun q h => List.mem_append_right _ h
/-- the name code, as a marking def keeps it: what it says, all else as it stood, the ledger marked so -/
noncomputable def CodeAt (P : Params) (seg rest : List (Addr × Obj)) (er : Addr) (y : Int × Str) (l0 l : List (Str × Value)) (nw : List (Addr × Obj)) : Prop :=
  (∃ t, look l (Str.ofString "code") = some (.str y.2 t)) ∧ (∀ x v, (x == Str.ofString "code") = false → look l0 x = some v → look l x = some v) ∧ Marked P seg rest er y.1 y.2 nw
section
variable {fi : Fi} {c : Lc} {l l0 : List (Str × Value)} {news nw rest : List (Addr × Obj)} {e e1 e2 e3 : PySem.Expr} {p p1 p2 p3 : Pos} {k : Nat} {a er de r pp ar : Addr} {t1 t2 : Tok} {o : Obj} {pl : Int} {d : Sd} {x : Str} {y : Int × Str} {K : Value → List (Addr × Obj) → Prop} {st : List Stmt} {R : List (Str × Value) → List (Addr × Obj) → Prop}
/-- marked(errors, node, code) -/
theorem Rt.marked (hE : ErrPre c.w er de r pp t1 t2 o rest) (hs : SideAt c.w.params rest a pl d) (O : c.Ok k) (hO : 9 ≤ k) (hk : fi.cs.kind = .function) (ok : okG fi.cs (Str.ofString "marked") = true) (hn : noStar [e1, e2, e3] = true) (h1 : Ev fi c l (errSeg c.w.params er de r pp t1 t2 o ++ rest) e1 (vv (.ref er))) (h2 : Ev fi c l (errSeg c.w.params er de r pp t1 t2 o ++ rest) e2 (vv (.ref a))) (h3 : Ev fi c l (errSeg c.w.params er de r pp t1 t2 o ++ rest) e3 (sv x)) :
    Rt fi c l (errSeg c.w.params er de r pp t1 t2 o ++ rest) (.Call (.Name (Str.ofString "marked") p1) [e1, e2, e3] [] p) (MPost c.w.params (errSeg c.w.params er de r pp t1 t2 o) rest er pl x) :=
  Rt.callC (k := 8) O hO hk go_marked ok hn (Rs.ev hn h1 fun _ => Rs.ev (noStar_tl hn) h2 fun _ => Rs.ev (noStar_tl (noStar_tl hn)) h3 fun t => Rs.nil (marked_ok c.w rest er de r pp t1 t2 o hE a pl d hs x t))
theorem CodeAt.of {v : Value} (h : MPost c.w.params (errSeg c.w.params er de r pp t1 t2 o) rest er pl x v nw) (hl : ∀ x v, (x == Str.ofString "code") = false → look l0 x = some v → look l x = some v) : CodeAt c.w.params (errSeg c.w.params er de r pp t1 t2 o) rest er (pl, x) l0 ((Str.ofString "code", v) :: l) nw := by
  obtain ⟨⟨t, rfl⟩, h⟩ := h
  exact ⟨⟨t, look_hit⟩, fun x v hx h => look_miss hx (hl x v hx h), h⟩
/-- code = marked(errors, node, ..) -/
theorem Bx.mark (hE : ErrPre c.w er de r pp t1 t2 o rest) (hs : SideAt c.w.params rest a pl d) (O : c.Ok k) (hO : 9 ≤ k) (hk : fi.cs.kind = .function) (ok : okG fi.cs (Str.ofString "marked") = true) (ok2 : okL fi.cs (Str.ofString "code") = true) (hn : noStar [e1, e2, e3] = true) (hsw : ∀ env, swapsWith (.Call (.Name (Str.ofString "marked") p1) [e1, e2, e3] [] p) (some (.Name (Str.ofString "code") p2)) p3.line env = pure false)
    (hl : ∀ x v, (x == Str.ofString "code") = false → look l0 x = some v → look l x = some v) (h1 : Ev fi c l (errSeg c.w.params er de r pp t1 t2 o ++ rest) e1 (vv (.ref er))) (h2 : Ev fi c l (errSeg c.w.params er de r pp t1 t2 o ++ rest) e2 (vv (.ref a))) (h3 : Ev fi c l (errSeg c.w.params er de r pp t1 t2 o ++ rest) e3 (sv x)) (hB : ∀ l' nw, CodeAt c.w.params (errSeg c.w.params er de r pp t1 t2 o) rest er (pl, x) l0 l' nw → Bx fi c l' nw st K R) :
    Bx fi c l (errSeg c.w.params er de r pp t1 t2 o ++ rest) (.Assign [.Name (Str.ofString "code") p2] (.Call (.Name (Str.ofString "marked") p1) [e1, e2, e3] [] p) p3 :: st) K R :=
  Bx.asgR ok2 hsw (Rt.marked hE hs O hO hk ok hn h1 h2 h3) fun v nw h => hB _ _ (CodeAt.of h hl)
theorem Bd.mark (hE : ErrPre c.w er de r pp t1 t2 o rest) (hs : SideAt c.w.params rest a pl d) (O : c.Ok k) (hO : 9 ≤ k) (hk : fi.cs.kind = .function) (ok : okG fi.cs (Str.ofString "marked") = true) (ok2 : okL fi.cs (Str.ofString "code") = true) (hn : noStar [e1, e2, e3] = true) (hsw : ∀ env, swapsWith (.Call (.Name (Str.ofString "marked") p1) [e1, e2, e3] [] p) (some (.Name (Str.ofString "code") p2)) p3.line env = pure false)
    (hl : ∀ x v, (x == Str.ofString "code") = false → look l0 x = some v → look l x = some v) (h1 : Ev fi c l (errSeg c.w.params er de r pp t1 t2 o ++ rest) e1 (vv (.ref er))) (h2 : Ev fi c l (errSeg c.w.params er de r pp t1 t2 o ++ rest) e2 (vv (.ref a))) (h3 : Ev fi c l (errSeg c.w.params er de r pp t1 t2 o ++ rest) e3 (sv x)) (hB : ∀ l' nw, CodeAt c.w.params (errSeg c.w.params er de r pp t1 t2 o) rest er (pl, x) l0 l' nw → Bd fi c l' nw st K) :
    Bd fi c l (errSeg c.w.params er de r pp t1 t2 o ++ rest) (.Assign [.Name (Str.ofString "code") p2] (.Call (.Name (Str.ofString "marked") p1) [e1, e2, e3] [] p) p3 :: st) K :=
  Bd.asgR ok2 hsw (Rt.marked hE hs O hO hk ok hn h1 h2 h3) fun v nw h => hB _ _ (CodeAt.of h hl)
end
theorem CodeAt.go {P : Params} {seg rest nw : List (Addr × Obj)} {er : Addr} {y : Int × Str} {l0 l : List (Str × Value)} (h : CodeAt P seg rest er y l0 l nw) (hb : (y.2 == Str.ofString "") = true) : nw = seg ++ rest ∧ y.2 = Str.ofString "" := by
  rcases h.2.2 with ⟨_, e⟩ | ⟨e, _⟩
  · exact ⟨e, eq_of_beq hb⟩
  · rw [hb] at e; cases e
theorem CodeAt.post {P : Params} {seg rest nw : List (Addr × Obj)} {er : Addr} {y : Int × Str} {l0 l : List (Str × Value)} (h : CodeAt P seg rest er y l0 l nw) {fi : Fi} {c : Lc} {p p1 : Pos} {st : List Stmt} (ok : okL fi.cs (Str.ofString "code") = true) : Bd fi c l nw (.Return (some (.Name (Str.ofString "code") p)) p1 :: st) (MPost P seg rest er y.1 y.2) := by
  obtain ⟨⟨t, h1⟩, h2, h3⟩ := h
  exact Bd.ret (Rt.ev (Ev.nameS h1 ok) fun t => ⟨⟨t, rfl⟩, h3⟩)
section
variable {fi : Fi} {c : Lc} {l : List (Str × Value)} {news sub : List (Addr × Obj)} {e e1 e2 : PySem.Expr} {p p1 : Pos} {k : Nat} {a ty1 : Addr} {pl : Int} {d : Sd} {x : Str} {form1 : Str} {sz1 ln1 nu1 : Int}
theorem Ev.c_integer_code (O : c.Ok k) (hO : 6 ≤ k) (hk : fi.cs.kind = .function) (ok : okG fi.cs (Str.ofString "integer_code") = true) (hn : noStar [e] = true) (h1 : Ev fi c l news e (vv (.ref a))) (hs : SideAt c.w.params sub a pl d) (hsub : ∀ q ∈ sub, q ∈ news) : Ev fi c l news (.Call (.Name (Str.ofString "integer_code") p1) [e] [] p) (sv (intCode d.form)) :=
  Ev.call (k := 5) O hO hk go_integer_code ok hn (Evs.cons hn h1 Evs.nil) (by rintro vs ⟨_, _, rfl, rfl⟩; exact integer_code_ok _ _ _ _ _ _ hs hsub)
theorem Ev.c_ord_code (O : c.Ok k) (hO : 10 ≤ k) (hk : fi.cs.kind = .function) (ok : okG fi.cs (Str.ofString "ord_code") = true) (hn : noStar [e] = true) (h1 : Ev fi c l news e (vv (.ref a))) (hs : SideAt c.w.params sub a pl d) (hsub : ∀ q ∈ sub, q ∈ news) (hw : d.wf) : Ev fi c l news (.Call (.Name (Str.ofString "ord_code") p1) [e] [] p) (sv (ordCode d)) :=
  Ev.call (k := 9) O hO hk go_ord_code ok hn (Evs.cons hn h1 Evs.nil) (by rintro vs ⟨_, _, rfl, rfl⟩; exact ord_code_ok _ _ _ _ _ _ hs hsub hw)
theorem Ev.c_variable_code (O : c.Ok k) (hO : 9 ≤ k) (hk : fi.cs.kind = .function) (ok : okG fi.cs (Str.ofString "variable_code") = true) (hn : noStar [e] = true) (h1 : Ev fi c l news e (vv (.ref a))) (hs : SideAt c.w.params sub a pl d) (hsub : ∀ q ∈ sub, q ∈ news) : Ev fi c l news (.Call (.Name (Str.ofString "variable_code") p1) [e] [] p) (sv (varCode d.sh)) :=
  Ev.call (k := 8) O hO hk go_variable_code ok hn (Evs.cons hn h1 Evs.nil) (by rintro vs ⟨_, _, rfl, rfl⟩; exact variable_code_ok _ _ _ _ _ _ hs hsub)
theorem Ev.c_range_code (O : c.Ok k) (hO : 6 ≤ k) (hk : fi.cs.kind = .function) (ok : okG fi.cs (Str.ofString "range_code") = true) (hn : noStar [e1, e2] = true) (h1 : Ev fi c l news e1 (vv (.ref a))) (h2 : Ev fi c l news e2 (sv x)) (hs : SideAt c.w.params sub a pl d) (hsub : ∀ q ∈ sub, q ∈ news) (hw : d.sh.isStr = false) : Ev fi c l news (.Call (.Name (Str.ofString "range_code") p1) [e1, e2] [] p) (sv (rangeCode d.sh x)) :=
  Ev.call (k := 5) O hO hk go_range_code ok hn (Evs.cons hn h1 (Evs.cons (noStar_tl hn) h2 Evs.nil)) (by rintro vs ⟨_, _, rfl, _, _, rfl, rfl⟩; exact range_code_ok _ _ _ _ _ _ hs hsub hw _ _)
theorem Ev.c_val_code (O : c.Ok k) (hO : 10 ≤ k) (hk : fi.cs.kind = .function) (ok : okG fi.cs (Str.ofString "val_code") = true) (hn : noStar [e1, e2] = true) (h1 : Ev fi c l news e1 (vv (.ref ty1))) (h2 : Ev fi c l news e2 (vv (.ref a))) (hs : SideAt c.w.params sub a pl d) (hsub : ∀ q ∈ sub, q ∈ news) (hw : d.wf) (hT : TypeAt c.w.params sub ty1 form1 sz1 ln1 nu1) : Ev fi c l news (.Call (.Name (Str.ofString "val_code") p1) [e1, e2] [] p) (sv (valCode form1 d)) :=
  Ev.call (k := 9) O hO hk go_val_code ok hn (Evs.cons hn h1 (Evs.cons (noStar_tl hn) h2 Evs.nil)) (by rintro vs ⟨_, _, rfl, _, _, rfl, rfl⟩; exact val_code_ok _ _ _ _ _ _ hs hsub hw _ _ _ _ _ hT)
theorem Ev.c_target_code (O : c.Ok k) (hO : 10 ≤ k) (hk : fi.cs.kind = .function) (ok : okG fi.cs (Str.ofString "target_code") = true) (hn : noStar [e1, e2] = true) (h1 : Ev fi c l news e1 (sv x)) (h2 : Ev fi c l news e2 (vv (.ref a))) (hs : SideAt c.w.params sub a pl d) (hsub : ∀ q ∈ sub, q ∈ news) : Ev fi c l news (.Call (.Name (Str.ofString "target_code") p1) [e1, e2] [] p) (sv (targetCode x d.form)) :=
  Ev.call (k := 9) O hO hk go_target_code ok hn (Evs.cons hn h1 (Evs.cons (noStar_tl hn) h2 Evs.nil)) (by rintro vs ⟨_, _, rfl, _, _, rfl, rfl⟩; exact target_code_ok _ _ _ _ _ _ hs hsub _ _)
end
theorem fcode1_is {n : Str} {pl : Int} {d : Sd} : (if (n == Str.ofString "SIZE") = true then (if (d.sh.op != Str.ofString "type") = true then Str.ofString "not_a_type" else Str.ofString "")
    else if (n == Str.ofString "LEN") = true then (if (d.form == Str.ofString "array") = true then Str.ofString "" else Str.ofString "not_an_array")
    else if (n == Str.ofString "ORD") = true then ordCode d else intCode d.form) = (fcode1 n pl d).2 := rfl
theorem function_code1_ok (w : World) (rest : List (Addr × Obj)) (er de r p : Addr) (k1 k2 : Tok) (o : Obj) (hE : ErrPre w er de r p k1 k2 o rest) (name : Str) (t : Tok) (hn : (name == Str.ofString "VAL") = false) (ar a1 : Addr) (n1 : Nat) (pl1 : Int) (d1 : Sd) (ha : (ar, W.listOf #[.ref a1] n1) ∈ rest) (s1 : SideAt w.params rest a1 pl1 d1) (hw1 : d1.wf) :
    CallOk w 176 20 (errSeg w.params er de r p k1 k2 o ++ rest) [.ref er, .str name t, .ref ar] (MPost w.params (errSeg w.params er de r p k1 k2 o) rest er (fcode1 name pl1 d1).1 (fcode1 name pl1 d1).2) := by
  k_extra "open"
  have sub : ∀ q ∈ rest, q ∈ errSeg c.w.params er de r p k1 k2 o ++ rest := fun q h => List.mem_append_right _ h
  have ha' := sub _ ha
  have s1' := s1.mono sub
  rw [← fcode1_is]
  show Bd _ _ _ _ _ (MPost c.w.params _ rest er pl1 _)
  refine Bd.asg (by decide +kernel) (fun _ => rfl) (by k_extra "evr") fun _ => ?_
  refine Bd.ifK (MPost c.w.params _ rest er pl1) (Ts.conv (Ts.or (b1 := name == Str.ofString "VAL") (b2 := name == Str.ofString "SIZE") (by k_extra "ts") fun _ => Ts.or1 (by k_extra "ts")) (by rw [hn]; rfl)) (fun a9 => ?_) fun a9 => ?_
  · refine Bd.ifK (MPost c.w.params _ rest er pl1) (by k_extra "ts") (fun _ => Bd.ret (Rt.marked hE s1 ok (Nat.le_of_ble_eq_true rfl) rfl (by decide +kernel) rfl (by k_extra "evr") (by k_extra "evr") Ev.str)) fun _ => ?_
    exact Bd.ifR (b := true) (Ts.conv (by k_extra "ts") a9) (fun _ => Rt.ev Ev.str fun t => ⟨⟨t, rfl⟩, .inl ⟨rfl, rfl⟩⟩) fun h => by cases h
  refine Bd.ifK (MPost c.w.params _ rest er pl1) (by k_extra "ts") (fun _ => Bd.ret (Rt.marked hE s1 ok (Nat.le_of_ble_eq_true rfl) rfl (by decide +kernel) rfl (by k_extra "evr") (by k_extra "evr") (by k_extra "evs"))) fun _ => ?_
  refine Bd.ifK (MPost c.w.params _ rest er pl1) (by k_extra "ts") (fun _ => Bd.ret (Rt.marked hE s1 ok (Nat.le_of_ble_eq_true rfl) rfl (by decide +kernel) rfl (by k_extra "evr") (by k_extra "evr") (Ev.c_ord_code ok (Nat.le_of_ble_eq_true rfl) rfl (by decide +kernel) rfl (by k_extra "evr") s1 sub hw1))) fun _ => ?_
  refine Bd.mark hE s1 ok (Nat.le_of_ble_eq_true rfl) rfl (by decide +kernel) (by decide +kernel) rfl (fun _ => rfl) (fun _ _ _ h => h) (by k_extra "evr") (by k_extra "evr") (Ev.c_integer_code ok (Nat.le_of_ble_eq_true rfl) rfl (by decide +kernel) rfl (by k_extra "evr") s1 sub) ?_
  intro l' nw h
  have hk : look l' (Str.ofString "arguments") = some (.ref ar) := h.2.1 _ _ (by decide) (by k_extra "lk")
  refine Bd.ifN (Ts.and (b1 := intCode d1.form == Str.ofString "") (b2 := false) (Ts.eqS (Ev.nameS h.1.choose_spec (by decide +kernel)) Ev.str) fun _ => Ts.and1 (Ts.eqI (Ev.lenL ok (by decide +kernel) rfl (Ev.name hk (by decide +kernel)) (h.2.2.sub _ ha) (Nat.le_of_ble_eq_true rfl)) Ev.int)) (Bool.and_false _) ?_
  exact h.post (by decide +kernel)
theorem val_code_typ {n : Str} {pl1 pl2 : Int} {d1 d2 : Sd} : fcode2 n pl1 pl2 d1 d2 = if (n == Str.ofString "VAL") = true then (if (d1.sh.op != Str.ofString "type") = true then (pl1, Str.ofString "not_a_type") else (pl2, valCode d1.form d2))
  else if (intCode d1.form == Str.ofString "") = true then (if (intCode d2.form == Str.ofString "") = true then (pl2, rangeCode d2.sh (Str.ofString "bad_shift")) else (pl2, intCode d2.form)) else (pl1, intCode d1.form) := by
  unfold fcode2
  cases h1 : (intCode d1.form == Str.ofString "") <;> cases h2 : (intCode d2.form == Str.ofString "") <;> rfl
theorem s_evTyp {fi : Fi} {c : Lc} {l : List (Str × Value)} {news : List (Addr × Obj)} {e : PySem.Expr} {p : Pos} {k : Nat} {a ty kids : Addr} {pl : Int} {op : Str} (he : Ev fi c l news e (vv (.ref a))) (hb : Base e) (h : NodeAt c.w.params news a op pl (.ref ty) (.ref kids) (.ref ty)) (O : c.Ok k) : Ev fi c l news (.Attribute e (Str.ofString "value") p) (vv (.ref ty)) := n_evValue he hb h rfl O
theorem no_typ {sh : Sh} (h : (sh.op != Str.ofString "type") = false) : sh = .typ := by
  cases sh with
  | typ => rfl
  | var _ => exact absurd (show (Str.ofString "var" != Str.ofString "type") = false from h) (by decide)
  | neg => exact absurd (show (Str.ofString "neg" != Str.ofString "type") = false from h) (by decide)
  | _ => exact absurd (show (Str.ofString "const" != Str.ofString "type") = false from h) (by decide)
theorem function_code2_ok (w : World) (rest : List (Addr × Obj)) (er de r p : Addr) (k1 k2 : Tok) (o : Obj) (hE : ErrPre w er de r p k1 k2 o rest) (name : Str) (t : Tok) (hn : (name == Str.ofString "SIZE") = false ∧ (name == Str.ofString "LEN") = false ∧ (name == Str.ofString "ORD") = false) (ar a1 a2 : Addr) (n1 : Nat) (pl1 pl2 : Int) (d1 d2 : Sd) (ha : (ar, W.listOf #[.ref a1, .ref a2] n1) ∈ rest) (s1 : SideAt w.params rest a1 pl1 d1) (s2 : SideAt w.params rest a2 pl2 d2) (hw1 : d1.wf) (hw2 : d2.wf) :
    CallOk w 176 20 (errSeg w.params er de r p k1 k2 o ++ rest) [.ref er, .str name t, .ref ar] (MPost w.params (errSeg w.params er de r p k1 k2 o) rest er (fcode2 name pl1 pl2 d1 d2).1 (fcode2 name pl1 pl2 d1 d2).2) := by
  obtain ⟨hS, hL, hO⟩ := hn
  k_extra "open"
  have sub : ∀ q ∈ rest, q ∈ errSeg c.w.params er de r p k1 k2 o ++ rest := fun q h => List.mem_append_right _ h
  have ha' := sub _ ha
  have s1' := s1.mono sub
  have s2' := s2.mono sub
  rw [val_code_typ]
  let MP : Int × Str → Value → List (Addr × Obj) → Prop := fun y => MPost c.w.params (errSeg c.w.params er de r p k1 k2 o) rest er y.1 y.2
  refine Bd.asg (by decide +kernel) (fun _ => rfl) (by k_extra "evr") fun _ => ?_
  refine Bd.ifK MP (Ts.conv (Ts.or (b1 := name == Str.ofString "VAL") (b2 := name == Str.ofString "SIZE") (by k_extra "ts") fun _ => Ts.or1 (by k_extra "ts")) (by rw [hS, Bool.or_false])) (fun a9 => ?_) fun a9 => ?_
  · refine Bd.ifK MP (by k_extra "ts") (fun _ => Bd.ret (Rt.marked hE s1 ok (Nat.le_of_ble_eq_true rfl) rfl (by decide +kernel) rfl (by k_extra "evr") (by k_extra "evr") Ev.str)) fun a8 => ?_
    refine Bd.ifN (by k_extra "ts") hS ?_
    have hty := no_typ a8
    obtain ⟨ty, kids, v, hA, hT, hv⟩ := id s1
    rw [hty] at hv
    obtain rfl : v = .ref ty := hv
    have hA' := hA.mono sub
    exact Bd.ret (Rt.marked hE s2 ok (Nat.le_of_ble_eq_true rfl) rfl (by decide +kernel) rfl (by k_extra "evr") (by k_extra "evr") (Ev.c_val_code ok (Nat.le_of_ble_eq_true rfl) rfl (by decide +kernel) rfl (n_evValue (by k_extra "evr") base_name hA' rfl ok) (by k_extra "evr") s2 sub hw2 hT))
  refine Bd.ifN (by k_extra "ts") hL ?_
  refine Bd.ifN (by k_extra "ts") hO ?_
  refine Bd.mark hE s1 ok (Nat.le_of_ble_eq_true rfl) rfl (by decide +kernel) (by decide +kernel) rfl (fun _ => rfl) (fun _ _ _ h => h) (by k_extra "evr") (by k_extra "evr") (Ev.c_integer_code ok (Nat.le_of_ble_eq_true rfl) rfl (by decide +kernel) rfl (by k_extra "evr") s1 sub) ?_
  intro l' nw h
  have hk : look l' (Str.ofString "arguments") = some (.ref ar) := h.2.1 _ _ (by decide) (by k_extra "lk")
  have hk2 : look l' (Str.ofString "errors") = some (.ref er) := h.2.1 _ _ (by decide) (by k_extra "lk")
  refine Bd.ifX (R := CodeAt c.w.params (errSeg c.w.params er de r p k1 k2 o) rest er (if (intCode d1.form == Str.ofString "") = true then (if (intCode d2.form == Str.ofString "") = true then (pl2, rangeCode d2.sh (Str.ofString "bad_shift")) else (pl2, intCode d2.form)) else (pl1, intCode d1.form)) l') (Ts.conv (Ts.and (b1 := intCode d1.form == Str.ofString "") (b2 := true) (Ts.eqS (Ev.nameS h.1.choose_spec (by decide +kernel)) Ev.str) fun _ => Ts.and1 (Ts.eqI (Ev.lenL ok (by decide +kernel) rfl (Ev.name hk (by decide +kernel)) (h.2.2.sub _ ha) (Nat.le_of_ble_eq_true rfl)) Ev.int)) (Bool.and_true _)) (fun a7 => ?_) (fun a7 => ?_) fun l2 nw2 h2 => ?_
  · obtain ⟨rfl, e⟩ := h.go a7
    rw [if_pos a7]
    refine Bx.mark hE s2 ok (Nat.le_of_ble_eq_true rfl) rfl (by decide +kernel) (by decide +kernel) rfl (fun _ => rfl) (fun _ _ _ h => h) (by k_extra "evr") (by k_extra "evr") (Ev.c_integer_code ok (Nat.le_of_ble_eq_true rfl) rfl (by decide +kernel) rfl (by k_extra "evr") s2 sub) ?_
    intro l2 nw2 g
    refine Bx.ifX (R1 := CodeAt c.w.params (errSeg c.w.params er de r p k1 k2 o) rest er (if (intCode d2.form == Str.ofString "") = true then (pl2, rangeCode d2.sh (Str.ofString "bad_shift")) else (pl2, intCode d2.form)) l') (Ts.eqS (Ev.nameS g.1.choose_spec (by decide +kernel)) Ev.str) (fun a6 => ?_) (fun a6 => ?_) fun l3 nw3 h3 => Bx.nil h3
    · obtain ⟨rfl, e2⟩ := g.go a6
      rw [if_pos a6]
      have hk3 : look l2 (Str.ofString "arguments") = some (.ref ar) := g.2.1 _ _ (by decide) hk
      have hk4 : look l2 (Str.ofString "errors") = some (.ref er) := g.2.1 _ _ (by decide) hk2
      exact Bx.mark hE s2 ok (Nat.le_of_ble_eq_true rfl) rfl (by decide +kernel) (by decide +kernel) rfl (fun _ => rfl) g.2.1 (by k_extra "evr") (by k_extra "evr") (Ev.c_range_code ok (Nat.le_of_ble_eq_true rfl) rfl (by decide +kernel) rfl (by k_extra "evr") Ev.str s2 sub (wf_int hw2 (intCode_yes a6))) fun l4 nw4 g4 => Bx.nil g4
    · rw [if_neg (ne_no a6)]
      exact Bx.nil g
  · rw [if_neg (ne_no a7)]
    exact Bx.nil ⟨h.1, fun x v _ h => h, h.2.2⟩
  · exact h2.post (by decide +kernel)
theorem scode1_is {n : Str} {pl : Int} {d : Sd} : (if (n == Str.ofString "ASSERT") = true then (pl, if (d.form == Str.ofString "boolean") = true then Str.ofString "" else Str.ofString "not_boolean") else (if (varCode d.sh == Str.ofString "") = true then (pl, targetCode n d.form) else (pl, varCode d.sh))) = scode1 n pl d := by
  unfold scode1
  cases h1 : (n == Str.ofString "ASSERT") <;> cases h2 : (varCode d.sh == Str.ofString "") <;> rfl
theorem statement_code1_ok (w : World) (rest : List (Addr × Obj)) (er de r p : Addr) (k1 k2 : Tok) (o : Obj) (hE : ErrPre w er de r p k1 k2 o rest) (name : Str) (t : Tok) (ar a1 : Addr) (n1 : Nat) (pl1 : Int) (d1 : Sd) (ha : (ar, W.listOf #[.ref a1] n1) ∈ rest) (s1 : SideAt w.params rest a1 pl1 d1) (hw1 : d1.wf) :
    CallOk w 237 20 (errSeg w.params er de r p k1 k2 o ++ rest) [.ref er, .str name t, .ref ar] (MPost w.params (errSeg w.params er de r p k1 k2 o) rest er (scode1 name pl1 d1).1 (scode1 name pl1 d1).2) := by
  k_extra "open"
  have sub : ∀ q ∈ rest, q ∈ errSeg c.w.params er de r p k1 k2 o ++ rest := fun q h => List.mem_append_right _ h
  have ha' := sub _ ha
  have s1' := s1.mono sub
  rw [← scode1_is]
  let MP : Int × Str → Value → List (Addr × Obj) → Prop := fun y => MPost c.w.params (errSeg c.w.params er de r p k1 k2 o) rest er y.1 y.2
  refine Bd.asg (by decide +kernel) (fun _ => rfl) (by k_extra "evr") fun _ => ?_
  refine Bd.ifK MP (by k_extra "ts") (fun _ => Bd.ret (Rt.marked hE s1 ok (Nat.le_of_ble_eq_true rfl) rfl (by decide +kernel) rfl (by k_extra "evr") (by k_extra "evr") (by k_extra "evs"))) fun _ => ?_
  refine Bd.mark hE s1 ok (Nat.le_of_ble_eq_true rfl) rfl (by decide +kernel) (by decide +kernel) rfl (fun _ => rfl) (fun _ _ _ h => h) (by k_extra "evr") (by k_extra "evr") (Ev.c_variable_code ok (Nat.le_of_ble_eq_true rfl) rfl (by decide +kernel) rfl (by k_extra "evr") s1 sub) ?_
  intro l1 nw1 g
  have hk1 : look l1 (Str.ofString "first") = some (.ref a1) := g.2.1 _ _ (by decide) (by k_extra "lk")
  have hk2 : look l1 (Str.ofString "errors") = some (.ref er) := g.2.1 _ _ (by decide) (by k_extra "lk")
  have hk3 : look l1 (Str.ofString "name") = some (.str name t) := g.2.1 _ _ (by decide) (by k_extra "lk")
  have hk4 : look l1 (Str.ofString "arguments") = some (.ref ar) := g.2.1 _ _ (by decide) (by k_extra "lk")
  refine Bd.ifX (R := CodeAt c.w.params (errSeg c.w.params er de r p k1 k2 o) rest er (if (varCode d1.sh == Str.ofString "") = true then (pl1, targetCode name d1.form) else (pl1, varCode d1.sh)) l1) (Ts.eqS (Ev.nameS g.1.choose_spec (by decide +kernel)) Ev.str) (fun a7 => ?_) (fun a7 => ?_) fun l2 nw2 h => ?_
  · obtain ⟨rfl, e⟩ := g.go a7
    rw [if_pos a7]
    exact Bx.mark hE s1 ok (Nat.le_of_ble_eq_true rfl) rfl (by decide +kernel) (by decide +kernel) rfl (fun _ => rfl) (fun _ _ _ h => h) (by k_extra "evr") (by k_extra "evr") (Ev.c_target_code ok (Nat.le_of_ble_eq_true rfl) rfl (by decide +kernel) rfl (by k_extra "evs") (by k_extra "evr") s1 sub) fun l4 nw4 g4 => Bx.nil g4
  · rw [if_neg (ne_no a7)]
    exact Bx.nil ⟨g.1, fun x v _ h => h, g.2.2⟩
  · refine Bd.ifN (Ts.and (b1 := _ == Str.ofString "") (b2 := false) (Ts.eqS (Ev.nameS h.1.choose_spec (by decide +kernel)) Ev.str) fun _ => Ts.and1 (Ts.eqI (Ev.lenL ok (by decide +kernel) rfl (Ev.name (h.2.1 _ _ (by decide) hk4) (by decide +kernel)) (h.2.2.sub _ ha) (Nat.le_of_ble_eq_true rfl)) Ev.int)) (Bool.and_false _) ?_
    exact h.post (by decide +kernel)
theorem scode2_is {n : Str} {pl1 pl2 : Int} {d1 d2 : Sd} {y : Int × Str} (hy : (if (varCode d1.sh == Str.ofString "") = true then (pl1, targetCode n d1.form) else (pl1, varCode d1.sh)) = y) : (if (y.2 == Str.ofString "") = true then (if ((intCode d2.form == Str.ofString "") && isIE n) = true then (pl2, rangeCode d2.sh (Str.ofString "bad_element")) else (pl2, intCode d2.form)) else y) = scode2 n pl1 pl2 d1 d2 := by
  subst hy
  unfold scode2
  cases h1 : (varCode d1.sh == Str.ofString "") <;> cases h2 : (targetCode n d1.form == Str.ofString "") <;> cases h3 : (intCode d2.form == Str.ofString "") <;> cases h4 : isIE n <;> simp [h1, h2]
theorem statement_code2_ok (w : World) (rest : List (Addr × Obj)) (er de r p : Addr) (k1 k2 : Tok) (o : Obj) (hE : ErrPre w er de r p k1 k2 o rest) (name : Str) (t : Tok) (hn : (name == Str.ofString "ASSERT") = false) (ar a1 a2 : Addr) (n1 : Nat) (pl1 pl2 : Int) (d1 d2 : Sd) (ha : (ar, W.listOf #[.ref a1, .ref a2] n1) ∈ rest) (s1 : SideAt w.params rest a1 pl1 d1) (s2 : SideAt w.params rest a2 pl2 d2) (hw1 : d1.wf) (hw2 : d2.wf) :
    CallOk w 237 20 (errSeg w.params er de r p k1 k2 o ++ rest) [.ref er, .str name t, .ref ar] (MPost w.params (errSeg w.params er de r p k1 k2 o) rest er (scode2 name pl1 pl2 d1 d2).1 (scode2 name pl1 pl2 d1 d2).2) := by
  k_extra "open"
  have sub : ∀ q ∈ rest, q ∈ errSeg c.w.params er de r p k1 k2 o ++ rest := fun q h => List.mem_append_right _ h
  have ha' := sub _ ha
  have s1' := s1.mono sub
  have s2' := s2.mono sub
  refine Bd.asg (by decide +kernel) (fun _ => rfl) (by k_extra "evr") fun _ => ?_
  refine Bd.ifN (by k_extra "ts") hn ?_
  refine Bd.mark hE s1 ok (Nat.le_of_ble_eq_true rfl) rfl (by decide +kernel) (by decide +kernel) rfl (fun _ => rfl) (fun _ _ _ h => h) (by k_extra "evr") (by k_extra "evr") (Ev.c_variable_code ok (Nat.le_of_ble_eq_true rfl) rfl (by decide +kernel) rfl (by k_extra "evr") s1 sub) ?_
  intro l1 nw1 g
  have hk1 : look l1 (Str.ofString "first") = some (.ref a1) := g.2.1 _ _ (by decide) (by k_extra "lk")
  have hk2 : look l1 (Str.ofString "errors") = some (.ref er) := g.2.1 _ _ (by decide) (by k_extra "lk")
  have hk3 : look l1 (Str.ofString "name") = some (.str name t) := g.2.1 _ _ (by decide) (by k_extra "lk")
  have hk4 : look l1 (Str.ofString "arguments") = some (.ref ar) := g.2.1 _ _ (by decide) (by k_extra "lk")
  refine Bd.ifX (R := CodeAt c.w.params (errSeg c.w.params er de r p k1 k2 o) rest er (if (varCode d1.sh == Str.ofString "") = true then (pl1, targetCode name d1.form) else (pl1, varCode d1.sh)) l1) (Ts.eqS (Ev.nameS g.1.choose_spec (by decide +kernel)) Ev.str) (fun a7 => ?_) (fun a7 => ?_) fun l2 nw2 h => ?_
  · obtain ⟨rfl, e⟩ := g.go a7
    rw [if_pos a7]
    exact Bx.mark hE s1 ok (Nat.le_of_ble_eq_true rfl) rfl (by decide +kernel) (by decide +kernel) rfl (fun _ => rfl) (fun _ _ _ h => h) (by k_extra "evr") (by k_extra "evr") (Ev.c_target_code ok (Nat.le_of_ble_eq_true rfl) rfl (by decide +kernel) rfl (by k_extra "evs") (by k_extra "evr") s1 sub) fun l4 nw4 g4 => Bx.nil g4
  · rw [if_neg (ne_no a7)]
    exact Bx.nil ⟨g.1, fun x v _ h => h, g.2.2⟩
  generalize hy : (if (varCode d1.sh == Str.ofString "") = true then (pl1, targetCode name d1.form) else (pl1, varCode d1.sh)) = y at h
  rw [← scode2_is hy]
  have hm1 : look l2 (Str.ofString "errors") = some (.ref er) := h.2.1 _ _ (by decide) hk2
  have hm2 : look l2 (Str.ofString "name") = some (.str name t) := h.2.1 _ _ (by decide) hk3
  have hm3 : look l2 (Str.ofString "arguments") = some (.ref ar) := h.2.1 _ _ (by decide) hk4
  refine Bd.ifX (R := CodeAt c.w.params (errSeg c.w.params er de r p k1 k2 o) rest er (if (y.2 == Str.ofString "") = true then (if ((intCode d2.form == Str.ofString "") && isIE name) = true then (pl2, rangeCode d2.sh (Str.ofString "bad_element")) else (pl2, intCode d2.form)) else y) l2) (Ts.conv (Ts.and (b1 := y.2 == Str.ofString "") (b2 := true) (Ts.eqS (Ev.nameS h.1.choose_spec (by decide +kernel)) Ev.str) fun _ => Ts.and1 (Ts.eqI (Ev.lenL ok (by decide +kernel) rfl (Ev.name hm3 (by decide +kernel)) (h.2.2.sub _ ha) (Nat.le_of_ble_eq_true rfl)) Ev.int)) (Bool.and_true _)) (fun a7 => ?_) (fun a7 => ?_) fun l4 nw4 g4 => g4.post (by decide +kernel)
  · obtain ⟨rfl, e⟩ := h.go a7
    rw [if_pos a7]
    refine Bx.mark hE s2 ok (Nat.le_of_ble_eq_true rfl) rfl (by decide +kernel) (by decide +kernel) rfl (fun _ => rfl) (fun _ _ _ h => h) (by k_extra "evr") (by k_extra "evr") (Ev.c_integer_code ok (Nat.le_of_ble_eq_true rfl) rfl (by decide +kernel) rfl (by k_extra "evr") s2 sub) ?_
    intro l3 nw3 g3
    have hp1 : look l3 (Str.ofString "errors") = some (.ref er) := g3.2.1 _ _ (by decide) hm1
    have hp2 : look l3 (Str.ofString "name") = some (.str name t) := g3.2.1 _ _ (by decide) hm2
    have hp3 : look l3 (Str.ofString "arguments") = some (.ref ar) := g3.2.1 _ _ (by decide) hm3
    refine Bx.ifX (R1 := CodeAt c.w.params (errSeg c.w.params er de r p k1 k2 o) rest er (if ((intCode d2.form == Str.ofString "") && isIE name) = true then (pl2, rangeCode d2.sh (Str.ofString "bad_element")) else (pl2, intCode d2.form)) l2) (Ts.and (b1 := intCode d2.form == Str.ofString "") (b2 := isIE name) (Ts.eqS (Ev.nameS g3.1.choose_spec (by decide +kernel)) Ev.str) fun _ => Ts.and1 (by k_extra "ts")) (fun a6 => ?_) (fun a6 => ?_) fun l3 nw3 h3 => Bx.nil h3
    · have a5 := (Bool.and_eq_true_iff.mp a6).1
      obtain ⟨rfl, e2⟩ := g3.go a5
      rw [if_pos a6]
      exact Bx.mark hE s2 ok (Nat.le_of_ble_eq_true rfl) rfl (by decide +kernel) (by decide +kernel) rfl (fun _ => rfl) g3.2.1 (by k_extra "evr") (by k_extra "evr") (Ev.c_range_code ok (Nat.le_of_ble_eq_true rfl) rfl (by decide +kernel) rfl (by k_extra "evr") Ev.str s2 sub (wf_int hw2 (intCode_yes a5))) fun l4 nw4 g4 => Bx.nil g4
    · rw [if_neg (ne_no a6)]
      exact Bx.nil g3
  · rw [if_neg (ne_no a7)]
    exact Bx.nil ⟨h.1, fun x v _ h => h, h.2.2⟩
theorem words_range_code_ok : True := by
  k_with "m call ref" => (k_here; (with_reducible show wpAny _ _ (call (Value.ref 169) [_, _]) _ _ _); k_dflt (apply useP; k_extra "u5"; (focus first | exact rfl | assumption); (focus (apply range_code_ok; (focus (assumption); done); (focus ((intro p9 h9; repeat (first | exact h9 | exact ‹∀ q, q ∈ _ → q ∈ _› _ h9 | apply List.mem_cons_of_mem | apply List.mem_append_right))); done); (focus (first | assumption | exact wf_int (by assumption) (intCode_yes (by assumption))); done); done)); k_extra "u9"); intro t9 h9 tk9 F9 N9; (try k_sweep); (try dsimp only); (try k_fold))
  trivial
theorem words_is_letter_ok : True := by
  k_with "m call ref" => (k_here; (with_reducible show wpAny _ _ (call (Value.ref 183) [_]) _ _ _); k_dflt (apply useP; k_extra "u5"; (focus first | exact rfl | assumption); (focus (apply is_letter_ok; (focus (assumption); done); (focus ((intro p9 h9; repeat (first | exact h9 | exact ‹∀ q, q ∈ _ → q ∈ _› _ h9 | apply List.mem_cons_of_mem | apply List.mem_append_right))); done); (focus (assumption); done); done)); k_extra "u9"); intro t9 h9 tk9 F9 N9; (try k_sweep); (try dsimp only); (try k_fold))
  trivial
theorem words_ord_code_ok : True := by
  k_with "m call ref" => (k_here; (with_reducible show wpAny _ _ (call (Value.ref 190) [_]) _ _ _); k_dflt (apply useP; k_extra "u5"; (focus first | exact rfl | assumption); (focus (apply ord_code_ok; (focus (assumption); done); (focus ((intro p9 h9; repeat (first | exact h9 | exact ‹∀ q, q ∈ _ → q ∈ _› _ h9 | apply List.mem_cons_of_mem | apply List.mem_append_right))); done); (focus (assumption); done); done)); k_extra "u9"); intro t9 h9 tk9 F9 N9; (try k_sweep); (try dsimp only); (try k_fold))
  trivial
theorem words_is_plain_ok : True := by
  k_with "m call ref" => (k_here; (with_reducible show wpAny _ _ (call (Value.ref 197) [_]) _ _ _); k_dflt (apply useP; k_extra "u5"; (focus first | exact rfl | assumption); (focus (apply is_plain_ok; (focus (assumption); done); (focus ((intro p9 h9; repeat (first | exact h9 | exact ‹∀ q, q ∈ _ → q ∈ _› _ h9 | apply List.mem_cons_of_mem | apply List.mem_append_right))); done); done)); k_extra "u9"); intro t9 h9 tk9 F9 N9; (try k_sweep); (try dsimp only); (try k_fold))
  trivial
theorem words_val_code_ok : True := by
  k_with "m call ref" => (k_here; (with_reducible show wpAny _ _ (call (Value.ref 204) [_, _]) _ _ _); k_dflt (apply useP; k_extra "u5"; (focus first | exact rfl | assumption); (focus (apply val_code_ok; (focus (assumption); done); (focus ((intro p9 h9; repeat (first | exact h9 | exact ‹∀ q, q ∈ _ → q ∈ _› _ h9 | apply List.mem_cons_of_mem | apply List.mem_append_right))); done); (focus (assumption); done); (focus (assumption); done); done)); k_extra "u9"); intro t9 h9 tk9 F9 N9; (try k_sweep); (try dsimp only); (try k_fold))
  trivial
theorem words_target_code_ok : True := by
  k_with "m call ref" => (k_here; (with_reducible show wpAny _ _ (call (Value.ref 244) [_, _]) _ _ _); k_dflt (apply useP; k_extra "u5"; (focus first | exact rfl | assumption); (focus (apply target_code_ok; (focus (assumption); done); (focus ((intro p9 h9; repeat (first | exact h9 | exact ‹∀ q, q ∈ _ → q ∈ _› _ h9 | apply List.mem_cons_of_mem | apply List.mem_append_right))); done); done)); k_extra "u9"); intro t9 h9 tk9 F9 N9; (try k_sweep); (try dsimp only); (try k_fold))
  trivial
set_option maxHeartbeats 8000000 in
theorem wrap_ok (w : World) (news : List (Addr × Obj)) (n : Int) (t : Tok) :
    CallOk w 28 5 news [.int n t] (Pure news fun t => .int (wrapS n) t) := by
  unfold CallOk
  intro loose mean mg mb dp un gd cn cs a ccd cl outer A₀ base h₀ L m s Q E B F X N T hk hd hu hret
  refine wpAny_call ?_
  k_dflt k_enter
  k_steps
  all_goals refine retI hret ?_ (by k_asm) (by k_asm) (by (intro p9 h9; repeat (first | exact h9 | apply List.mem_cons_of_mem)))
  all_goals (first | (simp [wrapS, *]; done))
theorem words_wrap_ok : True := by
  k_with "m call ref" => (k_here; (with_reducible show wpAny _ _ (call (Value.ref 28) [_]) _ _ _); k_dflt (apply useP; k_extra "u5"; (focus first | exact rfl | assumption); (focus (apply wrap_ok; done)); k_extra "u9"); intro t9 h9 tk9 F9 N9; (try k_sweep); (try dsimp only); (try k_fold))
  trivial
set_option maxHeartbeats 8000000 in
theorem folded1_ok (w : World) (news : List (Addr × Obj)) (name : Str) (t : Tok) (li : Addr) (x : Int) (t1 : Tok) (n1 : Nat) (hl : (li, W.listOf #[.int x t1] n1) ∈ news) (hx : -2147483648 ≤ x ∧ x ≤ 4294967295) (hn : (name == Str.ofString "ABS") = false → (name == Str.ofString "ODD") = false → (name == Str.ofString "ORD") = false → (name == Str.ofString "CHR") = true) :
    CallOk w 216 10 news [.str name t, .ref li] (TupIS news (folded1 name x).1 (folded1 name x).2) := by
  unfold CallOk
  intro loose mean mg mb dp un gd cn cs a ccd cl outer A₀ base h₀ L m s Q E B F X N T hk hd hu hret
  refine wpAny_call ?_
  k_dflt k_enter
  k_steps
  all_goals (try (exfalso; exact absurd ((hn (by assumption) (by assumption) (by assumption)).symm.trans (by assumption : (name == Str.ofString "CHR") = false)) (by decide)))
  all_goals (first | refine retT hret (by k_asm) (by k_mem) ?_ (by k_asm) (by (intro p9 h9; repeat (first | exact h9 | apply List.mem_cons_of_mem))))
  all_goals (first | (simp [folded1, *]; done))
theorem words_folded1_ok : True := by
  k_with "m call ref" => (k_here; (with_reducible show wpAny _ _ (call (Value.ref 216) [_, _]) _ _ _); k_dflt (apply useT; k_extra "u5"; (focus first | exact rfl | assumption); (focus (apply folded1_ok; (focus (k_mem); done); (focus (assumption); done); (focus (assumption); done); done)); k_extra "u9"); intro tp9 ta9 tb9 h9 tk9 F9 N9; (try k_sweep); (try dsimp only); (try k_fold))
  trivial
set_option maxHeartbeats 8000000 in
theorem folded2_ok (w : World) (news : List (Addr × Obj)) (name : Str) (t : Tok) (li : Addr) (x n : Int) (t1 t2 : Tok) (n1 : Nat) (hl : (li, W.listOf #[.int x t1, .int n t2] n1) ∈ news) (hx : -2147483648 ≤ x ∧ x ≤ 4294967295) (hn : 0 ≤ n ∧ n ≤ 31) (h1 : (name == Str.ofString "ABS") = false) (h2 : (name == Str.ofString "ODD") = false) (h3 : (name == Str.ofString "ORD") = false) (h4 : (name == Str.ofString "CHR") = false) :
    CallOk w 216 15 news [.str name t, .ref li] (TupIS news (foldShift name x n) (Str.ofString "")) := by
  unfold CallOk
  have hb := and_full x
  intro loose mean mg mb dp un gd cn cs a ccd cl outer A₀ base h₀ L m s Q E B F X N T hk hd hu hret
  refine wpAny_call ?_
  k_dflt k_enter
  k_steps
  all_goals (first | refine retT hret (by k_asm) (by k_mem) ?_ (by k_asm) (by (intro p9 h9; repeat (first | exact h9 | apply List.mem_cons_of_mem))))
  all_goals (first | (simp [foldShift, *]; done))
theorem words_folded2_ok : True := by
  k_with "m call ref" => (k_here; (with_reducible show wpAny _ _ (call (Value.ref 216) [_, _]) _ _ _); k_dflt (apply useT; k_extra "u5"; (focus first | exact rfl | assumption); (focus (apply folded2_ok; (focus (k_mem); done); (focus (assumption); done); (focus (assumption); done); (focus (assumption); done); (focus (assumption); done); (focus (assumption); done); (focus (assumption); done); done)); k_extra "u9"); intro tp9 ta9 tb9 h9 tk9 F9 N9; (try k_sweep); (try dsimp only); (try k_fold))
  trivial
set_option maxHeartbeats 8000000 in
theorem statement_node1_ok (w : World) (news sub : List (Addr × Obj)) (tys tb tc ti : Addr) (ht : TysAt w.params sub tys tb tc ti) (hsub : ∀ q ∈ sub, q ∈ news) (ar a1 : Addr) (n1 : Nat) (ha : (ar, W.listOf #[.ref a1] n1) ∈ sub) (name : Str) (tn : Tok) (place : Int) (tp : Tok) :
    CallOk w 251 14 news [.ref tys, .str name tn, .ref ar, .int place tp] (SPost w.params news name place ti [a1]) := by
  unfold CallOk
  have ht0 := ht
  replace ha := hsub _ ha
  obtain ⟨yz, tya, tyb⟩ := ht
  replace tya := hsub _ tya
  replace tyb := hsub _ tyb
  intro loose mean mg mb dp un gd cn cs a ccd cl outer A₀ base h₀ L m s Q E B F X N T hk hd hu hret
  refine wpAny_call ?_
  k_dflt k_enter
  k_steps
  all_goals (first
    | exact hret _ _ _ _ (by assumption) (by assumption) ⟨_, _, _, rfl, (by (intro p9 h9; repeat (first | exact h9 | exact ‹∀ q, q ∈ _ → q ∈ _› _ h9 | apply List.mem_cons_of_mem | apply List.mem_append_right))), ⟨⟨_, _, _, _, _, _, _⟩, _, _, _, by k_mem, by k_mem⟩, .inr ⟨(by simp [isID, *]), _, by k_mem⟩⟩
    | exact hret _ _ _ _ (by assumption) (by assumption) ⟨_, _, _, rfl, (by (intro p9 h9; repeat (first | exact h9 | exact ‹∀ q, q ∈ _ → q ∈ _› _ h9 | apply List.mem_cons_of_mem | apply List.mem_append_right))), ⟨⟨_, _, _, _, _, _, _⟩, _, _, _, by k_mem, by k_mem⟩, .inl ⟨(by simp [isID, *]), _, _, _, _, push_mem (by k_mem), ⟨⟨_, _, _, _, _, _, _⟩, _, _, _, by k_mem, by k_mem⟩⟩⟩
   )
theorem words_statement_node1_ok : True := by
  k_with "m call ref" => (k_here; (with_reducible show wpAny _ _ (call (Value.ref 251) [_, _, _, _]) _ _ _); k_dflt (apply useA; k_extra "u5"; (focus first | exact rfl | assumption); (focus (apply statement_node1_ok; (focus (assumption); done); (focus ((intro p9 h9; repeat (first | exact h9 | exact ‹∀ q, q ∈ _ → q ∈ _› _ h9 | apply List.mem_cons_of_mem | apply List.mem_append_right))); done); (focus (assumption); done); done)); k_extra "u9"); intro r9 nw9 h9 tk9 F9 N9 ho9; k_dflt (obtain ⟨x9, k9, t9, e9, s9, o9, q9⟩ := ho9; subst e9); (try k_sweep); (try dsimp only); (try k_fold))
  trivial
set_option maxHeartbeats 8000000 in
theorem const_ok (w : World) (news : List (Addr × Obj)) (ty : Addr) (v : Value) (pl : Int) (t : Tok) :
    CallOk w 71 8 news [.ref ty, v, .int pl t] (fun r nw => ∃ x kids more, r = .ref x ∧ nw = more ++ news ∧ NodeAt w.params more x (Str.ofString "const") pl (.ref ty) (.ref kids) v ∧ (kids, W.listOf #[] 0) ∈ more) := by
  unfold CallOk
  intro loose mean mg mb dp un gd cn cs a ccd cl outer A₀ base h₀ L m s Q E B F X N T hk hd hu hret
  refine wpAny_call ?_
  k_dflt k_enter
  k_steps
  exact hret _ _ _ _ (by k_asm) (by k_asm) ⟨_, _, [(_, _), (_, _), (_, _)], rfl, rfl, ⟨⟨_, _, _, _, _, _, _⟩, _, _, _, by k_mem, by k_mem⟩, by k_mem⟩
theorem words_const_ok : True := by
  k_with "m call ref" => (k_here; (with_reducible show wpAny _ _ (call (Value.ref 71) [_, _, _]) _ _ _); k_dflt (apply useA; k_extra "u5"; (focus first | exact rfl | assumption); (focus (apply const_ok; done)); k_extra "u9"); intro r9 nw9 h9 tk9 F9 N9 ho9; k_dflt (obtain ⟨x9, ki9, mo9, e9, e8, o9, o8⟩ := ho9; subst e9; subst e8; have o7 := o9; obtain ⟨da, db, dc, dd, de9, df⟩ := o7); (try k_sweep); (try dsimp only); (try k_fold))
  trivial
set_option maxHeartbeats 8000000 in
theorem val_value_ok (w : World) (news sub : List (Addr × Obj)) (a : Addr) (form : Str) (sz ln nu : Int) (h : TypeAt w.params sub a form sz ln nu) (hsub : ∀ q ∈ sub, q ∈ news) (x : Int) (t : Tok) :
    CallOk w 230 8 news [.ref a, .int x t] (Pure news fun t => .int (valValue form x) t) := by
  unfold CallOk
  obtain ⟨tz, ya, yb⟩ := h
  replace ya := hsub _ ya
  replace yb := hsub _ yb
  intro loose mean mg mb dp un gd cn cs a ccd cl outer A₀ base h₀ L m s Q E B F X N T hk hd hu hret
  refine wpAny_call ?_
  k_dflt k_enter
  k_steps
  all_goals (first | refine retI hret ?_ (by k_asm) (by k_asm) (by (intro p9 h9; repeat (first | exact h9 | apply List.mem_cons_of_mem))))
  all_goals (first | (simp [valValue, *]; done))
theorem words_val_value_ok : True := by
  k_with "m call ref" => (k_here; (with_reducible show wpAny _ _ (call (Value.ref 230) [_, _]) _ _ _); k_dflt (apply useP; k_extra "u5"; (focus first | exact rfl | assumption); (focus (apply val_value_ok; (focus (assumption); done); (focus ((intro p9 h9; repeat (first | exact h9 | exact ‹∀ q, q ∈ _ → q ∈ _› _ h9 | apply List.mem_cons_of_mem | apply List.mem_append_right))); done); done)); k_extra "u9"); intro t9 h9 tk9 F9 N9; (try k_sweep); (try dsimp only); (try k_fold))
  trivial
theorem tf {b : Bool} {P : Prop} (h1 : b = true) (h2 : b = false) : P := by cases h1.symm.trans h2
theorem CallOk.mono {w : World} {f : Addr} {k : Nat} {news : List (Addr × Obj)} {vs : List Value} {P P' : Value → List (Addr × Obj) → Prop} (C : CallOk w f k news vs P) (h : ∀ v nw, P v nw → P' v nw) : CallOk w f k news vs P' := fun _ _ _ _ _ _ _ _ _ _ _ _ _ _ _ _ _ _ _ _ _ B F X N T hk hd hu ret => C.use B F X N T hk hd hu fun r nw h' tk' F' N' hP => ret r nw h' tk' F' N' (h r nw hP)
theorem newNode.at {P : Params} {news nw : List (Addr × Obj)} {op : Str} {pl : Int} {t1 t2 : Tok} {ty kd v r : Value} (h : newNode P news (.str op t1) (.int pl t2) ty kd v r nw) : ∃ x, r = .ref x ∧ NodeAt P nw x op pl ty kd v ∧ ∀ q ∈ news, q ∈ nw := by
  obtain ⟨x, z, rfl, rfl, _, _⟩ := h
  exact ⟨x, rfl, ⟨z, t1, t2, .bool false, .head _, .tail _ (.head _)⟩, fun q h => .tail _ (.tail _ h)⟩
theorem Marked.err {P : Params} {seg rest nw nw2 : List (Addr × Obj)} {er : Addr} {pl : Int} {code : Str} (h : Marked P seg rest er pl code nw) (hc : (code == Str.ofString "") = false) (s : ∀ q ∈ nw, q ∈ nw2) : ErrAt P nw2 er [(pl, code)] := by
  rcases h with ⟨e, _⟩ | ⟨_, E', rfl, hE⟩
  · rw [hc] at e; cases e
  · exact hE.mono fun q h => s q (List.mem_append_left _ h)
theorem errAt_seg {P : Params} {er de r p : Addr} {k1 k2 : Tok} {o : Obj} {rest nw : List (Addr × Obj)} (s : ∀ q ∈ errSeg P er de r p k1 k2 o ++ rest, q ∈ nw) : ErrAt P nw er [] := ⟨de, r, p, k1, k2, s _ (.tail _ (.tail _ (.head _))), s _ (.tail _ (.tail _ (.tail _ (.head _)))), 0, s _ (.tail _ (.head _))⟩
theorem bne_no {x y : Str} (h : (x != y) = false) : (x == y) = true := by simpa using h
theorem bne_yes {x y : Str} (h : (x != y) = true) : (x == y) = false := by simpa using h
section
variable {fi : Fi} {c : Lc} {l : List (Str × Value)} {news nw : List (Addr × Obj)} {x y : Str} {i j pl v : Int} {e e1 e2 e3 e4 e5 : PySem.Expr} {p p1 p2 : Pos} {k : Nat} {K : Value → List (Addr × Obj) → Prop} {R : List (Str × Value) → List (Addr × Obj) → Prop} {a ty : Addr} {st st1 : List Stmt} {b : Bool} {tv : Value} {op nm : Str} {ks : Array Value}
/-- const(type, value, place) -/
theorem Rt.const (O : c.Ok k) (hO : 9 ≤ k) (hk : fi.cs.kind = .function) (ok : okG fi.cs (Str.ofString "const") = true) (hn : noStar [e1, e2, e3] = true) (h1 : Ev fi c l news e1 (vv (.ref ty))) (h2 : Ev fi c l news e2 (iv v)) (h3 : Ev fi c l news e3 (iv pl))
    (hK : ∀ x nw t kd, (∀ q ∈ news, q ∈ nw) → NodeAt c.w.params nw x (Str.ofString "const") pl (.ref ty) (.ref kd) (.int v t) → K (.ref x) nw) : Rt fi c l news (.Call (.Name (Str.ofString "const") p1) [e1, e2, e3] [] p) K :=
  Rt.callC (k := 8) O hO hk go_const ok hn (Rs.ev hn h1 fun _ => Rs.ev (noStar_tl hn) h2 fun t => Rs.ev (noStar_tl (noStar_tl hn)) h3 fun _ => Rs.nil ((const_ok _ _ _ _ _ _).mono fun r nw3 h9 => by
    obtain ⟨x, kids, more, rfl, rfl, hN, _⟩ := h9
    exact hK x _ _ _ (fun q h => List.mem_append_right _ h) (hN.mono fun q h => List.mem_append_left _ h)))
/-- Node(op, place, type, kids, name) -/
theorem Rt.node5 (O : c.Ok k) (hO : 11 ≤ k) (hk : fi.cs.kind = .function) (ok : okG fi.cs (Str.ofString "Node") = true) (hn : noStar [e1, e2, e3, e4, e5] = true) (h1 : Ev fi c l news e1 (sv op)) (h2 : Ev fi c l news e2 (iv pl)) (h3 : Ev fi c l news e3 (vv tv)) (h4 : Rt fi c l news e4 fun v nw => ∃ kd n, v = .ref kd ∧ (∀ q ∈ news, q ∈ nw) ∧ (kd, W.listOf ks n) ∈ nw) (h5 : ∀ nw, (∀ q ∈ news, q ∈ nw) → Ev fi c l nw e5 (sv nm))
    (hK : ∀ x kd n t nw, (∀ q ∈ news, q ∈ nw) → NodeAt c.w.params nw x op pl tv (.ref kd) (.str nm t) → (kd, W.listOf ks n) ∈ nw → K (.ref x) nw) : Rt fi c l news (.Call (.Name (Str.ofString "Node") p1) [e1, e2, e3, e4, e5] [] p) K :=
  Rt.callC (k := 10) O hO hk go_Node ok hn (Rs.ev hn h1 fun _ => Rs.ev (noStar_tl hn) h2 fun _ => Rs.ev (noStar_tl (noStar_tl hn)) h3 fun _ => Rs.cons (noStar_tl (noStar_tl (noStar_tl hn))) h4 fun v nw ⟨kd, n, e, s1, hm⟩ => by
    subst e
    exact Rs.ev (noStar_tl (noStar_tl (noStar_tl (noStar_tl hn)))) (h5 nw s1) fun t => Rs.nil ((node_cls5_ok _ _ _ _ _ _ _).mono fun r nw3 h9 => by
      obtain ⟨x, rfl, hN, s2⟩ := h9.at
      exact hK x kd n t nw3 (fun q h => s2 q (s1 q h)) hN (s2 _ hm)))
end
/-- what the first kid is, once a letter has become its number -/
noncomputable def KidIs (P : Params) (nw : List (Addr × Obj)) (f0 : Addr) (F : Int → Prop) (G : Prop) : Prop :=
  (∃ i t pl ty kd, NodeAt P nw f0 (Str.ofString "const") pl ty kd (.int i t) ∧ F i) ∨ (∃ op pl ty kd v, NodeAt P nw f0 op pl ty kd v ∧ (op == Str.ofString "const") = false ∧ G)
theorem fnode1_S {n : Str} {tb tc ti a1 : Addr} {d : Sd} (h : (n == Str.ofString "SIZE") = true) : fnode1 n tb tc ti a1 d = (.const ti d.sz, Str.ofString "") := if_pos h
theorem fnode1_L1 {n : Str} {tb tc ti a1 : Addr} {d : Sd} (hS : (n == Str.ofString "SIZE") = false) (h : (n == Str.ofString "LEN") = true) (b : decide (0 ≤ d.ln) = true) : fnode1 n tb tc ti a1 d = (.const ti d.ln, Str.ofString "") := by
  unfold fnode1; rw [if_neg (ne_no hS), if_pos h, if_pos (of_decide_eq_true b)]
theorem fnode1_L2 {n : Str} {tb tc ti a1 : Addr} {d : Sd} (hS : (n == Str.ofString "SIZE") = false) (h : (n == Str.ofString "LEN") = true) (b : decide (0 ≤ d.ln) = false) : fnode1 n tb tc ti a1 d = (.std ti [a1], Str.ofString "") := by
  unfold fnode1; rw [if_neg (ne_no hS), if_pos h, if_neg (of_decide_eq_false b)]
theorem fnode1_C {n : Str} {tb tc ti a1 : Addr} {d : Sd} (hS : (n == Str.ofString "SIZE") = false) (hL : (n == Str.ofString "LEN") = false) {i : Int} (h : d.sh = .cint i ∨ (d.sh = .letter ∧ i = 97)) : fnode1 n tb tc ti a1 d = (.const (resT n tb tc ti) (folded1 n i).1, (folded1 n i).2) := by
  unfold fnode1; rw [if_neg (ne_no hS), if_neg (ne_no hL)]
  rcases h with h | ⟨h, rfl⟩ <;> rw [h]
theorem letter_sh {d : Sd} (h : isLetter d = true) : d.sh = .letter := by
  unfold isLetter at h
  split at h
  · assumption
  · cases h
theorem fpost_of {P : Params} {rest nw : List (Addr × Obj)} {er x : Addr} {place : Int} {name : Str} {y : Res × Str} {z : Res} (e : y = (z, Str.ofString "")) (sub : ∀ q ∈ rest, q ∈ nw) (hE : ErrAt P nw er []) (hR : Fres P nw x place name z) : FPost P rest er place name y (.ref x) nw := by
  subst e; exact ⟨x, rfl, sub, hE, hR⟩
theorem rowsOf_ne {c : Str} {pl : Int} (h : (c == Str.ofString "") = false) : rowsOf pl c = [(pl, c)] := by unfold rowsOf; rw [if_neg (ne_no h)]
theorem rowsOf_eq {c : Str} {pl : Int} (h : (c == Str.ofString "") = true) : rowsOf pl c = [] := by unfold rowsOf; rw [if_pos h]
theorem is_constN_ok (w : World) (news : List (Addr × Obj)) (a : Addr) (op : Str) (pl : Int) (ty kd v : Value) (h : NodeAt w.params news a op pl ty kd v) : CallOk w 106 2 news [.ref a] (Pure news (vv (.bool (op == Str.ofString "const")))) := by
  k_extra "open"
  k_extra "bb"
section
variable {fi : Fi} {c : Lc} {l : List (Str × Value)} {news : List (Addr × Obj)} {e : PySem.Expr} {p p1 : Pos} {k : Nat} {a : Addr} {op : Str} {pos : Pos} {pl : Int} {ty kd v : Value}
theorem Ts.isConst (O : c.Ok k) (hO : 3 ≤ k) (hk : fi.cs.kind = .function) (ok : okG fi.cs (Str.ofString "is_const") = true) (hn : noStar [e] = true) (he : Ev fi c l news e (vv (.ref a))) (h : NodeAt c.w.params news a op pl ty kd v) : Ts fi c l news (.Call (.Name (Str.ofString "is_const") p1) [e] [] p) (op == Str.ofString "const") :=
  Ts.call (Ev.call (k := 2) O hO hk go_is_const ok hn (Evs.cons hn he Evs.nil) (by rintro vs ⟨_, _, rfl, rfl⟩; exact is_constN_ok _ _ _ _ _ _ _ _ h))
theorem Ts.notConst (O : c.Ok k) (hO : 3 ≤ k) (hk : fi.cs.kind = .function) (ok : okG fi.cs (Str.ofString "is_const") = true) (hn : noStar [e] = true) (he : Ev fi c l news e (vv (.ref a))) (h : NodeAt c.w.params news a op pl ty kd v) : Ts fi c l news (.UnaryOp .Not (.Call (.Name (Str.ofString "is_const") p1) [e] [] p) pos) (!(op == Str.ofString "const")) :=
  Ts.not (Ts.call (Ev.call (k := 2) O hO hk go_is_const ok hn (Evs.cons hn he Evs.nil) (by rintro vs ⟨_, _, rfl, rfl⟩; exact is_constN_ok _ _ _ _ _ _ _ _ h)))
end
theorem go_val_value : GlobOk (Str.ofString "val_value") (.ref 230) := fun P => ⟨by kernel_rfl, by kernel_rfl⟩
theorem vnode_C {ty1 a : Addr} {form1 : Str} {d : Sd} {i : Int} (h : d.sh = .cint i ∨ (d.sh = .letter ∧ i = 97)) : vnode ty1 form1 a d = .const ty1 (valValue form1 i) := by
  unfold vnode
  rcases h with h | ⟨h, rfl⟩ <;> rw [h]
theorem vnode_S {ty1 a : Addr} {form1 : Str} {d : Sd} (h : (d.sh.op == Str.ofString "const") = false) : vnode ty1 form1 a d = .std ty1 [a] := by
  unfold vnode
  obtain ⟨sh, f, x, y, z⟩ := d
  cases sh with
  | cint i => exact absurd (show (Str.ofString "const" == Str.ofString "const") = false from h) (by decide)
  | letter => exact absurd (show (Str.ofString "const" == Str.ofString "const") = false from h) (by decide)
  | _ => rfl
set_option maxHeartbeats 2000000 in
theorem val_node_ok (w : World) (news sub : List (Addr × Obj)) (tys tb tc ti : Addr) (ht : TysAt w.params sub tys tb tc ti) (hsub : ∀ q ∈ sub, q ∈ news) (ty1 : Addr) (form1 : Str) (sz1 ln1 nu1 : Int) (hty : TypeAt w.params sub ty1 form1 sz1 ln1 nu1) (a : Addr) (pl : Int) (d : Sd) (h : SideAt w.params sub a pl d) (hw : d.wf) (hx : d.sh ≠ .text) (place : Int) (tp : Tok) :
    CallOk w 223 20 news [.ref tys, .ref ty1, .ref a, .int place tp] (fun r nw => ∃ x, r = .ref x ∧ (∀ q ∈ news, q ∈ nw) ∧ Fres w.params nw x place (Str.ofString "VAL") (vnode ty1 form1 a d)) := by
  k_extra "open"
  have s1' := h.mono hsub
  have ht' := ht.mono hsub
  have hty' := hty.mono hsub
  obtain ⟨tyA, kdA, v1, hA, hT, hv⟩ := id s1'
  refine Bd.ifXl (fun l l' nw => (∀ x v, (x == Str.ofString "node") = false → look l x = some v → look l' x = some v) ∧ ∃ f0, look l' (Str.ofString "node") = some (.ref f0) ∧ (∀ q ∈ news, q ∈ nw) ∧ KidIs c.w.params nw f0 (fun i => vnode ty1 form1 a d = .const ty1 (valValue form1 i)) (f0 = a ∧ vnode ty1 form1 a d = .std ty1 [a]))
    (Ts.call (Ev.call (k := 5) ok (Nat.le_of_ble_eq_true rfl) rfl go_is_letter (by decide +kernel) rfl (Evs.cons rfl (by k_extra "evr") Evs.nil) (by rintro vs ⟨_, _, rfl, rfl⟩; exact is_letter_ok _ _ _ _ _ _ h hsub hw))) (fun hl => ?_) (fun hl => ?_) ?_
  · have hsh := letter_sh hl
    refine Bx.asgR (by decide +kernel) (fun _ => rfl) (Rt.const (v := 97) (K := fun v nw => ∃ x, v = .ref x ∧ (∀ q ∈ news, q ∈ nw) ∧ ∃ t kd, NodeAt c.w.params nw x (Str.ofString "const") pl (.ref tc) (.ref kd) (.int 97 t)) ok (Nat.le_of_ble_eq_true rfl) rfl (by decide +kernel) rfl (y_evChar (by k_extra "evr") base_name ht' ok) (Ev.ordS ok (by decide +kernel) rfl (s_evStr (by k_extra "evr") base_name s1' (.inl hsh) ok) (by rw [hsh]; decide) (by rw [hsh]; decide)) (n_evPlace (by k_extra "evr") base_name hA ok) fun x nw t kd s2 hN => ⟨x, rfl, s2, t, kd, hN⟩) fun v nw ⟨x, e, s2, t, kd, hN⟩ => ?_
    subst e
    exact Bx.nil ⟨fun y v hy h => look_miss hy h, x, look_hit, s2, .inl ⟨97, t, _, _, _, hN, vnode_C (.inr ⟨hsh, rfl⟩)⟩⟩
  · refine Bx.nil ⟨fun _ _ _ h => h, a, (by k_extra "lk"), fun q h => h, ?_⟩
    rcases sh_cases d.sh with ⟨i, hi⟩ | hi | hi | ⟨hop, _⟩
    · rw [hi] at hv hA
      obtain ⟨t, rfl⟩ := hv
      exact .inl ⟨i, t, _, _, _, hA, vnode_C (.inl hi)⟩
    · exact absurd (show isLetter d = true by unfold isLetter; rw [hi]) (ne_no hl)
    · exact (hx hi).elim
    · exact .inr ⟨_, _, _, _, _, hA, hop, rfl, vnode_S hop⟩
  rintro l2 nw2 ⟨hlk, f0, hf0, s2, hk⟩
  have q1 : look l2 (Str.ofString "place") = some (.int place tp) := hlk _ _ (by decide) (by k_extra "lk")
  have q2 : look l2 (Str.ofString "t") = some (.ref ty1) := hlk _ _ (by decide) (by k_extra "lk")
  have hty2 := hty'.mono s2
  rcases hk with ⟨i, t, pl, ty, kd, hN, hy⟩ | ⟨op, pl, ty, kd, v, hN, hop, rfl, hy⟩
  · rw [hy]
    refine Bd.ifR (b := true) (Ts.isConst ok (Nat.le_of_ble_eq_true rfl) rfl (by decide +kernel) rfl (by k_extra "evr") hN) (fun _ => ?_) fun h => by cases h
    refine Rt.const (v := valValue form1 i) ok (Nat.le_of_ble_eq_true rfl) rfl (by decide +kernel) rfl (by k_extra "evr") (Ev.call (k := 8) ok (Nat.le_of_ble_eq_true rfl) rfl go_val_value (by decide +kernel) rfl (Evs.cons rfl (by k_extra "evr") (Evs.cons rfl (n_evValue (by k_extra "evr") base_name hN rfl ok) Evs.nil)) (by rintro vs ⟨_, _, rfl, _, _, rfl, rfl⟩; exact val_value_ok _ _ _ _ _ _ _ _ hty2 (fun _ h => h) _ _)) (by k_extra "evi") fun x nw t kd s9 hN9 => ⟨x, rfl, fun q h => s9 q (s2 q h), _, _, hN9⟩
  · rw [hy]
    refine Bd.ifN (Ts.isConst ok (Nat.le_of_ble_eq_true rfl) rfl (by decide +kernel) rfl (by k_extra "evr") hN) hop ?_
    exact Bd.ret (Rt.node5 (ks := #[.ref f0]) ok (Nat.le_of_ble_eq_true rfl) rfl (by decide +kernel) rfl Ev.str (by k_extra "evi") (by k_extra "evr") (Rt.list (Rs.ev rfl (by k_extra "evr") fun _ => Rs.nil ⟨Nat.le_of_ble_eq_true rfl, fun D => ⟨D, 0, rfl, fun q h => .tail _ h, .head _⟩⟩)) (fun nw _ => Ev.str) fun x kd n t nw s5 hN hm => ⟨x, rfl, fun q h => s5 q (s2 q h), _, _, _, hN, hm⟩)
theorem words_val_node_ok : True := by
  k_with "m call ref" => (k_here; (with_reducible show wpAny _ _ (call (Value.ref 223) [_, _, _, _]) _ _ _); k_dflt (apply useA; k_extra "u5"; (focus first | exact rfl | assumption); (focus (apply val_node_ok; (focus (assumption); done); (focus ((intro p9 h9; repeat (first | exact h9 | exact ‹∀ q, q ∈ _ → q ∈ _› _ h9 | apply List.mem_cons_of_mem | apply List.mem_append_right))); done); (focus (assumption); done); (focus (assumption); done); (focus (assumption); done); (focus (assumption); done); done)); k_extra "u9"); intro r9 nw9 h9 tk9 F9 N9 ho9; k_dflt (obtain ⟨x9, e9, s9, o9⟩ := ho9; subst e9); (try k_sweep); (try dsimp only); (try k_fold))
  trivial
set_option maxHeartbeats 2000000 in
theorem function_node1_ok (w : World) (rest : List (Addr × Obj)) (er de r p : Addr) (k1 k2 : Tok) (o : Obj) (hE : ErrPre w er de r p k1 k2 o rest) (ar a1 : Addr) (n1 : Nat) (pl1 : Int) (d1 : Sd) (ha : (ar, W.listOf #[.ref a1] n1) ∈ rest) (s1 : SideAt w.params rest a1 pl1 d1) (hw1 : d1.wf) (tys tb tc ti : Addr) (ht : TysAt w.params rest tys tb tc ti) (name : Str) (tn : Tok) (hc : ((fcode1 name pl1 d1).2 == Str.ofString "") = true) (hn : (name == Str.ofString "VAL") = false) (hf : (name == Str.ofString "ABS") = false → (name == Str.ofString "ODD") = false → (name == Str.ofString "ORD") = false → (name == Str.ofString "SIZE") = false → (name == Str.ofString "LEN") = false → (name == Str.ofString "CHR") = true) (hb : ∀ i, d1.sh = .cint i → -2147483648 ≤ i ∧ i ≤ 4294967295) (place : Int) (tp : Tok) :
    CallOk w 209 30 (errSeg w.params er de r p k1 k2 o ++ rest) [.ref tys, .ref er, .str name tn, .ref ar, .int place tp] (FPost w.params rest er place name (fnode1 name tb tc ti a1 d1)) := by
  k_extra "openP"
  have sub : ∀ q ∈ rest, q ∈ errSeg c.w.params er de r p k1 k2 o ++ rest := fun q h => List.mem_append_right _ h
  have ha' := sub _ ha
  have s1' := s1.mono sub
  have ht' := ht.mono sub
  obtain ⟨ty1, kd1, v1, hA, hT, hv⟩ := id s1'
  refine Bd.ifB (by k_extra "ts") (fun hS => ?_) fun hS => ?_
  · rw [size_typ hc hS] at hv
    obtain rfl : v1 = .ref ty1 := hv
    exact Bd.ret (Rt.const ok (Nat.le_of_ble_eq_true rfl) rfl (by decide +kernel) rfl (y_evInteger (by k_extra "evr") base_name ht' ok) (t_evSize (n_evValue (by k_extra "it") base_sub hA rfl ok) base_attr hT ok) (by k_extra "evi") fun x nw t kd s2 hN => fpost_of (fnode1_S hS) (fun q h => s2 q (sub q h)) (errAt_seg s2) ⟨_, _, hN⟩)
  refine Bd.asg (by decide +kernel) (fun _ => rfl) (by k_extra "evr") fun _ => ?_
  refine Bd.ifB (by k_extra "ts") (fun hL => ?_) fun hL => ?_
  · refine Bd.ifR (Ts.geI (t_evLength (n_evType (by k_extra "evr") base_name hA rfl ok) base_attr hT ok) Ev.int) (fun hl => ?_) fun hl => ?_
    · exact Rt.const ok (Nat.le_of_ble_eq_true rfl) rfl (by decide +kernel) rfl (y_evInteger (by k_extra "evr") base_name ht' ok) (t_evLength (n_evType (by k_extra "evr") base_name hA rfl ok) base_attr hT ok) (by k_extra "evi") fun x nw t kd s2 hN => fpost_of (fnode1_L1 hS hL hl) (fun q h => s2 q (sub q h)) (errAt_seg s2) ⟨_, _, hN⟩
    · exact Bd.ret (Rt.node5 (ks := #[.ref a1]) ok (Nat.le_of_ble_eq_true rfl) rfl (by decide +kernel) rfl Ev.str (by k_extra "evi") (y_evInteger (by k_extra "evr") base_name ht' ok) (Rt.list (Rs.ev rfl (by k_extra "evr") fun _ => Rs.nil ⟨Nat.le_of_ble_eq_true rfl, fun D => ⟨D, 0, rfl, fun q h => .tail _ h, .head _⟩⟩)) (fun nw _ => by k_extra "evs") fun x kd n t nw s2 hN hm => fpost_of (fnode1_L2 hS hL hl) (fun q h => s2 q (sub q h)) (errAt_seg s2) ⟨_, _, _, hN, hm⟩)
  refine Bd.ifN (by k_extra "ts") hn ?_
  refine Bd.ifXl (fun l l' nw => (∀ x v, (x == Str.ofString "first") = false → look l x = some v → look l' x = some v) ∧ ∃ f0, look l' (Str.ofString "first") = some (.ref f0) ∧ (∀ q ∈ errSeg c.w.params er de r p k1 k2 o ++ rest, q ∈ nw) ∧ KidIs c.w.params nw f0 (fun i => (-2147483648 ≤ i ∧ i ≤ 4294967295) ∧ fnode1 name tb tc ti a1 d1 = (.const (resT name tb tc ti) (folded1 name i).1, (folded1 name i).2)) (f0 = a1 ∧ fnode1 name tb tc ti a1 d1 = (.std (resT name tb tc ti) [a1], Str.ofString "")))
    (Ts.call (Ev.call (k := 5) ok (Nat.le_of_ble_eq_true rfl) rfl go_is_letter (by decide +kernel) rfl (Evs.cons rfl (by k_extra "evr") Evs.nil) (by rintro vs ⟨_, _, rfl, rfl⟩; exact is_letter_ok _ _ _ _ _ _ s1 sub hw1))) (fun hl => ?_) (fun hl => ?_) ?_
  · have hsh := letter_sh hl
    refine Bx.asgR (by decide +kernel) (fun _ => rfl) (Rt.const (v := 97) (K := fun v nw => ∃ x, v = .ref x ∧ (∀ q ∈ errSeg c.w.params er de r p k1 k2 o ++ rest, q ∈ nw) ∧ ∃ t kd, NodeAt c.w.params nw x (Str.ofString "const") pl1 (.ref tc) (.ref kd) (.int 97 t)) ok (Nat.le_of_ble_eq_true rfl) rfl (by decide +kernel) rfl (y_evChar (by k_extra "evr") base_name ht' ok) (Ev.ordS ok (by decide +kernel) rfl (s_evStr (by k_extra "evr") base_name s1' (.inl hsh) ok) (by rw [hsh]; decide) (by rw [hsh]; decide)) (n_evPlace (by k_extra "evr") base_name hA ok) fun x nw t kd s2 hN => ⟨x, rfl, s2, t, kd, hN⟩) fun v nw ⟨x, e, s2, t, kd, hN⟩ => ?_
    subst e
    exact Bx.nil ⟨fun y v hy h => look_miss hy h, x, look_hit, s2, .inl ⟨97, t, _, _, _, hN, by decide, fnode1_C hS hL (.inr ⟨hsh, rfl⟩)⟩⟩
  · refine Bx.nil ⟨fun _ _ _ h => h, a1, (by k_extra "lk"), fun q h => h, ?_⟩
    rcases sh_cases d1.sh with ⟨i, hi⟩ | hi | hi | ⟨hop, _⟩
    · rw [hi] at hv hA
      obtain ⟨t, rfl⟩ := hv
      exact .inl ⟨i, t, _, _, _, hA, hb i hi, fnode1_C hS hL (.inl hi)⟩
    · exact absurd (show isLetter d1 = true by unfold isLetter; rw [hi]) (ne_no hl)
    · exact (text_no hc hw1 hi hS hL).elim
    · exact .inr ⟨_, _, _, _, _, hA, hop, rfl, fnode1_std hS hL hop⟩
  rintro l2 nw2 ⟨hlk, f0, hf0, s2, hk⟩
  have q1 : look l2 (Str.ofString "types") = some (.ref tys) := hlk _ _ (by decide) (by k_extra "lk")
  have q2 : look l2 (Str.ofString "place") = some (.int place tp) := hlk _ _ (by decide) (by k_extra "lk")
  have q3 : look l2 (Str.ofString "errors") = some (.ref er) := hlk _ _ (by decide) (by k_extra "lk")
  have q4 : look l2 (Str.ofString "name") = some (.str name tn) := hlk _ _ (by decide) (by k_extra "lk")
  have q5 : look l2 (Str.ofString "arguments") = some (.ref ar) := hlk _ _ (by decide) (by k_extra "lk")
  have m1 := s2 _ ha'
  refine Bd.asg (by decide +kernel) (fun _ => rfl) (Ev.call (k := 8) ok (Nat.le_of_ble_eq_true rfl) rfl go_result_type (by decide +kernel) rfl (Evs.cons rfl (by k_extra "evr") (Evs.cons rfl (by k_extra "evs") (Evs.cons rfl (by k_extra "evr") Evs.nil))) (by rintro vs ⟨_, _, rfl, _, _, rfl, _, _, rfl, rfl⟩; exact result_type_ok _ _ _ _ _ _ _ ht' s2 _ _ _ hn)) fun _ => ?_
  refine Bd.asgR (by decide +kernel) (fun _ => rfl) (Rt.kids (K := fun v nw => ∃ D, v = .ref D ∧ (∀ q ∈ nw2, q ∈ nw) ∧ (D, W.listOf #[.ref f0] 0) ∈ nw) (vs := [.ref a1]) rfl (by k_extra "evr") (fun _ _ => by k_extra "evr") m1 rfl (Nat.le_of_ble_eq_true rfl) (Nat.le_of_ble_eq_true rfl) (fun _ => by with_unfolding_all rfl) (fun _ => rfl) fun D nw h1 h2 => ⟨D, rfl, h1, h2⟩) fun v nw3 ⟨D, e, s3, hD⟩ => ?_
  subst e
  have s4 : ∀ q ∈ errSeg c.w.params er de r p k1 k2 o ++ rest, q ∈ nw3 := fun q h => s3 q (s2 q h)
  rcases hk with ⟨i, t, pl, ty, kd, hN, hi, hy⟩ | ⟨op, pl, ty, kd, v, hN, hop, rfl, hy⟩
  · have hN3 := hN.mono s3
    refine Bd.forl (vs := [.ref f0]) (fun l l' => l' = (Str.ofString "kid", .ref f0) :: l) PO (by decide +kernel) (by k_extra "evr") hD (fun _ => rfl) (fun I it => ?_) ?_
    · exact Bx.ifR (b := false) (Ts.notConst ok (Nat.le_of_ble_eq_true rfl) rfl (by decide +kernel) rfl (by k_extra "evr") (hN3.mono (n' := (I, it) :: nw3) fun q h => .tail _ h)) (fun h => by cases h) fun _ => Bx.nil ⟨fun q h => h, rfl⟩
    rintro l3 rfl
    obtain ⟨zN, tN1, tN2, suN, hN1, hN2⟩ := id hN3
    refine Bd.unp2 (Post := fun v nw => ∃ tp t1 t2, v = .ref tp ∧ (tp, tupObj #[.int (folded1 name i).1 t1, .str (folded1 name i).2 t2]) ∈ nw ∧ (∀ q ∈ nw3, q ∈ nw)) (by decide +kernel) (by decide +kernel) (fun _ => rfl) (fun _ => rfl) (Rt.callC (k := 10) ok (Nat.le_of_ble_eq_true rfl) rfl go_folded (by decide +kernel) rfl (Rs.ev rfl (by k_extra "evs") fun _ => Rs.cons (K := fun v nw => ∃ D n, v = .ref D ∧ (∀ q ∈ nw3, q ∈ nw) ∧ (D, W.listOf #[.int i t] n) ∈ nw) rfl (Rt.comp (vs := [.ref f0]) (fs := [vv (.int i t)]) (by k_extra "evr") hD rfl (by decide +kernel) rfl (by decide +kernel) rfl (fun _ => rfl) (Nat.le_of_ble_eq_true rfl) (.cons (Ec.attr base_name (Ec.var (by decide +kernel)) ok.X ao_value hN1 hN2 rfl rfl) .nil) ?_) fun v nw ⟨D2, n2, e2, s5, hD2⟩ => ?_)) ?_
    · intro D2 zs hz
      cases hz with
      | cons hz => cases hz with
        | nil => exact ⟨D2, _, rfl, fun q h => .tail _ h, .head _⟩
    · subst e2
      exact Rs.nil ((folded1_ok _ _ _ _ _ _ _ _ hD2 hi fun g1 g2 g3 => hf g1 g2 g3 hS hL).mono fun r nw5 ⟨tp, t1, t2, e3, e4⟩ => by
        subst e4
        exact ⟨tp, t1, t2, e3, .head _, fun q h => .tail _ (s5 q h)⟩)
    rintro v nw5 ⟨tp, t1, t2, rfl, htp, s6⟩
    have s7 : ∀ q ∈ errSeg c.w.params er de r p k1 k2 o ++ rest, q ∈ nw5 := fun q h => s6 q (s4 q h)
    refine ⟨tp, _, _, rfl, htp, ?_⟩
    generalize hV : (folded1 name i).1 = V at hy ⊢
    generalize hC : (folded1 name i).2 = C at hy ⊢
    refine Bd.ifXl (fun l l' nw => l' = l ∧ (∀ q ∈ rest, q ∈ nw) ∧ ErrAt c.w.params nw er (rowsOf place C)) (by k_extra "ts") (fun h => ?_) (fun h => ?_) ?_
    · refine Bx.drop (Bx.mark_ hE ok (Nat.le_of_ble_eq_true rfl) rfl rfl rfl (fun _ => rfl) (by k_extra "evr") (by k_extra "evi") (by k_extra "evs") fun E' hE' => Bx.nil ⟨rfl, fun q h => List.mem_append_right _ h, ?_⟩) s7
      rw [rowsOf_ne (bne_yes h)]
      exact hE'.mono fun q h => List.mem_append_left _ h
    · refine Bx.nil ⟨rfl, fun q h => s7 q (sub q h), ?_⟩
      rw [rowsOf_eq (bne_no h)]
      exact errAt_seg s7
    rintro l4 nw6 ⟨rfl, s8, hE6⟩
    refine Bd.ret (Rt.const ok (Nat.le_of_ble_eq_true rfl) rfl (by decide +kernel) rfl (by k_extra "evr") (by k_extra "evi") (by k_extra "evi") fun x nw t kd s9 hN9 => ?_)
    rw [hy]
    exact ⟨x, rfl, fun q h => s9 q (s8 q h), hE6.mono s9, _, _, hN9⟩
  · have hN3 := hN.mono s3
    refine Bd.forl (vs := [.ref f0]) (fun _ _ => False) PO (by decide +kernel) (by k_extra "evr") hD (fun _ => rfl) (fun I it => ?_) fun _ h => h.elim
    refine Bx.ifR (b := true) (Ts.conv (Ts.notConst ok (Nat.le_of_ble_eq_true rfl) rfl (by decide +kernel) rfl (by k_extra "evr") (hN3.mono (n' := (I, it) :: nw3) fun q h => .tail _ h)) (by rw [hop]; rfl)) (fun _ => ?_) fun h => by cases h
    exact Rt.node5 (ks := #[.ref f0]) ok (Nat.le_of_ble_eq_true rfl) rfl (by decide +kernel) rfl Ev.str (by k_extra "evi") (by k_extra "evr") (Rt.ev (by k_extra "evr") fun _ => ⟨D, 0, rfl, fun q h => h, .tail _ hD⟩) (fun nw _ => by k_extra "evs") fun x kd n t nw s5 hN hm => fpost_of hy (fun q h => s5 q (.tail _ (s4 q (sub q h)))) (errAt_seg fun q h => s5 q (.tail _ (s4 q h))) ⟨_, _, _, hN, hm⟩
theorem fnode2_C {n : Str} {tb tc ti a1 a2 : Addr} {d1 d2 : Sd} {i j : Int} (h1 : d1.sh = .cint i) (h2 : d2.sh = .cint j) : fnode2 n tb tc ti a1 a2 d1 d2 = (.const (resT n tb tc ti) (foldShift n i j), Str.ofString "") := by
  unfold fnode2; rw [h1, h2]
set_option maxHeartbeats 2000000 in
theorem function_node2_ok (w : World) (rest : List (Addr × Obj)) (er de r p : Addr) (k1 k2 : Tok) (o : Obj) (hE : ErrPre w er de r p k1 k2 o rest) (ar a1 a2 : Addr) (n1 : Nat) (pl1 pl2 : Int) (d1 d2 : Sd) (ha : (ar, W.listOf #[.ref a1, .ref a2] n1) ∈ rest) (s1 : SideAt w.params rest a1 pl1 d1) (s2 : SideAt w.params rest a2 pl2 d2) (hw1 : d1.wf) (hw2 : d2.wf) (tys tb tc ti : Addr) (ht : TysAt w.params rest tys tb tc ti) (name : Str) (tn : Tok) (hc : ((fcode2 name pl1 pl2 d1 d2).2 == Str.ofString "") = true) (g0 : (name == Str.ofString "SIZE") = false) (g1 : (name == Str.ofString "LEN") = false) (g2 : (name == Str.ofString "VAL") = false) (g3 : (name == Str.ofString "ABS") = false) (g4 : (name == Str.ofString "ODD") = false) (g5 : (name == Str.ofString "ORD") = false) (g6 : (name == Str.ofString "CHR") = false) (hb : ∀ i, d1.sh = .cint i → -2147483648 ≤ i ∧ i ≤ 4294967295) (place : Int) (tp : Tok) :
    CallOk w 209 30 (errSeg w.params er de r p k1 k2 o ++ rest) [.ref tys, .ref er, .str name tn, .ref ar, .int place tp] (FPost w.params rest er place name (fnode2 name tb tc ti a1 a2 d1 d2)) := by
  obtain ⟨i1, i2, hr2⟩ := code2_ints g2 hc
  have z1 := int_sh hw1 i1
  have z2 := int_sh hw2 i2
  have hl : isLetter d1 = false := by
    rcases z1 with ⟨i, h⟩ | h
    · unfold isLetter; rw [h]
    · exact h.2
  k_extra "openP"
  have sub : ∀ q ∈ rest, q ∈ errSeg c.w.params er de r p k1 k2 o ++ rest := fun q h => List.mem_append_right _ h
  have ha' := sub _ ha
  have s1' := s1.mono sub
  have ht' := ht.mono sub
  obtain ⟨ty1, kd1, v1, hA, hT, hv⟩ := s1.mono sub
  obtain ⟨ty2, kd2, v2, hA2, hT2, hv2⟩ := s2.mono sub
  refine Bd.ifN (by k_extra "ts") g0 ?_
  refine Bd.asg (by decide +kernel) (fun _ => rfl) (by k_extra "evr") fun _ => ?_
  refine Bd.ifN (by k_extra "ts") g1 ?_
  refine Bd.ifN (by k_extra "ts") g2 ?_
  refine Bd.ifN (Ts.call (Ev.call (k := 5) ok (Nat.le_of_ble_eq_true rfl) rfl go_is_letter (by decide +kernel) rfl (Evs.cons rfl (by k_extra "evr") Evs.nil) (by rintro vs ⟨_, _, rfl, rfl⟩; exact is_letter_ok _ _ _ _ _ _ s1 sub hw1))) hl ?_
  refine Bd.asg (by decide +kernel) (fun _ => rfl) (Ev.call (k := 8) ok (Nat.le_of_ble_eq_true rfl) rfl go_result_type (by decide +kernel) rfl (Evs.cons rfl (by k_extra "evr") (Evs.cons rfl (by k_extra "evs") (Evs.cons rfl (by k_extra "evr") Evs.nil))) (by rintro vs ⟨_, _, rfl, _, _, rfl, _, _, rfl, rfl⟩; exact result_type_ok _ _ _ _ _ _ _ ht' (fun _ h => h) _ _ _ g2)) fun _ => ?_
  refine Bd.asgR (by decide +kernel) (fun _ => rfl) (Rt.kids (K := fun v nw => ∃ D, v = .ref D ∧ (∀ q ∈ errSeg c.w.params er de r p k1 k2 o ++ rest, q ∈ nw) ∧ (D, W.listOf #[.ref a1, .ref a2] 0) ∈ nw) (vs := [.ref a1, .ref a2]) rfl (by k_extra "evr") (fun _ _ => by k_extra "evr") ha' rfl (Nat.le_of_ble_eq_true rfl) (Nat.le_of_ble_eq_true rfl) (fun _ => by with_unfolding_all rfl) (fun _ => rfl) fun D nw h1 h2 => ⟨D, rfl, h1, h2⟩) fun v nw3 ⟨D, e, s3, hD⟩ => ?_
  subst e
  have hN1 := hA.mono s3
  have hN2 := hA2.mono s3
  rcases z1 with ⟨i, hi⟩ | ⟨hop, _⟩
  · rw [hi] at hv hN1
    obtain ⟨t, rfl⟩ := hv
    rcases z2 with ⟨j, hj⟩ | ⟨hop2, _⟩
    · rw [hj] at hv2 hN2 hr2
      obtain ⟨t2, rfl⟩ := hv2
      have hy := fnode2_C (n := name) (tb := tb) (tc := tc) (ti := ti) (a1 := a1) (a2 := a2) hi hj
      refine Bd.forl (vs := [.ref a1, .ref a2]) (fun l l' => l' = (Str.ofString "kid", .ref a2) :: (Str.ofString "kid", .ref a1) :: l) PO (by decide +kernel) (by k_extra "evr") hD (fun _ => rfl) (fun I it => ?_) ?_
      · refine Bx.ifR (b := false) (Ts.notConst ok (Nat.le_of_ble_eq_true rfl) rfl (by decide +kernel) rfl (by k_extra "evr") (hN1.mono (n' := (I, it) :: nw3) fun q h => .tail _ h)) (fun h => by cases h) fun _ => Bx.nil ⟨fun q h => h, fun I it => ?_⟩
        exact Bx.ifR (b := false) (Ts.notConst ok (Nat.le_of_ble_eq_true rfl) rfl (by decide +kernel) rfl (by k_extra "evr") (hN2.mono (n' := (I, it) :: nw3) fun q h => .tail _ h)) (fun h => by cases h) fun _ => Bx.nil ⟨fun q h => h, rfl⟩
      rintro l3 rfl
      obtain ⟨zN, tN1, tN2, suN, x1, x2⟩ := id hN1
      obtain ⟨zM, tM1, tM2, suM, y1, y2⟩ := id hN2
      refine Bd.unp2 (Post := fun v nw => ∃ tp t1 t2, v = .ref tp ∧ (tp, tupObj #[.int (foldShift name i j) t1, .str (Str.ofString "") t2]) ∈ nw ∧ (∀ q ∈ nw3, q ∈ nw)) (by decide +kernel) (by decide +kernel) (fun _ => rfl) (fun _ => rfl) (Rt.callC (k := 15) ok (Nat.le_of_ble_eq_true rfl) rfl go_folded (by decide +kernel) rfl (Rs.ev rfl (by k_extra "evs") fun _ => Rs.cons (K := fun v nw => ∃ D n, v = .ref D ∧ (∀ q ∈ nw3, q ∈ nw) ∧ (D, W.listOf #[.int i t, .int j t2] n) ∈ nw) rfl (Rt.comp (vs := [.ref a1, .ref a2]) (fs := [vv (.int i t), vv (.int j t2)]) (by k_extra "evr") hD rfl (by decide +kernel) rfl (by decide +kernel) rfl (fun _ => rfl) (Nat.le_of_ble_eq_true rfl) (.cons (Ec.attr base_name (Ec.var (by decide +kernel)) ok.X ao_value x1 x2 rfl rfl) (.cons (Ec.attr base_name (Ec.var (by decide +kernel)) ok.X ao_value y1 y2 rfl rfl) .nil)) ?_) fun v nw ⟨D2, n2, e2, s5, hD2⟩ => ?_)) ?_
      · intro D2 zs hz
        cases hz with
        | cons hz => cases hz with
          | cons hz => cases hz with
            | nil => exact ⟨D2, _, rfl, fun q h => .tail _ h, .head _⟩
      · subst e2
        exact Rs.nil ((folded2_ok _ _ _ _ _ _ _ _ _ _ hD2 (hb i hi) (range_in hr2) g3 g4 g5 g6).mono fun r nw5 ⟨tp, t1, t2, e3, e4⟩ => by
          subst e4
          exact ⟨tp, t1, t2, e3, .head _, fun q h => .tail _ (s5 q h)⟩)
      rintro v nw5 ⟨tp, t1, t2, rfl, htp, s6⟩
      refine ⟨tp, _, _, rfl, htp, ?_⟩
      refine Bd.ifN (by k_extra "ts") (ne_of_eqt rfl) ?_
      exact Bd.ret (Rt.const ok (Nat.le_of_ble_eq_true rfl) rfl (by decide +kernel) rfl (by k_extra "evr") (by k_extra "evi") (by k_extra "evi") fun x nw t kd s9 hN9 => fpost_of hy (fun q h => s9 q (s6 q (s3 q (sub q h)))) (errAt_seg fun q h => s9 q (s6 q (s3 q h))) ⟨_, _, hN9⟩)
    · have hy := fnode2_std (n := name) (tb := tb) (tc := tc) (ti := ti) (a1 := a1) (a2 := a2) (d1 := d1) (d2 := d2) (.inr hop2)
      refine Bd.forl (vs := [.ref a1, .ref a2]) (fun _ _ => False) PO (by decide +kernel) (by k_extra "evr") hD (fun _ => rfl) (fun I it => ?_) fun _ h => h.elim
      refine Bx.ifR (b := false) (Ts.notConst ok (Nat.le_of_ble_eq_true rfl) rfl (by decide +kernel) rfl (by k_extra "evr") (hN1.mono (n' := (I, it) :: nw3) fun q h => .tail _ h)) (fun h => by cases h) fun _ => Bx.nil ⟨fun q h => h, fun I it => ?_⟩
      refine Bx.ifR (b := true) (Ts.conv (Ts.notConst ok (Nat.le_of_ble_eq_true rfl) rfl (by decide +kernel) rfl (by k_extra "evr") (hN2.mono (n' := (I, it) :: nw3) fun q h => .tail _ h)) (by rw [hop2]; rfl)) (fun _ => ?_) fun h => by cases h
      exact Rt.node5 (ks := #[.ref a1, .ref a2]) ok (Nat.le_of_ble_eq_true rfl) rfl (by decide +kernel) rfl Ev.str (by k_extra "evi") (by k_extra "evr") (Rt.ev (by k_extra "evr") fun _ => ⟨D, 0, rfl, fun q h => h, .tail _ hD⟩) (fun nw _ => by k_extra "evs") fun x kd n t nw s5 hN hm => fpost_of hy (fun q h => s5 q (.tail _ (s3 q (sub q h)))) (errAt_seg fun q h => s5 q (.tail _ (s3 q h))) ⟨_, _, _, hN, hm⟩
  · have hy := fnode2_std (n := name) (tb := tb) (tc := tc) (ti := ti) (a1 := a1) (a2 := a2) (d1 := d1) (d2 := d2) (.inl hop)
    refine Bd.forl (vs := [.ref a1, .ref a2]) (fun _ _ => False) PO (by decide +kernel) (by k_extra "evr") hD (fun _ => rfl) (fun I it => ?_) fun _ h => h.elim
    refine Bx.ifR (b := true) (Ts.conv (Ts.notConst ok (Nat.le_of_ble_eq_true rfl) rfl (by decide +kernel) rfl (by k_extra "evr") (hN1.mono (n' := (I, it) :: nw3) fun q h => .tail _ h)) (by rw [hop]; rfl)) (fun _ => ?_) fun h => by cases h
    exact Rt.node5 (ks := #[.ref a1, .ref a2]) ok (Nat.le_of_ble_eq_true rfl) rfl (by decide +kernel) rfl Ev.str (by k_extra "evi") (by k_extra "evr") (Rt.ev (by k_extra "evr") fun _ => ⟨D, 0, rfl, fun q h => h, .tail _ hD⟩) (fun nw _ => by k_extra "evs") fun x kd n t nw s5 hN hm => fpost_of hy (fun q h => s5 q (.tail _ (s3 q (sub q h)))) (errAt_seg fun q h => s5 q (.tail _ (s3 q h))) ⟨_, _, _, hN, hm⟩
set_option maxHeartbeats 8000000 in
theorem function_nodeV_ok (w : World) (rest : List (Addr × Obj)) (er de r p : Addr) (k1 k2 : Tok) (o : Obj) (hE : ErrPre w er de r p k1 k2 o rest) (ar a1 a2 : Addr) (n1 : Nat) (pl1 pl2 : Int) (d2 : Sd) (ty1 kd1 : Addr) (form1 : Str) (sz1 ln1 nu1 : Int) (ha : (ar, W.listOf #[.ref a1, .ref a2] n1) ∈ rest) (s1 : NodeAt w.params rest a1 (Str.ofString "type") pl1 (.ref ty1) (.ref kd1) (.ref ty1)) (hty : TypeAt w.params rest ty1 form1 sz1 ln1 nu1) (s2 : SideAt w.params rest a2 pl2 d2) (hw2 : d2.wf) (tys tb tc ti : Addr) (ht : TysAt w.params rest tys tb tc ti) (tn : Tok) (hx : d2.sh ≠ .text) (place : Int) (tp : Tok) :
    CallOk w 209 30 (errSeg w.params er de r p k1 k2 o ++ rest) [.ref tys, .ref er, .str (Str.ofString "VAL") tn, .ref ar, .int place tp] (VPost w.params rest er place (vnode ty1 form1 a2 d2)) := by
  unfold CallOk
  obtain ⟨nz, ta, tx, su, na, nb⟩ := s1
  intro loose mean mg mb dp un gd cn cs a ccd cl outer A₀ base h₀ L m s Q E B F X N T hk hd hu hret
  simp only [errSeg, List.cons_append, List.nil_append] at N
  refine wpAny_call ?_
  k_dflt k_enter
  k_steps
  all_goals (first | exact hret _ _ _ _ (by assumption) (by assumption) ⟨_, rfl, (fun q h => s9 _ (List.mem_cons_of_mem _ (List.mem_cons_of_mem _ (List.mem_cons_of_mem _ (List.mem_cons_of_mem _ h))))), ⟨de, r, p, k1, k2, s9 _ (by k_mem), s9 _ (by k_mem), 0, s9 _ (by k_mem)⟩, by assumption⟩)
theorem words_function_nodeV_ok : True := by
  k_with "m call ref" => (k_here; (with_reducible show wpAny _ _ (call (Value.ref 209) [_, _, _, _, _]) _ _ _); k_dflt (apply useB; (focus (apply function_nodeV_ok; (focus (assumption); done); (focus (assumption); done); (focus (assumption); done); (focus (assumption); done); (focus (assumption); done); (focus (assumption); done); (focus (assumption); done); (focus (first | assumption | exact val_text3 (by assumption) (by assumption)); done); done)); k_extra "u3"; (focus (first | k_asm | (refine' cb_drop ?n4 ?s4; (case n4 => assumption); (case s4 => simp only [errSeg, List.cons_append, List.nil_append, List.forall_mem_cons]; exact ⟨by k_mem, by k_mem, by k_mem, by k_mem, by (intro p9 h9; repeat (first | exact h9 | exact ‹∀ q, q ∈ _ → q ∈ _› _ h9 | apply List.mem_cons_of_mem | apply List.mem_append_right))⟩))); done); (focus k_asm); (focus first | exact rfl | assumption); k_extra "u9"); intro r9 nw9 h9 tk9 F9 N9 ho9; k_dflt (obtain ⟨x9, e9, s9, o9, q9⟩ := ho9; subst e9); (try k_sweep); (try dsimp only); (try k_fold))
  trivial
set_option maxHeartbeats 8000000 in
theorem statement_node2_ok (w : World) (news sub : List (Addr × Obj)) (tys tb tc ti : Addr) (ht : TysAt w.params sub tys tb tc ti) (hsub : ∀ q ∈ sub, q ∈ news) (ar a1 a2 : Addr) (n1 : Nat) (ha : (ar, W.listOf #[.ref a1, .ref a2] n1) ∈ sub) (name : Str) (tn : Tok) (place : Int) (tp : Tok) :
    CallOk w 251 14 news [.ref tys, .str name tn, .ref ar, .int place tp] (SPost w.params news name place ti [a1, a2]) := by
  unfold CallOk
  replace ha := hsub _ ha
  intro loose mean mg mb dp un gd cn cs a ccd cl outer A₀ base h₀ L m s Q E B F X N T hk hd hu hret
  refine wpAny_call ?_
  k_dflt k_enter
  k_steps
  all_goals (first
    | exact hret _ _ _ _ (by assumption) (by assumption) ⟨_, _, _, rfl, (by (intro p9 h9; repeat (first | exact h9 | exact ‹∀ q, q ∈ _ → q ∈ _› _ h9 | apply List.mem_cons_of_mem | apply List.mem_append_right))), ⟨⟨_, _, _, _, _, _, _⟩, _, _, _, by k_mem, by k_mem⟩, ⟨_, by k_mem⟩⟩
   )
theorem words_statement_node2_ok : True := by
  k_with "m call ref" => (k_here; (with_reducible show wpAny _ _ (call (Value.ref 251) [_, _, _, _]) _ _ _); k_dflt (apply useA; k_extra "u5"; (focus first | exact rfl | assumption); (focus (apply statement_node2_ok; (focus (assumption); done); (focus ((intro p9 h9; repeat (first | exact h9 | exact ‹∀ q, q ∈ _ → q ∈ _› _ h9 | apply List.mem_cons_of_mem | apply List.mem_append_right))); done); (focus (assumption); done); done)); k_extra "u9"); intro r9 nw9 h9 tk9 F9 N9 ho9; k_dflt (obtain ⟨x9, k9, t9, e9, s9, o9, q9⟩ := ho9; subst e9); (try k_sweep); (try dsimp only); (try k_fold))
  trivial
theorem std_gen (w : World) (rest : List (Addr × Obj)) (er de r p : Addr) (k1 k2 : Tok) (o : Obj) (hE : ErrPre w er de r p k1 k2 o rest) (tys ar : Addr) (n1 : Nat) (as : List Addr) (ha : (ar, W.listOf (as.map Value.ref).toArray n1) ∈ rest) (hsz : (as.map Value.ref).toArray.size ≤ 3) (name : Str) (tn : Tok) (stmt : Bool) (place : Int) (tp : Tok) (y : Int × Str) (NP : Value → List (Addr × Obj) → Prop)
    (hu : (useCode name (((as.map Value.ref).toArray.size : Nat) : Int) stmt == Str.ofString "") = false → y = (place, useCode name (((as.map Value.ref).toArray.size : Nat) : Int) stmt))
    (hS : (useCode name (((as.map Value.ref).toArray.size : Nat) : Int) stmt == Str.ofString "") = true → stmt = true → ∀ t, CallOk w 237 20 (errSeg w.params er de r p k1 k2 o ++ rest) [.ref er, .str name t, .ref ar] (MPost w.params (errSeg w.params er de r p k1 k2 o) rest er y.1 y.2))
    (hF : (useCode name (((as.map Value.ref).toArray.size : Nat) : Int) stmt == Str.ofString "") = true → stmt = false → ∀ t, CallOk w 176 20 (errSeg w.params er de r p k1 k2 o ++ rest) [.ref er, .str name t, .ref ar] (MPost w.params (errSeg w.params er de r p k1 k2 o) rest er y.1 y.2))
    (hR : stmt = false → (y.2 == Str.ofString "") = false → ∀ R : List (Addr × Obj), (∀ q ∈ rest, q ∈ R) → ∀ t, CallOk w 127 8 R [.ref tys, .str name t, .ref ar] (fun r nw => nw = R ∧ ∃ t, r = .ref t))
    (hNS : stmt = true → (y.2 == Str.ofString "") = true → ∀ t t2, CallOk w 251 14 (errSeg w.params er de r p k1 k2 o ++ rest) [.ref tys, .str name t, .ref ar, .int place t2] NP)
    (hNF : stmt = false → (y.2 == Str.ofString "") = true → ∀ t t2, CallOk w 209 30 (errSeg w.params er de r p k1 k2 o ++ rest) [.ref tys, .ref er, .str name t, .ref ar, .int place t2] NP) :
    CallOk w 134 40 (errSeg w.params er de r p k1 k2 o ++ rest) [.ref tys, .ref er, .str name tn, .ref ar, .int place tp, .bool stmt] (fun r nw => ((y.2 == Str.ofString "") = false ∧ EPost w.params rest er y.1 y.2 stmt place r nw) ∨ ((y.2 == Str.ofString "") = true ∧ NP r nw)) := by
  k_extra "open"
  have sub : ∀ q ∈ rest, q ∈ errSeg c.w.params er de r p k1 k2 o ++ rest := fun q h => List.mem_append_right _ h
  have ha' := sub _ ha
  generalize hcu : useCode name (((as.map Value.ref).toArray.size : Nat) : Int) stmt = cu at hu hS hF
  refine Bd.asg (f := sv cu) (by decide +kernel) (fun _ => rfl) (Ev.call (k := 5) ok (Nat.le_of_ble_eq_true rfl) rfl go_use_code (by decide +kernel) rfl (Evs.cons rfl (by k_extra "evs") (Evs.cons rfl (Ev.lenL ok (by decide +kernel) rfl (by k_extra "evr") ha' hsz) (Evs.cons rfl (by k_extra "evr") Evs.nil))) (by rintro vs ⟨t, _, rfl, t2, _, rfl, _, _, rfl, rfl⟩; rw [← hcu]; exact use_code_ok _ _ _ _ _ _ _)) fun t0 => ?_
  refine Bd.ifXl (CodeAt c.w.params (errSeg c.w.params er de r p k1 k2 o) rest er y) (by k_extra "ts") (fun a9 => ?_) (fun a9 => ?_) fun l2 nw2 h => ?_
  · refine Bx.mark_ hE ok (Nat.le_of_ble_eq_true rfl) rfl rfl rfl (fun _ => rfl) (by k_extra "evr") (by k_extra "evi") (by k_extra "evs") fun E' hE' => Bx.nil ?_
    obtain rfl := hu (bne_yes a9)
    exact ⟨⟨_, look_hit⟩, fun _ _ _ h => h, .inr ⟨bne_yes a9, E', rfl, hE'⟩⟩
  · cases stmt with
    | true => exact Bx.ifT (by k_extra "ts") rfl (Bx.asgR (by decide +kernel) (fun _ => rfl) (Rt.callC (k := 20) ok (Nat.le_of_ble_eq_true rfl) rfl go_statement_code (by decide +kernel) rfl (Rs.ev rfl (by k_extra "evr") fun _ => Rs.ev rfl (by k_extra "evs") fun _ => Rs.ev rfl (by k_extra "evr") fun _ => Rs.nil (hS (bne_no a9) rfl _))) fun v nw h => Bx.nil (Bx.nil (CodeAt.of h fun _ _ _ h => h)))
    | false => exact Bx.ifE (by k_extra "ts") rfl (Bx.asgR (by decide +kernel) (fun _ => rfl) (Rt.callC (k := 20) ok (Nat.le_of_ble_eq_true rfl) rfl go_function_code (by decide +kernel) rfl (Rs.ev rfl (by k_extra "evr") fun _ => Rs.ev rfl (by k_extra "evs") fun _ => Rs.ev rfl (by k_extra "evr") fun _ => Rs.nil (hF (bne_no a9) rfl _))) fun v nw h => Bx.nil (Bx.nil (CodeAt.of h fun _ _ _ h => h)))
  have q1 : look l2 (Str.ofString "as_statement") = some (.bool stmt) := h.2.1 _ _ (by decide) (by k_extra "lk")
  have q2 : look l2 (Str.ofString "place") = some (.int place tp) := h.2.1 _ _ (by decide) (by k_extra "lk")
  have q3 : look l2 (Str.ofString "types") = some (.ref tys) := h.2.1 _ _ (by decide) (by k_extra "lk")
  have q4 : look l2 (Str.ofString "errors") = some (.ref er) := h.2.1 _ _ (by decide) (by k_extra "lk")
  have q5 : look l2 (Str.ofString "name") = some (.str name tn) := h.2.1 _ _ (by decide) (by k_extra "lk")
  have q6 : look l2 (Str.ofString "arguments") = some (.ref ar) := h.2.1 _ _ (by decide) (by k_extra "lk")
  cases stmt with
  | true =>
    refine Bd.ifT (by k_extra "ts") rfl (Bx.ofBd ?_)
    refine Bd.ifR (Ts.neS (Ev.nameS h.1.choose_spec (by decide +kernel)) Ev.str) (fun a8 => ?_) fun a8 => ?_
    · refine Rt.callC (k := 10) ok (Nat.le_of_ble_eq_true rfl) rfl go_Node (by decide +kernel) rfl (Rs.ev rfl Ev.str fun _ => Rs.ev rfl (by k_extra "evi") fun _ => Rs.ev rfl Ev.none fun _ => Rs.cons (K := fun v nw => ∀ q ∈ nw2, q ∈ nw) rfl (Rt.list (Rs.nil ⟨Nat.le_of_ble_eq_true rfl, fun D q h => .tail _ h⟩)) fun v nw hs => Rs.nil (CallOk.mono (node_cls4_ok _ _ _ _ _ _) fun r nw3 h9 => ?_))
      obtain ⟨x, rfl, hN, hs2⟩ := h9.at
      exact .inl ⟨bne_yes a8, x, _, _, _, rfl, fun q h8 => hs2 q (hs q (h.2.2.sub q h8)), h.2.2.err (bne_yes a8) fun q h8 => hs2 q (hs q h8), hN⟩
    · obtain ⟨rfl, e⟩ := h.go (bne_no a8)
      exact Bd.ret (Rt.mono (Rt.callC (k := 14) ok (Nat.le_of_ble_eq_true rfl) rfl go_statement_node (by decide +kernel) rfl (Rs.ev rfl (by k_extra "evr") fun _ => Rs.ev rfl (by k_extra "evs") fun _ => Rs.ev rfl (by k_extra "evr") fun _ => Rs.ev rfl (by k_extra "evi") fun _ => Rs.nil (hNS rfl (bne_no a8) _ _))) fun v nw h9 => .inr ⟨bne_no a8, h9⟩)
  | false =>
    refine Bd.ifE (by k_extra "ts") rfl (Bx.nil ?_)
    refine Bd.ifR (Ts.neS (Ev.nameS h.1.choose_spec (by decide +kernel)) Ev.str) (fun a8 => ?_) fun a8 => ?_
    · refine Rt.callC (k := 8) ok (Nat.le_of_ble_eq_true rfl) rfl go_const (by decide +kernel) rfl (Rs.cons (K := fun v nw => (∃ t, v = .ref t) ∧ nw = nw2) rfl (Rt.callC (k := 8) ok (Nat.le_of_ble_eq_true rfl) rfl go_result_type (by decide +kernel) rfl (Rs.ev rfl (by k_extra "evr") fun _ => Rs.ev rfl (by k_extra "evs") fun _ => Rs.ev rfl (by k_extra "evr") fun _ => Rs.nil ((hR rfl (bne_yes a8) nw2 h.2.2.sub _).mono fun v nw h => ⟨h.2, h.1⟩))) ?_)
      rintro v nw ⟨⟨ty, rfl⟩, rfl⟩
      refine Rs.ev rfl Ev.int fun _ => Rs.ev rfl (by k_extra "evi") fun _ => Rs.nil ((const_ok _ _ _ _ _ _).mono fun r nw3 h9 => ?_)
      obtain ⟨x, kids, more, rfl, rfl, hN, _⟩ := h9
      exact .inl ⟨bne_yes a8, x, _, _, _, rfl, fun q h8 => List.mem_append_right _ (h.2.2.sub q h8), h.2.2.err (bne_yes a8) fun q h8 => List.mem_append_right _ h8, hN.mono fun q h8 => List.mem_append_left _ h8⟩
    · obtain ⟨rfl, e⟩ := h.go (bne_no a8)
      exact Bd.ret (Rt.mono (Rt.callC (k := 30) ok (Nat.le_of_ble_eq_true rfl) rfl go_function_node (by decide +kernel) rfl (Rs.ev rfl (by k_extra "evr") fun _ => Rs.ev rfl (by k_extra "evr") fun _ => Rs.ev rfl (by k_extra "evs") fun _ => Rs.ev rfl (by k_extra "evr") fun _ => Rs.ev rfl (by k_extra "evi") fun _ => Rs.nil (hNF rfl (bne_no a8) _ _))) fun v nw h9 => .inr ⟨bne_no a8, h9⟩)
theorem headAt_of {P : Params} {R : List (Addr × Obj)} {a : Addr} {l : List Addr} {pl : Int} {d : Sd} (h : SideAt P R a pl d) : HeadAt P R (a :: l) := by
  obtain ⟨ty, kids, v, h1, h2, h3⟩ := h
  refine ⟨_, _, _, _, _, h1, fun e => ?_⟩
  obtain ⟨sh, f, a, b, c⟩ := d
  cases sh with
  | typ => exact ⟨ty, h3⟩
  | var _ => exact absurd (show (Str.ofString "var" == Str.ofString "type") = true from e) (by decide)
  | neg => exact absurd (show (Str.ofString "neg" == Str.ofString "type") = true from e) (by decide)
  | _ => exact absurd (show (Str.ofString "const" == Str.ofString "type") = true from e) (by decide)
theorem result_typeE_ok (w : World) (news sub : List (Addr × Obj)) (tys tb tc ti : Addr) (ht : TysAt w.params sub tys tb tc ti) (hsub : ∀ q ∈ sub, q ∈ news) (ar : Addr) (n1 : Nat) (as : List Addr) (ha : (ar, W.listOf (as.map Value.ref).toArray n1) ∈ sub) (hA : HeadAt w.params sub as) (hsz : ((as.map Value.ref).toArray.size : Nat) ≤ 3) (name : Str) (tn : Tok) :
    CallOk w 127 8 news [.ref tys, .str name tn, .ref ar] (fun r nw => nw = news ∧ ∃ t, r = .ref t) := by
  have ht0 := ht.mono hsub
  have ha0 := hsub _ ha
  k_extra "open"
  refine Bd.ifR (by k_extra "ts") (fun _ => Rt.ev (y_evBoolean (by k_extra "evr") base_name ht0 ok) fun _ => ⟨rfl, _, rfl⟩) fun _ => ?_
  refine Bd.ifR (by k_extra "ts") (fun _ => Rt.ev (y_evChar (by k_extra "evr") base_name ht0 ok) fun _ => ⟨rfl, _, rfl⟩) fun _ => ?_
  cases as with
  | nil => exact Bd.ifN (Ts.and (b1 := name == Str.ofString "VAL") (b2 := false) (by k_extra "ts") fun _ => Ts.and (b1 := false) (b2 := false) (Ts.gtI (Ev.lenL ok (by decide +kernel) rfl (by k_extra "evr") ha0 hsz) Ev.int) fun h => by cases h) (Bool.and_false _) (Bd.ret (Rt.ev (y_evInteger (by k_extra "evr") base_name ht0 ok) fun _ => ⟨rfl, _, rfl⟩))
  | cons a1 as =>
    obtain ⟨op, pl, ty, kd, v, h1, hv⟩ := hA
    have h1' := h1.mono hsub
    refine Bd.ifR (b := (name == Str.ofString "VAL") && (decide (0 < (((List.map Value.ref (a1 :: as)).toArray.size : Nat) : Int)) && (op == Str.ofString "type"))) (Ts.and (by k_extra "ts") fun _ => Ts.and (Ts.gtI (Ev.lenL ok (by decide +kernel) rfl (by k_extra "evr") ha0 hsz) Ev.int) fun _ => Ts.and1 (Ts.eqS (n_evOp (Ev.lstN (v := .ref a1) (by k_extra "evr") ha0 rfl (by decide) (fun _ => by with_unfolding_all rfl)) base_sub h1' ok) Ev.str)) (fun h => ?_) fun _ => ?_
    · obtain ⟨t, rfl⟩ := hv (Bool.and_eq_true_iff.mp (Bool.and_eq_true_iff.mp h).2).2
      exact Rt.ev (n_evValue (Ev.lstN (v := .ref a1) (by k_extra "evr") ha0 rfl (by decide) (fun _ => by with_unfolding_all rfl)) base_sub h1' rfl ok) fun _ => ⟨rfl, _, rfl⟩
    · exact Bd.ret (Rt.ev (y_evInteger (by k_extra "evr") base_name ht0 ok) fun _ => ⟨rfl, _, rfl⟩)
theorem std_callS1_ok (w : World) (rest : List (Addr × Obj)) (er de r p : Addr) (k1 k2 : Tok) (o : Obj) (hE : ErrPre w er de r p k1 k2 o rest) (ar a1 : Addr) (n1 : Nat) (pl1 : Int) (d1 : Sd) (ha : (ar, W.listOf #[.ref a1] n1) ∈ rest) (s1 : SideAt w.params rest a1 pl1 d1) (hw1 : d1.wf) (tys tb tc ti : Addr) (ht : TysAt w.params rest tys tb tc ti) (name : Str) (tn : Tok) (hc : (useCode name 1 true == Str.ofString "") = true) (place : Int) (tp : Tok) :
    CallOk w 134 40 (errSeg w.params er de r p k1 k2 o ++ rest) [.ref tys, .ref er, .str name tn, .ref ar, .int place tp, .bool true] (CallS w.params rest er (scode1 name pl1 d1) name place ti [a1]) := by
  exact std_gen w rest er de r p k1 k2 o hE tys ar n1 [a1] ha (Nat.le_of_ble_eq_true rfl) name tn true place tp (scode1 name pl1 d1) (fun r nw => ErrAt w.params nw er [] ∧ SPost w.params rest name place ti [a1] r nw) (fun h => tf hc h)
    (fun _ _ t => statement_code1_ok w rest er de r p k1 k2 o hE name t ar a1 n1 pl1 d1 ha s1 hw1) (fun _ h => by cases h) (fun h => by cases h)
    (fun _ _ t t2 => (statement_node1_ok w (errSeg w.params er de r p k1 k2 o ++ rest) rest tys tb tc ti ht (fun q h => List.mem_append_right _ h) ar a1 n1 ha name t place t2).mono fun r nw ⟨x, k, t, e1, s2, e2, e3⟩ => ⟨errAt_seg s2, x, k, t, e1, (fun q h => s2 q (List.mem_append_right _ h)), e2, e3⟩) (fun h => by cases h)
theorem std_callS2_ok (w : World) (rest : List (Addr × Obj)) (er de r p : Addr) (k1 k2 : Tok) (o : Obj) (hE : ErrPre w er de r p k1 k2 o rest) (ar a1 a2 : Addr) (n1 : Nat) (pl1 pl2 : Int) (d1 d2 : Sd) (ha : (ar, W.listOf #[.ref a1, .ref a2] n1) ∈ rest) (s1 : SideAt w.params rest a1 pl1 d1) (s2 : SideAt w.params rest a2 pl2 d2) (hw1 : d1.wf) (hw2 : d2.wf) (tys tb tc ti : Addr) (ht : TysAt w.params rest tys tb tc ti) (name : Str) (tn : Tok) (hn : (name == Str.ofString "ASSERT") = false) (hc : (useCode name 2 true == Str.ofString "") = true) (place : Int) (tp : Tok) :
    CallOk w 134 40 (errSeg w.params er de r p k1 k2 o ++ rest) [.ref tys, .ref er, .str name tn, .ref ar, .int place tp, .bool true] (CallS w.params rest er (scode2 name pl1 pl2 d1 d2) name place ti [a1, a2]) := by
  exact std_gen w rest er de r p k1 k2 o hE tys ar n1 [a1, a2] ha (Nat.le_of_ble_eq_true rfl) name tn true place tp (scode2 name pl1 pl2 d1 d2) (fun r nw => ErrAt w.params nw er [] ∧ SPost w.params rest name place ti [a1, a2] r nw) (fun h => tf hc h)
    (fun _ _ t => statement_code2_ok w rest er de r p k1 k2 o hE name t hn ar a1 a2 n1 pl1 pl2 d1 d2 ha s1 s2 hw1 hw2) (fun _ h => by cases h) (fun h => by cases h)
    (fun _ _ t t2 => (statement_node2_ok w (errSeg w.params er de r p k1 k2 o ++ rest) rest tys tb tc ti ht (fun q h => List.mem_append_right _ h) ar a1 a2 n1 ha name t place t2).mono fun r nw ⟨x, k, t, e1, s2, e2, e3⟩ => ⟨errAt_seg s2, x, k, t, e1, (fun q h => s2 q (List.mem_append_right _ h)), e2, e3⟩) (fun h => by cases h)
theorem std_callF1_ok (w : World) (rest : List (Addr × Obj)) (er de r p : Addr) (k1 k2 : Tok) (o : Obj) (hE : ErrPre w er de r p k1 k2 o rest) (ar a1 : Addr) (n1 : Nat) (pl1 : Int) (d1 : Sd) (ha : (ar, W.listOf #[.ref a1] n1) ∈ rest) (s1 : SideAt w.params rest a1 pl1 d1) (hw1 : d1.wf) (tys tb tc ti : Addr) (ht : TysAt w.params rest tys tb tc ti) (name : Str) (tn : Tok) (hn : (name == Str.ofString "VAL") = false) (hf : (name == Str.ofString "ABS") = false → (name == Str.ofString "ODD") = false → (name == Str.ofString "ORD") = false → (name == Str.ofString "SIZE") = false → (name == Str.ofString "LEN") = false → (name == Str.ofString "CHR") = true) (hb : ∀ i, d1.sh = .cint i → -2147483648 ≤ i ∧ i ≤ 4294967295) (hc : (useCode name 1 false == Str.ofString "") = true) (place : Int) (tp : Tok) :
    CallOk w 134 40 (errSeg w.params er de r p k1 k2 o ++ rest) [.ref tys, .ref er, .str name tn, .ref ar, .int place tp, .bool false] (CallF w.params rest er (fcode1 name pl1 d1) name place (fnode1 name tb tc ti a1 d1)) := by
  exact std_gen w rest er de r p k1 k2 o hE tys ar n1 [a1] ha (Nat.le_of_ble_eq_true rfl) name tn false place tp (fcode1 name pl1 d1) (FPost w.params rest er place name (fnode1 name tb tc ti a1 d1)) (fun h => tf hc h)
    (fun _ h => by cases h) (fun _ _ t => function_code1_ok w rest er de r p k1 k2 o hE name t hn ar a1 n1 pl1 d1 ha s1 hw1) (fun _ _ R sub t => result_typeE_ok w R rest tys tb tc ti ht sub ar n1 [a1] ha (headAt_of s1) (Nat.le_of_ble_eq_true rfl) _ t)
    (fun h => by cases h) (fun _ hc t t2 => function_node1_ok w rest er de r p k1 k2 o hE ar a1 n1 pl1 d1 ha s1 hw1 tys tb tc ti ht name t hc hn hf hb place t2)
theorem std_callF2_ok (w : World) (rest : List (Addr × Obj)) (er de r p : Addr) (k1 k2 : Tok) (o : Obj) (hE : ErrPre w er de r p k1 k2 o rest) (ar a1 a2 : Addr) (n1 : Nat) (pl1 pl2 : Int) (d1 d2 : Sd) (ha : (ar, W.listOf #[.ref a1, .ref a2] n1) ∈ rest) (s1 : SideAt w.params rest a1 pl1 d1) (s2 : SideAt w.params rest a2 pl2 d2) (hw1 : d1.wf) (hw2 : d2.wf) (tys tb tc ti : Addr) (ht : TysAt w.params rest tys tb tc ti) (name : Str) (tn : Tok) (g0 : (name == Str.ofString "SIZE") = false) (g1 : (name == Str.ofString "LEN") = false) (g2 : (name == Str.ofString "VAL") = false) (g3 : (name == Str.ofString "ABS") = false) (g4 : (name == Str.ofString "ODD") = false) (g5 : (name == Str.ofString "ORD") = false) (g6 : (name == Str.ofString "CHR") = false) (hb : ∀ i, d1.sh = .cint i → -2147483648 ≤ i ∧ i ≤ 4294967295) (hc : (useCode name 2 false == Str.ofString "") = true) (place : Int) (tp : Tok) :
    CallOk w 134 40 (errSeg w.params er de r p k1 k2 o ++ rest) [.ref tys, .ref er, .str name tn, .ref ar, .int place tp, .bool false] (CallF w.params rest er (fcode2 name pl1 pl2 d1 d2) name place (fnode2 name tb tc ti a1 a2 d1 d2)) := by
  exact std_gen w rest er de r p k1 k2 o hE tys ar n1 [a1, a2] ha (Nat.le_of_ble_eq_true rfl) name tn false place tp (fcode2 name pl1 pl2 d1 d2) (FPost w.params rest er place name (fnode2 name tb tc ti a1 a2 d1 d2)) (fun h => tf hc h)
    (fun _ h => by cases h) (fun _ _ t => function_code2_ok w rest er de r p k1 k2 o hE name t ⟨g0, g1, g5⟩ ar a1 a2 n1 pl1 pl2 d1 d2 ha s1 s2 hw1 hw2) (fun _ _ R sub t => result_typeE_ok w R rest tys tb tc ti ht sub ar n1 [a1, a2] ha (headAt_of s1) (Nat.le_of_ble_eq_true rfl) _ t)
    (fun h => by cases h) (fun _ hc t t2 => function_node2_ok w rest er de r p k1 k2 o hE ar a1 a2 n1 pl1 pl2 d1 d2 ha s1 s2 hw1 hw2 tys tb tc ti ht name t hc g0 g1 g2 g3 g4 g5 g6 hb place t2)
theorem std_callFn_ok (w : World) (rest : List (Addr × Obj)) (er de r p : Addr) (k1 k2 : Tok) (o : Obj) (hE : ErrPre w er de r p k1 k2 o rest) (ar a1 a2 : Addr) (n1 : Nat) (pl1 pl2 : Int) (d1 d2 : Sd) (ha : (ar, W.listOf #[.ref a1, .ref a2] n1) ∈ rest) (s1 : SideAt w.params rest a1 pl1 d1) (s2 : SideAt w.params rest a2 pl2 d2) (hw1 : d1.wf) (hw2 : d2.wf) (tys tb tc ti : Addr) (ht : TysAt w.params rest tys tb tc ti) (tn : Tok) (hcf : ((fcode2 (Str.ofString "VAL") pl1 pl2 d1 d2).2 == Str.ofString "") = false) (ho : (d1.sh.op == Str.ofString "type") = false) (place : Int) (tp : Tok) :
    CallOk w 134 40 (errSeg w.params er de r p k1 k2 o ++ rest) [.ref tys, .ref er, .str (Str.ofString "VAL") tn, .ref ar, .int place tp, .bool false] (EPost w.params rest er (fcode2 (Str.ofString "VAL") pl1 pl2 d1 d2).1 (fcode2 (Str.ofString "VAL") pl1 pl2 d1 d2).2 false place) := by
  have hc : (useCode (Str.ofString "VAL") 2 false == Str.ofString "") = true := by decide
  exact (std_gen w rest er de r p k1 k2 o hE tys ar n1 [a1, a2] ha (Nat.le_of_ble_eq_true rfl) (Str.ofString "VAL") tn false place tp (fcode2 (Str.ofString "VAL") pl1 pl2 d1 d2) (fun _ _ => False) (fun h => tf hc h)
    (fun _ h => by cases h) (fun _ _ t => function_code2_ok w rest er de r p k1 k2 o hE _ t ⟨by decide, by decide, by decide⟩ ar a1 a2 n1 pl1 pl2 d1 d2 ha s1 s2 hw1 hw2) (fun _ _ R sub t => result_typeE_ok w R rest tys tb tc ti ht sub ar n1 [a1, a2] ha (headAt_of s1) (Nat.le_of_ble_eq_true rfl) _ t)
    (fun h => by cases h) (fun _ h => tf h hcf)).mono fun r nw h => h.elim (fun h => h.2) fun h => h.2.elim
theorem std_callFt_ok (w : World) (rest : List (Addr × Obj)) (er de r p : Addr) (k1 k2 : Tok) (o : Obj) (hE : ErrPre w er de r p k1 k2 o rest) (ar a1 a2 : Addr) (n1 : Nat) (pl1 pl2 : Int) (d2 : Sd) (ty1 kd1 : Addr) (form1 : Str) (sz1 ln1 nu1 : Int) (ha : (ar, W.listOf #[.ref a1, .ref a2] n1) ∈ rest) (s1 : NodeAt w.params rest a1 (Str.ofString "type") pl1 (.ref ty1) (.ref kd1) (.ref ty1)) (hty : TypeAt w.params rest ty1 form1 sz1 ln1 nu1) (s2 : SideAt w.params rest a2 pl2 d2) (hw2 : d2.wf) (tys tb tc ti : Addr) (ht : TysAt w.params rest tys tb tc ti) (tn : Tok) (place : Int) (tp : Tok) :
    CallOk w 134 40 (errSeg w.params er de r p k1 k2 o ++ rest) [.ref tys, .ref er, .str (Str.ofString "VAL") tn, .ref ar, .int place tp, .bool false] (VPostF w.params rest er (fcode2 (Str.ofString "VAL") pl1 pl2 ⟨.typ, form1, sz1, ln1, nu1⟩ d2) place (vnode ty1 form1 a2 d2)) := by
  have hc : (useCode (Str.ofString "VAL") 2 false == Str.ofString "") = true := by decide
  have hS : SideAt w.params rest a1 pl1 ⟨.typ, form1, sz1, ln1, nu1⟩ := ⟨ty1, kd1, .ref ty1, s1, hty, rfl⟩
  exact std_gen w rest er de r p k1 k2 o hE tys ar n1 [a1, a2] ha (Nat.le_of_ble_eq_true rfl) (Str.ofString "VAL") tn false place tp (fcode2 (Str.ofString "VAL") pl1 pl2 ⟨.typ, form1, sz1, ln1, nu1⟩ d2) (VPost w.params rest er place (vnode ty1 form1 a2 d2)) (fun h => tf hc h)
    (fun _ h => by cases h) (fun _ _ t => function_code2_ok w rest er de r p k1 k2 o hE _ t ⟨by decide, by decide, by decide⟩ ar a1 a2 n1 pl1 pl2 _ d2 ha hS s2 trivial hw2) (fun _ _ R sub t => result_typeE_ok w R rest tys tb tc ti ht sub ar n1 [a1, a2] ha (headAt_of hS) (Nat.le_of_ble_eq_true rfl) _ t)
    (fun h => by cases h) (fun _ hc t t2 => function_nodeV_ok w rest er de r p k1 k2 o hE ar a1 a2 n1 pl1 pl2 d2 ty1 kd1 form1 sz1 ln1 nu1 ha s1 hty s2 hw2 tys tb tc ti ht t (val_text3 hw2 hc) place t2)
theorem std_callE_ok (w : World) (rest : List (Addr × Obj)) (er de r p : Addr) (k1 k2 : Tok) (o : Obj) (hE : ErrPre w er de r p k1 k2 o rest) (tys tb tc ti : Addr) (ht : TysAt w.params rest tys tb tc ti) (ar : Addr) (n1 : Nat) (as : List Addr) (ha : (ar, W.listOf (as.map Value.ref).toArray n1) ∈ rest) (hA : HeadAt w.params rest as) (hsz : ((as.map Value.ref).toArray.size : Nat) ≤ 3) (name : Str) (tn : Tok) (stmt : Bool) (hc : (useCode name (((as.map Value.ref).toArray.size : Nat) : Int) stmt == Str.ofString "") = false) (place : Int) (tp : Tok) :
    CallOk w 134 40 (errSeg w.params er de r p k1 k2 o ++ rest) [.ref tys, .ref er, .str name tn, .ref ar, .int place tp, .bool stmt] (EPost w.params rest er place (useCode name (((as.map Value.ref).toArray.size : Nat) : Int) stmt) stmt place) := by
  exact (std_gen w rest er de r p k1 k2 o hE tys ar n1 as ha hsz name tn stmt place tp (place, useCode name (((as.map Value.ref).toArray.size : Nat) : Int) stmt) (fun _ _ => False) (fun _ => rfl)
    (fun h => tf h hc) (fun h => tf h hc) (fun _ _ R sub t => result_typeE_ok w R rest tys tb tc ti ht sub ar n1 as ha hA hsz _ t)
    (fun _ h => tf h hc) (fun _ h => tf h hc)).mono fun r nw h => h.elim (fun h => h.2) fun h => h.2.elim
set_option maxHeartbeats 8000000 in
theorem law_signed_ok (w : World) (news : List (Addr × Obj)) (n : Int) (t : Tok) :
    CallOk w 413 5 news [.int n t] (Pure news fun t => .int (lsigned n) t) := by
  unfold CallOk
  intro loose mean mg mb dp un gd cn cs a ccd cl outer A₀ base h₀ L m s Q E B F X N T hk hd hu hret
  refine wpAny_call ?_
  k_dflt k_enter
  k_steps
  all_goals refine retI hret ?_ (by k_asm) (by k_asm) (by (intro p9 h9; repeat (first | exact h9 | apply List.mem_cons_of_mem)))
  all_goals (first | (simp [lsigned, *]; done))
theorem words_law_signed_ok : True := by
  k_with "m call ref" => (k_here; (with_reducible show wpAny _ _ (call (Value.ref 413) [_]) _ _ _); k_dflt (apply useP; k_extra "u5"; (focus first | exact rfl | assumption); (focus (apply law_signed_ok; done)); k_extra "u9"); intro t9 h9 tk9 F9 N9; (try k_sweep); (try dsimp only); (try k_fold))
  trivial
set_option maxHeartbeats 8000000 in
theorem law_worked1_ok (w : World) (news : List (Addr × Obj)) (name : Str) (tn : Tok) (sl tp nd : Addr) (k : Nat) (ks fl : Str) (x : Int) (t1 t2 t3 : Tok) (hs : (sl, W.listOf #[.ref tp] k) ∈ news) (ht : (tp, tupObj #[.ref nd, .str ks t1, .int x t3, .str fl t2]) ∈ news) (hn : name ∈ [Str.ofString "ABS", Str.ofString "ODD", Str.ofString "ORD", Str.ofString "CHR"]) :
    CallOk w 420 8 news [.str name tn, .ref sl] (Pure news fun t => .int (lwork1 name x) t) := by
  unfold CallOk
  intro loose mean mg mb dp un gd cn cs a ccd cl outer A₀ base h₀ L m s Q E B F X N T hk hd hu hret
  rcases List.mem_cons.mp hn with h | h
  rotate_left
  rcases List.mem_cons.mp h with h | h
  rotate_left
  rcases List.mem_cons.mp h with h | h
  rotate_left
  replace h := List.mem_singleton.mp h
  all_goals subst h
  all_goals refine wpAny_call ?_
  all_goals k_dflt k_enter
  all_goals k_steps
  all_goals (first | refine retI hret ?_ (by k_asm) (by k_asm) (by (intro p9 h9; repeat (first | exact h9 | apply List.mem_cons_of_mem))))
  all_goals (first | (simp [lwork1, *]; done) | rfl)
theorem words_law_worked1_ok : True := by
  k_with "m call ref" => (k_here; (with_reducible show wpAny _ _ (call (Value.ref 420) [_, _]) _ _ _); k_dflt (apply useP; k_extra "u5"; (focus first | exact rfl | assumption); (focus (apply law_worked1_ok; (focus (k_mem); done); (focus (k_mem); done); (focus (assumption); done); done)); k_extra "u9"); intro t9 h9 tk9 F9 N9; (try k_sweep); (try dsimp only); (try k_fold))
  trivial
set_option maxHeartbeats 8000000 in
theorem law_worked2_ok (w : World) (news : List (Addr × Obj)) (name : Str) (tn : Tok) (sl tp nd tp2 nd2 : Addr) (k : Nat) (ks fl ks2 fl2 : Str) (x y : Int) (t1 t2 t3 u1 u2 u3 : Tok) (hs : (sl, W.listOf #[.ref tp, .ref tp2] k) ∈ news) (ht : (tp, tupObj #[.ref nd, .str ks t1, .int x t3, .str fl t2]) ∈ news) (ht2 : (tp2, tupObj #[.ref nd2, .str ks2 u1, .int y u3, .str fl2 u2]) ∈ news) (hx : -2147483648 ≤ x ∧ x ≤ 4294967295) (hy : 0 ≤ y ∧ y ≤ 31) (hn : name ∈ [Str.ofString "LSL", Str.ofString "ASR", Str.ofString "ROR"]) :
    CallOk w 420 8 news [.str name tn, .ref sl] (Pure news fun t => .int (lwork2 name x y) t) := by
  unfold CallOk
  intro loose mean mg mb dp un gd cn cs a ccd cl outer A₀ base h₀ L m s Q E B F X N T hk hd hu hret
  rcases List.mem_cons.mp hn with h | h
  rotate_left
  rcases List.mem_cons.mp h with h | h
  rotate_left
  replace h := List.mem_singleton.mp h
  all_goals subst h
  all_goals refine wpAny_call ?_
  all_goals k_dflt k_enter
  all_goals k_steps
  all_goals (first | refine retI hret ?_ (by k_asm) (by k_asm) (by (intro p9 h9; repeat (first | exact h9 | apply List.mem_cons_of_mem))))
  all_goals (first | (simp [lwork2, *]; done) | rfl | exact if_pos ⟨fmod_lo _ (by decide), fmod_hi _ (by decide)⟩)
theorem words_law_worked2_ok : True := by
  k_with "m call ref" => (k_here; (with_reducible show wpAny _ _ (call (Value.ref 420) [_, _]) _ _ _); k_dflt (apply useP; k_extra "u5"; (focus first | exact rfl | assumption); (focus (apply law_worked2_ok; (focus (k_mem); done); (focus (k_mem); done); (focus (k_mem); done); (focus (assumption); done); (focus (assumption); done); (focus (assumption); done); done)); k_extra "u9"); intro t9 h9 tk9 F9 N9; (try k_sweep); (try dsimp only); (try k_fold))
  trivial
set_option maxHeartbeats 8000000 in
theorem err_cls_ok (w : World) (news : List (Addr × Obj)) :
    CallOk w 289 10 news [] (ErrPost w news) := by
  unfold CallOk
  intro loose mean mg mb dp un gd cn cs a ccd cl outer A₀ base h₀ L m s Q E B F X N T hk hd hu hret
  k_steps
  refine hret _ _ _ _ (by assumption) (by assumption) ⟨_, _, _, _, _, _, _, rfl, rfl, ⟨by assumption, by assumption, by assumption, by assumption, ?h1, ?hr, ?hp⟩⟩
  case hr => k_all
  case hp => k_all
  case h1 => exact ⟨by k_extra "ne", by k_extra "ne", by k_extra "ne", by k_extra "ne", by k_extra "ne", by k_extra "ne"⟩
theorem words_err_cls_ok : True := by
  k_with "m call ref" => (k_here; (with_reducible show wpAny _ _ (call (Value.ref 289) _) _ _ _); k_dflt (show wpAny _ _ (call (Value.ref 289) []) _ _ _; apply useA; k_extra "u5"; (focus first | exact rfl | assumption); (focus (apply err_cls_ok; done)); k_extra "u9"); intro r9 nw9 h9 tk9 F9 N9 ho9; k_dflt (obtain ⟨er, de, er1, er2, k1, k2, o, e9, e8, hE⟩ := ho9); subst e9; subst e8; (try dsimp only at N9); (try k_sweep); (try dsimp only); (try k_fold))
  trivial
theorem words_at_30 : True := by
  k_with "m eval Dict" => k_extra "m dict"
  trivial
theorem words_wantdict : True := by
  k_with "m dict" => (k_here; k_dflt (refine' kdn_str ?kdq ?kdF ?kdN ?kdb ?kda ?kdl ?kde ?kdn ?_; (case kdq => kernel_rfl); (case kdF => k_asm); (case kdN => first | k_asm | exact News.nil); (case kdb => exact Top.nolimit (by k_asm)); (case kda => kernel_rfl); (case kdl => kernel_rfl); (case kde => exact List.cons_ne_nil _ _); (case kdn => exact Nat.le_of_ble_eq_true rfl); intro d' h' o' F' N' l1 lo' hd'))
  trivial
theorem go_law_functions : GlobOk (Str.ofString "_law_functions") (.ref 399) := fun P => ⟨by kernel_rfl, by kernel_rfl⟩
noncomputable def PairIn (news : List (Addr × Obj)) (x : Int × Str) : Value → List (Addr × Obj) → Prop := fun r nw => ∃ tp t1 t2, r = .ref tp ∧ (tp, tupObj #[.int x.1 t1, .str x.2 t2]) ∈ nw ∧ ∀ q ∈ news, q ∈ nw
theorem pair_conv {news : List (Addr × Obj)} {x : Int × Str} : ∀ v nw, PairIn news x v nw → ∃ nw', TupIS news x.1 x.2 v nw' ∧ ∀ q ∈ nw', q ∈ nw := fun v nw ⟨tp, t1, t2, h1, h2, h3⟩ =>
  ⟨_, ⟨tp, t1, t2, h1, rfl⟩, List.forall_mem_cons.mpr ⟨h2, h3⟩⟩
theorem ret_pair {fi : Fi} {c : Lc} {l : List (Str × Value)} {news nw : List (Addr × Obj)} {e1 e2 : PySem.Expr} {i : Int} {x : Str} {y : Int × Str} {k : Nat} {p p1 : Pos} {st : List Stmt} (hn : noStar [e1, e2] = true) (h1 : Ev fi c l nw e1 (iv i)) (h2 : Ev fi c l nw e2 (sv x)) (e : (i, x) = y) (sub : ∀ q ∈ news, q ∈ nw) : Bd fi c l nw (.Return (some (.Tuple [e1, e2] k p)) p1 :: st) (PairIn news y) :=
  Bd.ret (Rt.tup2 hn h1 h2 fun D t1 t2 => ⟨D, t1, t2, rfl, by subst e; exact .head _, fun q h => .tail _ (sub q h)⟩)
theorem rt_pair {fi : Fi} {c : Lc} {l : List (Str × Value)} {news nw : List (Addr × Obj)} {e1 e2 : PySem.Expr} {i : Int} {x : Str} {y : Int × Str} {k : Nat} {p : Pos} (hn : noStar [e1, e2] = true) (h1 : Ev fi c l nw e1 (iv i)) (h2 : Ev fi c l nw e2 (sv x)) (e : (i, x) = y) (sub : ∀ q ∈ news, q ∈ nw) : Rt fi c l nw (.Tuple [e1, e2] k p) (PairIn news y) :=
  Rt.tup2 hn h1 h2 fun D t1 t2 => ⟨D, t1, t2, rfl, by subst e; exact .head _, fun q h => .tail _ (sub q h)⟩
noncomputable def WantIn (n : Str) (news : List (Addr × Obj)) : Value → List (Addr × Obj) → Prop := fun v nw => ∃ tp t1 t2, v = .ref tp ∧ (tp, tupObj #[.str (want n) t1, .str (wantC n) t2]) ∈ nw ∧ ∀ q ∈ news, q ∈ nw
noncomputable def lfirst1a (n : Str) (nt : Nt) : Int × Str :=
  if ([Str.ofString "VAL", Str.ofString "SIZE"].any fun y => y == n) = true then (if (nt.ks != Str.ofString "type") = true then (0, Str.ofString "not_a_type") else (1, if ((n == Str.ofString "SIZE") || false) = true then Str.ofString "" else Str.ofString "bad_argument"))
  else if (n == Str.ofString "LEN") = true then (0, if (nt.ks == Str.ofString "arr") = true then Str.ofString "" else Str.ofString "not_an_array")
  else if (n == Str.ofString "ORD") = true then (0, if (["char", "bool", "set", "letter"].map Str.ofString |>.any fun y => y == nt.ks) = true then Str.ofString "" else Str.ofString "bad_argument")
  else if (n == Str.ofString "ASSERT") = true then (0, if (nt.ks == Str.ofString "bool") = true then Str.ofString "" else Str.ofString "not_boolean")
  else lone n nt
theorem lfirst1a_is {n : Str} {nt : Nt} (hn : (n == Str.ofString "VAL") = false) : lfirst1a n nt = lfirst1 n nt := by
  unfold lfirst1a lfirst1
  have e : ([Str.ofString "VAL", Str.ofString "SIZE"].any fun y => y == n) = (n == Str.ofString "SIZE") := by
    have g1 : (Str.ofString "VAL" == n) = false := beq_eq_false_iff_ne.mpr (Ne.symm (beq_eq_false_iff_ne.mp hn))
    simp only [List.any_cons, List.any_nil, g1, Bool.false_or, Bool.or_false]
    exact Bool.beq_comm
  rw [e]
  by_cases h : (n == Str.ofString "SIZE") = true
  · rw [if_pos h, if_pos h, h]; rfl
  · rw [if_neg h, if_neg h]; rfl
theorem size_only {n : Str} (hn : (n == Str.ofString "VAL") = false) (h : ([Str.ofString "VAL", Str.ofString "SIZE"].any fun y => y == n) = true) : (n == Str.ofString "SIZE") = true := by
  have g1 : (Str.ofString "VAL" == n) = false := beq_eq_false_iff_ne.mpr (Ne.symm (beq_eq_false_iff_ne.mp hn))
  simp only [List.any_cons, List.any_nil, g1, Bool.false_or, Bool.or_false] at h
  rw [Bool.beq_comm] at h
  exact h
theorem lone_a {n : Str} {nt : Nt} (h : isF n = false) (a : (nt.fl != Str.ofString "var") = true) : lone n nt = (0, if (nt.fl == Str.ofString "read") = true then Str.ofString "read_only" else Str.ofString "not_a_variable") := by
  unfold lone; rw [if_pos h, if_pos a]
theorem lone_b {n : Str} {nt : Nt} (h : isF n = false) (a : (nt.fl != Str.ofString "var") = false) (b : (nt.ks != want n) = true) : lone n nt = (0, wantC n) := by
  unfold lone; rw [if_pos h, if_neg (ne_no a), if_pos b]
theorem lone_c {n : Str} {nt : Nt} (h : isF n = false) (a : (nt.fl != Str.ofString "var") = false) (b : (nt.ks != want n) = false) : lone n nt = (0, Str.ofString "") := by
  unfold lone; rw [if_pos h, if_neg (ne_no a), if_neg (ne_no b)]
theorem lone_d {n : Str} {nt : Nt} (h : isF n = true) (a : (nt.ks != Str.ofString "int") = true) : lone n nt = (0, Str.ofString "not_an_integer") := by
  unfold lone; rw [if_neg (by rw [h]; decide), if_pos a]
theorem lone_e {n : Str} {nt : Nt} (h : isF n = true) (a : (nt.ks != Str.ofString "int") = false) : lone n nt = (0, Str.ofString "") := by
  unfold lone; rw [if_neg (by rw [h]; decide), if_neg (ne_no a)]
theorem wantIn_of {n x y : Str} {news nw : List (Addr × Obj)} {D : Addr} {t1 t2 : Tok} (hm : (D, tupObj #[.str x t1, .str y t2]) ∈ nw) (e : want n = x ∧ wantC n = y) (sub : ∀ q ∈ news, q ∈ nw) : WantIn n news (.ref D) nw := ⟨D, t1, t2, rfl, by rw [e.1, e.2]; exact hm, sub⟩
theorem want_end {n x y : Str} {news nw : List (Addr × Obj)} {D : Addr} {t1 t2 : Tok} {h₀ h' : Heap} {L : Addr} {m : Str → Option Value} {s : Shared} {Q : Value → Shared → Prop} {tk : Nat} (hret : ∀ v nw h' tk, WantIn n news v nw → Fr h₀ L h' m → News h₀ L h' nw → Q v { s with heap := h', toks := tk }) (F : Fr h₀ L h' m) (N : News h₀ L h' nw)
    (hm : (D, tupObj #[.str x t1, .str y t2]) ∈ nw) (e : want n = x ∧ wantC n = y) (sub : ∀ q ∈ news, q ∈ nw) : Q (.ref D) { s with heap := h', toks := tk } := hret _ nw _ _ (wantIn_of hm e sub) F N
set_option maxHeartbeats 2000000 in
theorem law_first1_ok (w : World) (news : List (Addr × Obj)) (name : Str) (tn : Tok) (sl tp : Addr) (k : Nat) (nt : Nt) (hs : (sl, W.listOf #[.ref tp] k) ∈ news) (ht : TupAt w.params news tp nt) (hn : (name == Str.ofString "VAL") = false) :
    CallOk w 406 9 news [.str name tn, .ref sl] (TupIS news (lfirst1 name nt).1 (lfirst1 name nt).2) := by
  obtain ⟨nd, tt1, tt2, vv9, ht1, hv1⟩ := ht
  rw [← lfirst1a_is hn]
  k_extra "open"
  refine Bd.conv (K2 := PairIn news (lfirst1a name nt)) ?_ pair_conv
  have sub : ∀ q ∈ news, q ∈ news := fun q h => h
  refine Bd.asg (by decide +kernel) (fun _ => rfl) (by k_extra "evr") fun _ => ?_
  refine Bd.ifK (PairIn news) (by k_extra "ts") (fun a9 => ?_) fun a9 => ?_
  · refine Bd.ifK (PairIn news) (by k_extra "ts") (fun a8 => ret_pair rfl Ev.int Ev.str rfl sub) fun a8 => ?_
    refine Bd.asg (by decide +kernel) (fun _ => rfl) (Ev.or (b2 := false) (by k_extra "evb") fun a7 => absurd (a7.symm.trans (size_only hn a9)) (by decide)) fun _ => ?_
    exact ret_pair rfl Ev.int (by k_extra "evs") rfl sub
  refine Bd.ifK (PairIn news) (by k_extra "ts") (fun a8 => ret_pair rfl Ev.int (by k_extra "evs") rfl sub) fun a8 => ?_
  refine Bd.ifK (PairIn news) (by k_extra "ts") (fun a7 => ret_pair rfl Ev.int (Ev.ifE sv (by k_extra "ts") (fun _ => Ev.str) fun _ => Ev.str) rfl sub) fun a7 => ?_
  refine Bd.ifK (PairIn news) (by k_extra "ts") (fun a6 => ret_pair rfl Ev.int (by k_extra "evs") rfl sub) fun a6 => ?_
  have hf : ∀ {b : Bool}, (!b) = true → b = false := fun {b} h => by cases b <;> first | rfl | cases h
  have hg : ∀ {b : Bool}, (!b) = false → b = true := fun {b} h => by cases b <;> first | rfl | cases h
  refine Bd.ifX (R := fun l' nw => look l' (Str.ofString "sides") = some (.ref sl) ∧ (∀ q ∈ news, q ∈ nw) ∧ lone name nt = (0, Str.ofString "")) (Ts.fnNot (by k_extra "evs") ok (by decide) rfl go_law_functions (by decide +kernel) (law_functions_ok _ _)) (fun a5 => ?_) (fun a5 => ?_) ?_
  · refine Bx.ifR (by k_extra "ts") (fun a4 => rt_pair rfl Ev.int (by k_extra "evs") (lone_a (hf a5) a4).symm sub) fun a4 => ?_
    refine Bx.asgR (by decide +kernel) (fun _ => rfl) (Post := WantIn name news) ?_ ?_
    · refine ⟨fun s Q F N hret => ?_⟩
      clear a4 a5 a6 a7 a8 a9 hf hg hs sub
      obtain ⟨w, dp, un, gd, L, cl, outer, E, h₀, A₀, base, loose, mean, mg, mb⟩ := c
      obtain ⟨B, X, T, hd, hu⟩ := ok
      dsimp only [vv] at *
      change wpAny (model PySem.Challenge.pw_nu0340_01 w) (ktrTop dp un gd _ _ _ _ _ _ _) (eval _ (envX _ _ _ _ _ _)) _ _ _
      k_steps
      all_goals refine want_end hret (by k_asm) (by k_asm) (by k_mem) ?_ (by intro p9 h9; repeat (first | exact h9 | apply List.mem_cons_of_mem))
      all_goals (simp [want, wantC, isIE, *])
    · rintro v nw ⟨tw, u1, u2, rfl, hw, sub2⟩
      have ht2 := sub2 _ ht1
      refine Bx.ifR (by k_extra "ts") (fun a3 => rt_pair rfl Ev.int (by k_extra "evs") (lone_b (hf a5) a4 a3).symm sub2) fun a3 => ?_
      exact Bx.nil ⟨(by k_extra "lk"), sub2, lone_c (hf a5) a4 a3⟩
  · refine Bx.ifR (by k_extra "ts") (fun a4 => rt_pair rfl Ev.int (by k_extra "evs") (lone_d (hg a5) a4).symm sub) fun a4 => ?_
    exact Bx.nil ⟨(by k_extra "lk"), sub, lone_e (hg a5) a4⟩
  · rintro l' nw ⟨hl, sub2, e⟩
    refine Bd.ifF (show Ts _ _ _ _ _ false from Ts.gtI (Ev.lenL ok (by decide +kernel) rfl (Ev.name hl (by decide +kernel)) (sub2 _ hs) (Nat.le_of_ble_eq_true rfl)) Ev.int) ?_
    exact ret_pair rfl Ev.int Ev.str e.symm sub2
theorem l2_bad {n f : Str} {nt nt2 : Nt} {i : Int} {x : Str} (hn : (n == Str.ofString "VAL") = false) (h : lone n nt = (i, x)) (hx : (x == Str.ofString "") = false) : lfirst2 n f nt nt2 = (i, x) := by
  rw [lfirst2_of hn, h]; exact if_pos hx
theorem l2_ok {n f : Str} {nt nt2 : Nt} (hn : (n == Str.ofString "VAL") = false) (h : lone n nt = (0, Str.ofString "")) : lfirst2 n f nt nt2 = ltwo n nt2 := by
  rw [lfirst2_of hn, h]; exact if_neg (by decide)
theorem ite_ne {b : Bool} : ((if b = true then Str.ofString "read_only" else Str.ofString "not_a_variable") == Str.ofString "") = false := by cases b <;> decide
theorem wantC_ne {n : Str} : (wantC n == Str.ofString "") = false := by
  unfold wantC
  split
  · decide
  · split <;> decide
theorem ltwo_a {n : Str} {nt : Nt} (h : (nt.ks != Str.ofString "int") = true) : ltwo n nt = (1, Str.ofString "not_an_integer") := if_pos h
theorem ltwo_b {n : Str} {nt : Nt} (h : (nt.ks != Str.ofString "int") = false) (hv : nt.ov = none) : ltwo n nt = (0, Str.ofString "") := by
  unfold ltwo
  rw [if_neg (ne_no h), hv]
theorem ltwo_c {n : Str} {nt : Nt} {i : Int} (h : (nt.ks != Str.ofString "int") = false) (hv : nt.ov = some i) (b : (true && ((!(decide (0 ≤ i) && decide (i < 32))) && (!isID n))) = true) : ltwo n nt = (1, if isIE n = true then Str.ofString "bad_element" else Str.ofString "bad_shift") := by
  unfold ltwo
  rw [if_neg (ne_no h), hv]
  simp only [Bool.true_and, Bool.and_eq_true, Bool.not_eq_true', Bool.and_eq_false_iff, decide_eq_false_iff_not] at b
  dsimp only
  rw [if_neg (by omega), if_neg (ne_no b.2)]
theorem ltwo_d {n : Str} {nt : Nt} {i : Int} (h : (nt.ks != Str.ofString "int") = false) (hv : nt.ov = some i) (b : (true && ((!(decide (0 ≤ i) && decide (i < 32))) && (!isID n))) = false) : ltwo n nt = (0, Str.ofString "") := by
  unfold ltwo
  rw [if_neg (ne_no h), hv]
  dsimp only
  by_cases h1 : 0 ≤ i ∧ i < 32
  · rw [if_pos h1]
  · rw [if_neg h1]
    by_cases h2 : isID n = true
    · rw [if_pos h2]
    · have h3 : isID n = false := by simpa using h2
      rw [h3] at b
      simp only [Bool.true_and, Bool.not_false, Bool.and_true, Bool.not_eq_false', Bool.and_eq_true, decide_eq_true_eq] at b
      exact absurd b h1
set_option maxHeartbeats 2000000 in
theorem law_first2_ok (w : World) (news : List (Addr × Obj)) (name : Str) (tn : Tok) (sl tp tp2 : Addr) (k : Nat) (nt nt2 : Nt) (hs : (sl, W.listOf #[.ref tp, .ref tp2] k) ∈ news) (ht : TupAt w.params news tp nt) (ht2 : TupAt w.params news tp2 nt2) (hn : (name == Str.ofString "VAL") = false) (hS : (name == Str.ofString "SIZE") = false) (hL : (name == Str.ofString "LEN") = false) (hO : (name == Str.ofString "ORD") = false) (hA : (name == Str.ofString "ASSERT") = false) (f : Str) :
    CallOk w 406 9 news [.str name tn, .ref sl] (TupIS news (lfirst2 name f nt nt2).1 (lfirst2 name f nt nt2).2) := by
  obtain ⟨nd, tt1, tt2, vv9, ht1, hv1⟩ := ht
  obtain ⟨nd2, uu1, uu2, vv2, ht3, hv2⟩ := ht2
  have hvs := vs_no hn hS
  k_extra "open"
  refine Bd.conv (K2 := PairIn news (lfirst2 name f nt nt2)) ?_ pair_conv
  have sub : ∀ q ∈ news, q ∈ news := fun q h => h
  refine Bd.asg (by decide +kernel) (fun _ => rfl) (by k_extra "evr") fun _ => ?_
  refine Bd.ifN (by k_extra "ts") hvs ?_
  refine Bd.ifN (by k_extra "ts") hL ?_
  refine Bd.ifN (by k_extra "ts") hO ?_
  refine Bd.ifN (by k_extra "ts") hA ?_
  have hf : ∀ {b : Bool}, (!b) = true → b = false := fun {b} h => by cases b <;> first | rfl | cases h
  have hg : ∀ {b : Bool}, (!b) = false → b = true := fun {b} h => by cases b <;> first | rfl | cases h
  refine Bd.ifX (R := fun l' nw => look l' (Str.ofString "sides") = some (.ref sl) ∧ look l' (Str.ofString "name") = some (.str name tn) ∧ (∀ q ∈ news, q ∈ nw) ∧ lone name nt = (0, Str.ofString "")) (Ts.fnNot (by k_extra "evs") ok (by decide) rfl go_law_functions (by decide +kernel) (law_functions_ok _ _)) (fun a5 => ?_) (fun a5 => ?_) ?_
  · refine Bx.ifR (by k_extra "ts") (fun a4 => rt_pair rfl Ev.int (by k_extra "evs") (l2_bad hn (lone_a (hf a5) a4) ite_ne).symm sub) fun a4 => ?_
    refine Bx.asgR (by decide +kernel) (fun _ => rfl) (Post := WantIn name news) ?_ ?_
    · refine ⟨fun s Q F N hret => ?_⟩
      clear a4 a5 hf hg hs sub ht1 ht3
      obtain ⟨w, dp, un, gd, L, cl, outer, E, h₀, A₀, base, loose, mean, mg, mb⟩ := c
      obtain ⟨B, X, T, hd, hu⟩ := ok
      dsimp only [vv] at *
      change wpAny (model PySem.Challenge.pw_nu0340_01 w) (ktrTop dp un gd _ _ _ _ _ _ _) (eval _ (envX _ _ _ _ _ _)) _ _ _
      k_steps
      all_goals refine want_end hret (by k_asm) (by k_asm) (by k_mem) ?_ (by intro p9 h9; repeat (first | exact h9 | apply List.mem_cons_of_mem))
      all_goals (simp [want, wantC, isIE, *])
    · rintro v nw ⟨tw, u1, u2, rfl, hw, sub2⟩
      have ht1' := sub2 _ ht1
      refine Bx.ifR (by k_extra "ts") (fun a3 => rt_pair rfl Ev.int (by k_extra "evs") (l2_bad hn (lone_b (hf a5) a4 a3) wantC_ne).symm sub2) fun a3 => ?_
      exact Bx.nil ⟨(by k_extra "lk"), (by k_extra "lk"), sub2, lone_c (hf a5) a4 a3⟩
  · refine Bx.ifR (by k_extra "ts") (fun a4 => rt_pair rfl Ev.int (by k_extra "evs") (l2_bad hn (lone_d (hg a5) a4) (by decide)).symm sub) fun a4 => ?_
    exact Bx.nil ⟨(by k_extra "lk"), (by k_extra "lk"), sub, lone_e (hg a5) a4⟩
  · rintro l' nw ⟨hl, hl2, sub2, e⟩
    have hs' := sub2 _ hs
    have ht3' := sub2 _ ht3
    rw [l2_ok hn e]
    refine Bd.ifX (R := fun _ nw2 => (∀ q ∈ news, q ∈ nw2) ∧ ltwo name nt2 = (0, Str.ofString "")) (Ts.gtI (Ev.lenL ok (by decide +kernel) rfl (Ev.name hl (by decide +kernel)) hs' (Nat.le_of_ble_eq_true rfl)) Ev.int) (fun _ => ?_) (fun h => absurd (show true = false from h) (by decide)) ?_
    · refine Bx.ifR (by k_extra "ts") (fun b1 => rt_pair rfl Ev.int Ev.str (ltwo_a b1).symm sub2) fun b1 => ?_
      cases hov : nt2.ov with
      | none =>
        rw [hov] at hv2
        obtain rfl : vv2 = .none := hv2
        exact Bx.ifR (b := false) (Ts.and (b1 := false) (b2 := false) (Ts.notNoneN (by k_extra "it")) (fun h => by cases h)) (fun h => by cases h) fun _ => Bx.nil ⟨sub2, ltwo_b b1 hov⟩
      | some i =>
        rw [hov] at hv2
        obtain ⟨ti2, rfl⟩ := hv2
        exact Bx.ifR (Ts.and (Ts.notNoneI (Ev.toI (by k_extra "it"))) fun _ => Ts.and (Ts.not (Ts.range Ev.int (Ev.toI (by k_extra "it")) Ev.int)) fun _ => Ts.and1 (Ts.ninL (by k_extra "evs") rfl (Nat.le_of_ble_eq_true rfl))) (fun b2 => rt_pair rfl Ev.int (by k_extra "evs") (ltwo_c b1 hov b2).symm sub2) fun b2 => Bx.nil ⟨sub2, ltwo_d b1 hov b2⟩
    · rintro l2 nw2 ⟨sub3, e3⟩
      exact ret_pair rfl Ev.int Ev.str e3.symm sub3
theorem Ev.neS {fi : Fi} {c : Lc} {l : List (Str × Value)} {news : List (Addr × Obj)} {e1 e2 : PySem.Expr} {x y : Str} {p : Pos} (h1 : Ev fi c l news e1 (sv x)) (h2 : Ev fi c l news e2 (sv y)) : Ev fi c l news (.Compare e1 [.NotEq] [e2] p) (vv (.bool (x != y))) := Ev.cmp h1 h2 (nomarks rfl) fun _ _ _ _ h => ne_str h
theorem Bd.ifY {fi : Fi} {c : Lc} {l : List (Str × Value)} {news : List (Addr × Obj)} {e : PySem.Expr} {p2 : Pos} {K : Value → List (Addr × Obj) → Prop} {st st1 : List Stmt} (T : Ts fi c l news e true) (h1 : Bd fi c l news st1 K) : Bd fi c l news (.If e st1 [] p2 :: st) K := ⟨fun s Q F N k =>
  wpAny_execs_cons (wpAny_If (T.h s _ F N fun h' tk F' N' => ite_tt (h1.h { s with heap := h', toks := tk } _ F' N' fun v nw h2 tk2 l2 hv F2 N2 => k v nw h2 tk2 l2 hv F2 N2)))⟩
noncomputable def lfirstVa (f : Str) (nt nt2 : Nt) : Int × Str := if (nt.ks != Str.ofString "type") = true then (0, Str.ofString "not_a_type") else (1, if ((Str.ofString "VAL" == Str.ofString "SIZE") || ((f != Str.ofString "record") && isVal nt2.ks)) = true then Str.ofString "" else Str.ofString "bad_argument")
theorem lfirstVa_is (f : Str) (nt nt2 : Nt) : lfirstVa f nt nt2 = lfirst2 (Str.ofString "VAL") f nt nt2 := by
  unfold lfirstVa lfirst2
  rw [if_pos (by decide : (Str.ofString "VAL" == Str.ofString "VAL") = true), show (Str.ofString "VAL" == Str.ofString "SIZE") = false by decide, Bool.false_or]
  simp only [Bool.and_eq_true]
set_option maxHeartbeats 2000000 in
theorem law_firstV_ok (w : World) (news sub : List (Addr × Obj)) (tn : Tok) (sl tp tp2 nd : Addr) (k : Nat) (sp : Int) (d : Sd) (nt nt2 : Nt) (hs : (sl, W.listOf #[.ref tp, .ref tp2] k) ∈ news) (ht : SideTup w.params sub tp nd sp d nt) (hsub : ∀ q ∈ sub, q ∈ news) (ht2 : TupAt w.params news tp2 nt2) :
    CallOk w 406 9 news [.str (Str.ofString "VAL") tn, .ref sl] (TupIS news (lfirst2 (Str.ofString "VAL") d.form nt nt2).1 (lfirst2 (Str.ofString "VAL") d.form nt nt2).2) := by
  obtain ⟨tt1, tt2, vv9, ht1, hv1, hsd, hrl⟩ := ht.mono hsub
  obtain ⟨nd2, uu1, uu2, vv2, ht3, hv2⟩ := ht2
  rw [← lfirstVa_is]
  k_extra "open"
  refine Bd.conv (K2 := PairIn news (lfirstVa d.form nt nt2)) ?_ pair_conv
  have sub9 : ∀ q ∈ news, q ∈ news := fun q h => h
  refine Bd.asg (by decide +kernel) (fun _ => rfl) (by k_extra "evr") fun _ => ?_
  refine Bd.ifY (Ts.inL (x := Str.ofString "VAL") (cs := [Str.ofString "VAL", Str.ofString "SIZE"]) (by k_extra "evs") rfl (Nat.le_of_ble_eq_true rfl)) ?_
  refine Bd.ifK (PairIn news) (by k_extra "ts") (fun a8 => ret_pair rfl Ev.int Ev.str rfl sub9) fun a8 => ?_
  have hty : d.sh = .typ := by
    by_cases h : d.sh = .typ
    · exact h
    · exact absurd ((rel_ks hrl h).symm.trans a8) (by decide)
  obtain ⟨ty, kids, v, hn, hT, hv⟩ := hsd
  rw [hty] at hv
  obtain rfl : v = .ref ty := hv
  refine Bd.asg (by decide +kernel) (fun _ => rfl) (Ev.or (b2 := (d.form != Str.ofString "record") && isVal nt2.ks) (Ev.eqS (by k_extra "evs") Ev.str) fun _ => Ev.or1 (Ev.and (Ev.neS (t_evForm (n_evValue (by k_extra "it") base_sub hn rfl ok) base_attr hT ok) Ev.str) fun _ => Ev.and1 (Ev.inL (by k_extra "evs") rfl (Nat.le_of_ble_eq_true rfl)))) fun _ => ?_
  exact ret_pair rfl Ev.int (Ev.ifE sv (Ts.name (by k_extra "lk") (by decide +kernel)) (fun _ => Ev.str) fun _ => Ev.str) rfl sub9
theorem words_law_first1_ok : True := by
  k_with "m call ref" => (k_here; (with_reducible show wpAny _ _ (call (Value.ref 406) [_, _]) _ _ _); k_dflt (apply useT; k_extra "u5"; (focus first | exact rfl | assumption); (focus (apply law_first1_ok; (focus (k_mem); done); (focus (assumption); done); (focus (assumption); done); done)); k_extra "u9"); intro tp9 ta9 tb9 h9 tk9 F9 N9; (try k_sweep); (try dsimp only); (try k_fold))
  trivial
theorem words_law_first2_ok : True := by
  k_with "m call ref" => (k_here; (with_reducible show wpAny _ _ (call (Value.ref 406) [_, _]) _ _ _); k_dflt (apply useT; k_extra "u5"; (focus first | exact rfl | assumption); (focus (apply law_first2_ok; (focus (k_mem); done); (focus (assumption); done); (focus (assumption); done); (focus (assumption); done); (focus (assumption); done); (focus (assumption); done); (focus (assumption); done); (focus (assumption); done); done)); k_extra "u9"); intro tp9 ta9 tb9 h9 tk9 F9 N9; (try k_sweep); (try dsimp only); (try k_fold))
  trivial
theorem words_law_firstV_ok : True := by
  k_with "m call ref" => (k_here; (with_reducible show wpAny _ _ (call (Value.ref 406) [_, _]) _ _ _); k_dflt (apply useT; k_extra "u5"; (focus first | exact rfl | assumption); (focus (apply law_firstV_ok; (focus (k_mem); done); (focus (assumption); done); (focus ((intro p9 h9; repeat (first | exact h9 | exact ‹∀ q, q ∈ _ → q ∈ _› _ h9 | apply List.mem_cons_of_mem | apply List.mem_append_right))); done); (focus (assumption); done); done)); k_extra "u9"); intro tp9 ta9 tb9 h9 tk9 F9 N9; (try k_sweep); (try dsimp only); (try k_fold))
  trivial
theorem words_at_31 : True := by
  k_with "m compareOp NotEq ref ref" => k_extra "m neq"
  trivial
theorem words_at_32 : True := by
  k_with "m compareOp Eq ref ref" => k_extra "m eqq"
  trivial
theorem words_at_34 : True := by
  k_with "m compareOp Eq int int" => k_extra "m eqi"
  trivial
theorem words_at_35 : True := by
  k_with "m compareOp NotEq int int" => k_extra "m nei"
  trivial
theorem words_at_36 : True := by
  k_with "m compareOp Eq str str" => k_extra "m eqs"
  trivial
theorem words_at_37 : True := by
  k_with "m compareOp NotEq str str" => k_extra "m nes"
  trivial
theorem words_at_40 : True := by
  k_with "m exec Assign cons ListComp" => k_extra "m sides"
  trivial
theorem words_v : True := by
  k_with "m eqi" => (with_reducible refine eqSameI ?_; k_whole)
  k_with "m nei" => (with_reducible refine neSameI ?_; k_whole)
  k_with "m eqs" => (with_reducible refine eqSameS ?_; k_whole)
  k_with "m nes" => (with_reducible refine neSameS ?_; k_whole)
  k_with "m dict.get" => (k_here; (with_reducible show wpAny _ _ (call (Value.builtin "dict.get") [Value.ref _, Value.str _ _, Value.int _ _]) _ _ _); k_dflt (refine lval_get (by k_asm) (by k_mem) (by assumption) (by assumption) ?_; k_whole); intro t9)
  k_with "m FinA" => ((unfold LCg.FinA); intro D9 h9 tk9 F9 N9 oD9; replace F9 := look_store ▸ F9; (try simp only [List.nil_append, List.cons_append] at N9); (try dsimp only))
  k_with "ea" => first | with_reducible exact EqAt.strS | with_reducible exact EqAt.intS | exact EqAt.str_str _ _ _ _ | exact EqAt.int_int _ _ _ _ | exact EqAt.none2 | exact EqAt.none_int _ _ | exact EqAt.str_int _ _ _ _
  k_with "m neq" => (k_here; k_dflt (first | refine neLen (by k_asm) (by k_mem) (by k_mem) (by rfl) (by ke_room) ?_ | refine neNil (by k_asm) (by k_mem) (by k_mem) (by ke_room) ?_ | refine neRow (by k_asm) (by k_mem) (by k_mem) (by k_mem) (by k_mem) (by ke_room) (by first | assumption | exact ⟨rfl, rfl⟩) ?_ | refine neThree (by k_asm) (by k_mem) (by k_mem) (by k_extra "ea") (by k_extra "ea") (by k_extra "ea") (by ke_room) ?_); k_whole)
  k_with "m eqq" => (k_here; k_dflt (first | refine eqLen (by k_asm) (by k_mem) (by k_mem) (by rfl) (by ke_room) ?_ | refine eqNil (by k_asm) (by k_mem) (by k_mem) (by ke_room) ?_ | refine eqRow (by k_asm) (by k_mem) (by k_mem) (by k_mem) (by k_mem) (by ke_room) (by first | assumption | exact ⟨rfl, rfl⟩) ?_ | refine eqThree (by k_asm) (by k_mem) (by k_mem) (by k_extra "ea") (by k_extra "ea") (by k_extra "ea") (by ke_room) ?_ | refine eqTwo (by k_asm) (by k_mem) (by k_mem) (by k_extra "ea") (by k_extra "ea") (by ke_room) ?_); k_whole)
  k_with "m eval Name" => (apply nameL; (focus with_reducible assumption); (focus ((repeat (first | with_reducible exact look_hit | with_reducible assumption | (apply look_miss; kernel_rfl))); done)); (focus decide +kernel); k_whole)
  k_with "m storeName" => (apply storeL; (focus with_reducible assumption); (focus with_reducible assumption); (focus decide +kernel); k_whole; intro h' F' N'; (try k_sweep))
  trivial
theorem go_law_pick : GlobOk (Str.ofString "_law_pick") (.ref 385) := fun P => ⟨by kernel_rfl, by kernel_rfl⟩
theorem go_Obj : GlobOk (Str.ofString "Obj") (.ref 331) := fun P => ⟨by kernel_rfl, by kernel_rfl⟩
theorem ao_mask : AttrOk 367 (Str.ofString "mask") := fun P => ⟨none, by kernel_rfl, by kernel_rfl, by kernel_rfl, by kernel_rfl⟩
theorem ao_byte : AttrOk 367 (Str.ofString "byte") := fun P => ⟨none, by kernel_rfl, by kernel_rfl, by kernel_rfl, by kernel_rfl⟩
/-- a method of a class of the text's -/
noncomputable def MethOk (C : Addr) (name : Str) (f : Addr) : Prop := ∀ P, plainGet (hd.heap_1 P) C name = true ∧ findIn (hd.heap_1 P) (.ref C) name = some (some (.ref f)) ∧ isFn (hd.heap_1 P) (.ref f) = true ∧ keepIn (hd.heap_1 P) (.ref f) = true
theorem me_new : MethOk 367 (Str.ofString "new") 357 := fun P => ⟨by kernel_rfl, by kernel_rfl, by kernel_rfl, by kernel_rfl⟩
theorem me_string : MethOk 367 (Str.ofString "string") 364 := fun P => ⟨by kernel_rfl, by kernel_rfl, by kernel_rfl, by kernel_rfl⟩
/-- what the class says of a store into an object of its own -/
noncomputable def SetOk (C : Addr) (name : Str) : Prop := ∀ P, findIn (hd.heap_1 P) (.ref C) "__setattr__" = some (some (.builtin "object.__setattr__")) ∧ plainOver (hd.heap_1 P) C = true ∧ takerIn (hd.heap_1 P) C name = some none ∧ hasDictIn (hd.heap_1 P) C = true
theorem se_base : SetOk 310 (Str.ofString "base") := fun P => ⟨by kernel_rfl, by kernel_rfl, by kernel_rfl, by kernel_rfl⟩
theorem se_length : SetOk 310 (Str.ofString "length") := fun P => ⟨by kernel_rfl, by kernel_rfl, by kernel_rfl, by kernel_rfl⟩
theorem se_readonly : SetOk 331 (Str.ofString "readonly") := fun P => ⟨by kernel_rfl, by kernel_rfl, by kernel_rfl, by kernel_rfl⟩
section
variable {fi : Fi} {c : Lc} {l : List (Str × Value)} {news news' nw : List (Addr × Obj)} {x y name : Str} {i j : Int} {v : Value} {e e1 e2 obj : PySem.Expr} {es : List PySem.Expr} {p p1 p2 p3 p4 : Pos} {k n : Nat} {f f1 f2 : Tok → Value} {b : Bool} {K : Value → List (Addr × Obj) → Prop} {a C dx fa : Addr} {st : List Stmt} {des : List DictEntry} {P : List Value → List (Addr × Obj) → Prop}
/-- a call of a method, by its contract -/
theorem Rt.meth (M : MethOk C name fa) (he0 : Ev fi c l news (.Name y p1) (vv (.ref a))) (h1 : (a, instObj C dx) ∈ news) (h2 : (dx, dictOf des n) ∈ news) (hl : getL name des = some none) {k2 : Nat} (O : c.Ok k2) (hO : k + 1 ≤ k2) (hk : fi.cs.kind = .function) (hn : noStar (e :: es) = true)
    (he : ∀ env, eval (.Call (.Attribute (.Name y p1) name p2) (e :: es) [] p3) env = (do
      let ov ← eval (.Name y p1) env
      standAt p2.atName
      let (f, first) ← holding [ov] (getMethod ov name (do return (← importBound (.Name y p1) env).getD true))
      callWith p3 f first (backTo p3 (starEach (e :: es) env)) (backToKw p3 (keywordEach [] env))))
    (ha : Rs fi c l news (e :: es) fun vs nw => CallOk c.w fa k nw (.ref a :: vs) K) : Rt fi c l news (.Call (.Attribute (.Name y p1) name p2) (e :: es) [] p3) K := ⟨fun s Q F N kq => by
  obtain ⟨q1, q2, q3, q4⟩ := M c.w.params
  refine methodCall_KW (he0.h s _ F N fun _ g1 tk1 F1 N1 => method_inst F1 O.X (InstAt.of_news N1 h1 h2) q1 q2 q3 hl ?_) (he _)
  exact callWith_K O.X q4 (ha.h _ _ _ F1 N1 fun vs nw h3 tk3 C F3 N3 => ⟨O.X.keeps F3.keep, C.use O.B F3 O.X N3 O.T hk (by have := O.hd; omega) (by have := O.hu; omega) fun r nw2 h4 tk4 F4 N4 hP => kq r nw2 h4 tk4 hP F4 N4⟩) (starEach_cons hn).1 (noStar_any (starEach_cons (env := c.env fi) hn).2)⟩
/-- a store into an object of a class -/
theorem Bd.setA {des' : Tok → Tok → List DictEntry} {n' : Nat} {news' : Tok → Tok → List (Addr × Obj)} (SO : SetOk C name) (hsw : ∀ env, swapsWith e (some (.Attribute obj name p1)) p.line env = pure false) (h : Ev fi c l news e f) (ho : Ev fi c l news obj (vv (.ref a))) (X : (hd.heap_1 c.w.params).In c.h₀) (h1 : (a, instObj C dx) ∈ news) (h2 : (dx, dictOf des n) ∈ news) (hl : (getL name des).isSome = true)
    (hp : ∀ t u, (putL name (PyData.keyHash c.w.params name) (.str name u) (f t) des, putN name des n) = (des' t u, n')) (U : ∀ t u, Upd dx (dictOf des n) (dictOf (des' t u) n') news (news' t u)) (hz : ∀ t u, (des' t u).length ≤ 1000) (hB : ∀ t u, Bd fi c l (news' t u) st K) : Bd fi c l news (.Assign [.Attribute obj name p1] e p :: st) K := ⟨fun s Q F N kq => by
  obtain ⟨q1, q2, q3, q4⟩ := SO c.w.params
  refine wpAny_execs_cons (plainObj_wpAny_Assign_Attribute (h.h s _ F N fun t g1 tk1 F1 N1 => ho.h _ _ F1 N1 fun _ g2 tk2 F2 N2 => ?_) (hsw _))
  exact set_dict (s := { s with heap := g2, toks := tk2 }) F2 X N2 (InstAt.of_news N2 h1 h2) rfl q1 q2 q3 q4 hl (hp t _) (U t _) (hz t _) fun h' F' N' => (hB t _).h { s with heap := h', toks := tk2 + 2 } Q F' N' kq⟩
/-- an item of a list display, at an index any -/
theorem Rt.atList (hl : Rs fi c l news es fun us nw => us.length ≤ 20 ∧ ∀ D, (∀ q ∈ nw, q.1 < D) → Rt fi c l ((D, W.listOf us.toArray 0) :: nw) e2 fun v nw2 => ∃ k t, v = .int k t ∧ 0 ≤ k ∧ k < (us.length : Int) ∧ (D, W.listOf us.toArray 0) ∈ nw2 ∧ ∀ u, us.toArray.toList[k.toNat]? = some u → K u nw2)
    (hs : ∀ D k u, subscripted e2 false (.ref D) (.int k u) = operate [.ref D, .int k u] (getItem (.ref D) (.int k u))) : Rt fi c l news (.Subscript (.List es p1) e2 p) K := ⟨fun s Q F N kq => by
  refine Subscript_ (List_ (hl.h s _ _ F N fun us nw h3 tk3 ⟨hz, h⟩ F3 N3 => newList_K F3 N3 (fun D h4 F4 N4 lt => ?_) (Nat.le_trans hz (Nat.le_of_ble_eq_true rfl))))
  refine (h D lt).h { s with heap := h4, toks := tk3 } _ F4 N4 fun v nw2 h5 tk5 hv F5 N5 => ?_
  obtain ⟨k, t, e, k0, k1, hm, hK⟩ := hv
  subst e
  exact itemAny (s := { s with heap := h5, toks := tk5 }) N5 hm k0 (by rw [List.size_toArray]; exact k1) (by rw [List.size_toArray]; exact hz) (fun u hu => kq u nw2 h5 tk5 (hK u hu) F5 N5) (hs D k t)⟩
theorem CallOk.less {w : World} {vs : List Value} (C : CallOk w a k nw vs K) (sub : ∀ q ∈ nw, q ∈ news) : CallOk w a k news vs K := fun _ _ _ _ _ _ _ _ _ _ _ _ _ _ _ _ _ _ _ _ _ B F X N T hk hd hu ret => C.use B F X (cb_drop N sub) T hk hd hu ret
theorem Rt.tupF (ha : Rs fi c l news es fun vs nw => vs.length ≤ 64 ∧ ∀ D, (∀ q ∈ nw, q.1 < D) → K (.ref D) ((D, tupObj vs.toArray) :: nw)) : Rt fi c l news (.Tuple es k p) K := ⟨fun s Q F N h =>
  Tuple_ (ha.h s _ _ F N fun vs nw h2 tk2 ⟨hz, hK⟩ F2 N2 => kup_newTuple F2 N2 (fun D h3 F3 N3 lt => h _ _ h3 tk2 (hK D lt) F3 N3) (Nat.le_trans hz (Nat.le_of_ble_eq_true rfl)))⟩
theorem Rt.nilF (hK : ∀ D, (∀ q ∈ news, q.1 < D) → K (.ref D) ((D, W.listOf #[] 0) :: news)) : Rt fi c l news (.List [] p) K := ⟨fun s Q F N h =>
  List_ (args_nil (newList_K F N (fun D h3 F3 N3 lt => h _ _ h3 s.toks (hK D lt) F3 N3) (Nat.le_of_ble_eq_true rfl)))⟩
theorem Rt.less (h : Rt fi c l nw e K) (sub : ∀ q ∈ nw, q ∈ news) : Rt fi c l news e K := ⟨fun s Q F N k => h.h s Q F (cb_drop N sub) k⟩
end
/-- what a side's making does not change -/
structure LB where
  pl : Addr
  fg : Addr
  tys : Addr
  td : Addr
  y : Y9
  rest : List (Addr × Obj)
  R : List (Addr × Obj)
/-- the pool's figures, the types' counter -/
structure LV where
  i : Int
  m : Int
  u1 : Tok
  u2 : Tok
  np : Nat
  cc : Int
  t0 : Tok
noncomputable def LV.ok (s : LV) : Prop := 0 ≤ s.i ∧ 0 ≤ s.m ∧ s.m < 1009
/-- the ledger of a side's making: the pool, the types' dict, what is new, what was -/
abbrev lsd (P : Params) (b : LB) (s : LV) (mo : List (Addr × Obj)) : List (Addr × Obj) := (b.pl, poolObj b.fg s.i s.m s.u1 s.u2 s.np) :: (b.td, tysDict P b.y (.int s.cc s.t0)) :: (mo ++ b.rest)
noncomputable def Fz (b : LB) (mo : List (Addr × Obj)) : Prop := ∀ q ∈ mo, (∀ p ∈ b.rest, @LT.lt Nat _ p.1 q.1) ∧ @LT.lt Nat _ b.pl q.1 ∧ @LT.lt Nat _ b.td q.1
theorem Fz.add {b : LB} {mo nw : List (Addr × Obj)} {D : Addr} {o o1 o2 : Obj} (h : Fz b mo) (lt : ∀ q ∈ nw, q.1 < D) (m1 : (b.pl, o1) ∈ nw) (m2 : (b.td, o2) ∈ nw) (s : ∀ q ∈ b.rest, q ∈ nw) : Fz b ((D, o) :: mo) := List.forall_mem_cons.mpr ⟨⟨fun p hp => lt p (s p hp), lt _ m1, lt _ m2⟩, h⟩
theorem Fz.add2 {b : LB} {mo nw : List (Addr × Obj)} {D x : Addr} {o o' o1 o2 : Obj} (h : Fz b mo) (lt : ∀ q ∈ nw, q.1 < D) (g : @LT.lt Nat _ D x) (m1 : (b.pl, o1) ∈ nw) (m2 : (b.td, o2) ∈ nw) (s : ∀ q ∈ b.rest, q ∈ nw) : Fz b ((x, o') :: (D, o) :: mo) :=
  List.forall_mem_cons.mpr ⟨⟨fun p hp => Nat.lt_trans (lt p (s p hp)) g, Nat.lt_trans (lt _ m1) g, Nat.lt_trans (lt _ m2) g⟩, h.add lt m1 m2 s⟩
/-- what stays of a side's making -/
structure SC (P : Params) (b : LB) (vs : List Value) (ns : List Int) (nf : Nat) : Prop where
  hsub : ∀ q ∈ b.R, q ∈ b.rest
  hT : TysIs P b.R b.tys b.td b.y
  hf : (b.fg, W.listOf vs.toArray nf) ∈ b.rest
  hI : IntsAre vs ns
  hn : ∀ x ∈ ns, 0 ≤ x
  hl : ns.length ≤ 3000
  hp : ∀ q ∈ b.rest, q.1 ≠ b.pl
  hq : ∀ q ∈ b.rest, q.1 ≠ b.td
  hne : @Ne Nat b.pl b.td
section
variable {P : Params} {mo : List (Addr × Obj)} {b : LB} {s : LV} {vs : List Value} {ns : List Int} {nf : Nat}
theorem SC.updP (S : SC P b vs ns nf) (h : Fz b mo) : UpdF b.pl (poolObj b.fg s.i s.m s.u1 s.u2 s.np) (lsd P b s mo) fun o => (b.pl, o) :: (b.td, tysDict P b.y (.int s.cc s.t0)) :: (mo ++ b.rest) :=
  .head (List.forall_mem_cons.mpr ⟨Ne.symm S.hne, fun q hq => (List.mem_append.mp hq).elim (fun g => Nat.ne_of_gt (h q g).2.1) (S.hp q)⟩)
theorem SC.updT (S : SC P b vs ns nf) (h : Fz b mo) : UpdF b.td (tysDict P b.y (.int s.cc s.t0)) (lsd P b s mo) fun o => (b.pl, poolObj b.fg s.i s.m s.u1 s.u2 s.np) :: (b.td, o) :: (mo ++ b.rest) :=
  .tail S.hne (.head fun q hq => (List.mem_append.mp hq).elim (fun g => Nat.ne_of_gt (h q g).2.2) (S.hq q))
theorem SC.own (S : SC P b vs ns nf) : (b.tys, instObj 367 b.td) ∈ lsd P b s mo := .tail _ (.tail _ (List.mem_append_right _ (S.hsub _ S.hT.own)))
theorem SC.fig (S : SC P b vs ns nf) : (b.fg, W.listOf vs.toArray nf) ∈ lsd P b s mo := .tail _ (.tail _ (List.mem_append_right _ S.hf))
theorem SC.tysAt (S : SC P b vs ns nf) : TysAt P (lsd P b s mo) b.tys b.y.tb b.y.tc b.y.ti := ⟨⟨b.td, b.y.k1, b.y.k2, b.y.k3, b.y.k4, b.y.k5, b.y.k6, b.y.k7, b.y.k8, b.y.k9, .int s.cc s.t0, b.y.c2, .ref b.y.ty, .ref b.y.tm, b.y.c5, b.y.c6⟩, S.own, .tail _ (.head _)⟩
theorem mem_lsd {M : List (Addr × Obj)} : ∀ q ∈ lsd P b s (M ++ mo), q ∈ M ++ lsd P b s mo := by
  intro q h
  rcases List.mem_cons.mp h with rfl | h
  · exact List.mem_append_right _ (.head _)
  rcases List.mem_cons.mp h with rfl | h
  · exact List.mem_append_right _ (.tail _ (.head _))
  rw [List.append_assoc] at h
  exact (List.mem_append.mp h).elim (fun h => List.mem_append_left _ h) fun h => List.mem_append_right _ (.tail _ (.tail _ h))
theorem lsd_mem {M : List (Addr × Obj)} : ∀ q ∈ M ++ (b.pl, poolObj b.fg s.i s.m s.u1 s.u2 s.np) :: (b.td, tysDict P b.y (.int s.cc s.t0)) :: b.rest, q ∈ lsd P b s M := by
  intro q h
  rcases List.mem_append.mp h with h | h
  · exact .tail _ (.tail _ (List.mem_append_left _ h))
  rcases List.mem_cons.mp h with rfl | h
  · exact .head _
  rcases List.mem_cons.mp h with rfl | h
  · exact .tail _ (.head _)
  exact .tail _ (.tail _ (List.mem_append_right _ h))
theorem lsd_lt {s' : LV} {D : Addr} (h : ∀ q ∈ lsd P b s mo, q.1 < D) : ∀ q ∈ lsd P b s' mo, q.1 < D :=
  List.forall_mem_cons.mpr ⟨h (b.pl, poolObj b.fg s.i s.m s.u1 s.u2 s.np) (.head _), List.forall_mem_cons.mpr ⟨h (b.td, tysDict P b.y (.int s.cc s.t0)) (.tail _ (.head _)), fun q hq => h q (.tail _ (.tail _ hq))⟩⟩
theorem upd2 {x D : Addr} {o o1 o2 : Obj} {M : List (Addr × Obj)} (g : @LT.lt Nat _ D x) (h : ∀ q ∈ M, q.1 < D) : Upd D o1 o2 ((x, o) :: (D, o1) :: M) ((x, o) :: (D, o2) :: M) := .tail (Nat.ne_of_gt g) (.head fun q hq => Nat.ne_of_lt (h q hq))
/-- a type's two objects, new ahead of a side's ledger -/
theorem Fz.typ {x : Addr} {zz : TZ} {o : Obj} (h : Fz b mo) (q1 : ∀ q ∈ lsd P b s mo, q.1 < zz.dx) (q2 : @LT.lt Nat _ zz.dx x) : Fz b ((x, instObj 310 zz.dx) :: (zz.dx, o) :: mo) := h.add2 q1 q2 (.head _) (.tail _ (.head _)) fun q h => .tail _ (.tail _ (List.mem_append_right _ h))
end
section
variable {fi : Fi} {c : Lc} {l : List (Str × Value)} {news nw : List (Addr × Obj)} {g : Obj → List (Addr × Obj)} {x z : Str} {e e1 e2 : PySem.Expr} {p p1 p2 p3 : Pos} {k : Nat} {K : Value → List (Addr × Obj) → Prop} {mo : List (Addr × Obj)} {b : LB} {s : LV} {vs : List Value} {ns : List Int} {nf : Nat} {bd si : Int} {fo : Str} {st : List Stmt}
/-- _law_pick(pool, bound) -/
theorem Rt.pick (S : SC c.w.params b vs ns nf) (U : UpdF b.pl (poolObj b.fg s.i s.m s.u1 s.u2 s.np) news g) (hf : (b.fg, W.listOf vs.toArray nf) ∈ news) (hs : s.ok) (hb : 0 < bd ∧ bd ≤ 16) (O : c.Ok k) (hO : 9 ≤ k) (hk : fi.cs.kind = .function) (ok : okG fi.cs (Str.ofString "_law_pick") = true) (hn : noStar [e1, e2] = true) (h1 : Ev fi c l news e1 (vv (.ref b.pl))) (h2 : Ev fi c l news e2 (iv bd))
    (hK : ∀ x t (s' : LV), s'.ok → s'.cc = s.cc → s'.t0 = s.t0 → 0 ≤ x ∧ x < bd → K (.int x t) (g (poolObj b.fg s'.i s'.m s'.u1 s'.u2 s'.np))) : Rt fi c l news (.Call (.Name (Str.ofString "_law_pick") p1) [e1, e2] [] p) K :=
  Rt.callC (k := 8) O hO hk go_law_pick ok hn (Rs.ev hn h1 fun _ => Rs.ev (noStar_tl hn) h2 fun t => Rs.nil ((law_pickU_ok c.w news g b.pl b.fg s.i s.m s.u1 s.u2 s.np vs ns nf bd t U hf S.hI S.hn S.hl hs.1 hs.2 hb).mono fun v nw h => by
    obtain ⟨z, rfl, rfl, q1, q2, q3, q4, q5⟩ := h
    exact hK z.x z.t ⟨z.i, z.m, z.u1, z.u2, z.n, s.cc, s.t0⟩ ⟨q3, q4, q5⟩ rfl rfl ⟨q1, q2⟩))
/-- x = _law_pick(pool, bound) -/
theorem Bd.pick (S : SC c.w.params b vs ns nf) (hz : Fz b mo) (hs : s.ok) (hb : 0 < bd ∧ bd ≤ 16) (O : c.Ok k) (hO : 9 ≤ k) (hk : fi.cs.kind = .function) (ok : okG fi.cs (Str.ofString "_law_pick") = true) (okx : okL fi.cs x = true) (hn : noStar [e1, e2] = true) (hsw : ∀ env, swapsWith (.Call (.Name (Str.ofString "_law_pick") p1) [e1, e2] [] p) (some (.Name x p2)) p3.line env = pure false) (h1 : Ev fi c l (lsd c.w.params b s mo) e1 (vv (.ref b.pl))) (h2 : Ev fi c l (lsd c.w.params b s mo) e2 (iv bd))
    (hB : ∀ k t (s' : LV), s'.ok → 0 ≤ k ∧ k < bd → Bd fi c ((x, .int k t) :: l) (lsd c.w.params b s' mo) st K) : Bd fi c l (lsd c.w.params b s mo) (.Assign [.Name x p2] (.Call (.Name (Str.ofString "_law_pick") p1) [e1, e2] [] p) p3 :: st) K :=
  Bd.asgR (Post := fun v nw => ∃ k t, v = .int k t ∧ ∃ s' : LV, nw = lsd c.w.params b s' mo ∧ s'.ok ∧ 0 ≤ k ∧ k < bd) okx hsw (Rt.pick S (S.updP hz) S.fig hs hb O hO hk ok hn h1 h2 fun x t s' h1 h2 h3 h4 => ⟨x, t, rfl, s', by rw [lsd, h2, h3], h1, h4⟩) fun v nw h => by
    obtain ⟨k, t, rfl, s', rfl, h1, h2⟩ := h
    exact hB k t s' h1 h2
/-- types.new(form, size) -/
theorem Rt.new (S : SC c.w.params b vs ns nf) (hz : Fz b mo) (O : c.Ok k) (hO : 17 ≤ k) (hk : fi.cs.kind = .function) (h0 : Ev fi c l (lsd c.w.params b s mo) (.Name z p1) (vv (.ref b.tys))) (hn : noStar [e1, e2] = true) (he : ∀ env, eval (.Call (.Attribute (.Name z p1) (Str.ofString "new") p2) [e1, e2] [] p3) env = (do
      let ov ← eval (.Name z p1) env
      standAt p2.atName
      let (f, first) ← holding [ov] (getMethod ov (Str.ofString "new") (do return (← importBound (.Name z p1) env).getD true))
      callWith p3 f first (backTo p3 (starEach [e1, e2] env)) (backToKw p3 (keywordEach [] env)))) (h1 : Ev fi c l (lsd c.w.params b s mo) e1 (sv fo)) (h2 : Ev fi c l (lsd c.w.params b s mo) e2 (iv si))
    (hK : ∀ x zz t1 t2 t3 t (s' : LV), (s.ok → s'.ok) ∧ s'.cc = s.cc + 1 → (∀ q ∈ lsd c.w.params b s mo, q.1 < zz.dx) → @LT.lt Nat _ zz.dx x → K (.ref x) ((x, instObj 310 zz.dx) :: (zz.dx, typeDict c.w.params zz (.int s'.cc t1) (.str fo t2) (.int si t3) (.int 0 t)) :: lsd c.w.params b s' mo)) : Rt fi c l (lsd c.w.params b s mo) (.Call (.Attribute (.Name z p1) (Str.ofString "new") p2) [e1, e2] [] p3) K :=
  Rt.meth (k := 16) me_new h0 S.own (.tail _ (.head _)) rfl O hO hk hn he (Rs.ev hn h1 fun t2 => Rs.ev (noStar_tl hn) h2 fun t3 => Rs.nil ((newU_ok c.w _ _ b.y b.tys b.td s.cc s.t0 fo t2 si t3 S.own (S.updT hz)).mono fun v nw h => by
    obtain ⟨x, zz, t1, t, t7, rfl, rfl, q1, q2⟩ := h
    exact hK x zz t1 t2 t3 t ⟨s.i, s.m, s.u1, s.u2, s.np, s.cc + 1, t7⟩ ⟨id, rfl⟩ q1 q2))
/-- the same, its type kept as a type -/
theorem Rt.newT (S : SC c.w.params b vs ns nf) (hz : Fz b mo) (hs : s.ok) (O : c.Ok k) (hO : 17 ≤ k) (hk : fi.cs.kind = .function) (h0 : Ev fi c l (lsd c.w.params b s mo) (.Name z p1) (vv (.ref b.tys))) (hn : noStar [e1, e2] = true) (he : ∀ env, eval (.Call (.Attribute (.Name z p1) (Str.ofString "new") p2) [e1, e2] [] p3) env = (do
      let ov ← eval (.Name z p1) env
      standAt p2.atName
      let (f, first) ← holding [ov] (getMethod ov (Str.ofString "new") (do return (← importBound (.Name z p1) env).getD true))
      callWith p3 f first (backTo p3 (starEach [e1, e2] env)) (backToKw p3 (keywordEach [] env)))) (h1 : Ev fi c l (lsd c.w.params b s mo) e1 (sv fo)) (h2 : Ev fi c l (lsd c.w.params b s mo) e2 (iv si))
    (hK : ∀ x mo' (s' : LV), s'.ok → Fz b mo' → TypeAt c.w.params mo' x fo si 0 s'.cc → (∀ q ∈ mo, q ∈ mo') → K (.ref x) (lsd c.w.params b s' mo')) : Rt fi c l (lsd c.w.params b s mo) (.Call (.Attribute (.Name z p1) (Str.ofString "new") p2) [e1, e2] [] p3) K :=
  Rt.conv (K1 := fun v nw => ∃ nw', K v nw' ∧ ∀ q ∈ nw', q ∈ nw) (Rt.new S hz O hO hk h0 hn he h1 h2 fun x zz t1 t2 t3 t s' h1 q1 q2 => ⟨_, hK x ((x, instObj 310 zz.dx) :: (zz.dx, typeDict c.w.params zz (.int s'.cc t1) (.str fo t2) (.int si t3) (.int 0 t)) :: mo) s' (h1.1 hs) (hz.typ q1 q2) (typeAt_of (.head _) (.tail _ (.head _)) rfl) fun q h => .tail _ (.tail _ h), mem_lsd (M := [_, _])⟩) fun _ _ h => h
end
/-- what types.string(n) leaves -/
noncomputable def StrNew (P : Params) (b : LB) (s : LV) (mo : List (Addr × Obj)) (n : Int) : Value → List (Addr × Obj) → Prop := fun r nw => ∃ (x : Addr) (mo' : List (Addr × Obj)) (s' : LV), r = .ref x ∧ (∀ q ∈ lsd P b s' mo', q ∈ nw) ∧ s'.ok ∧ Fz b mo' ∧ TypeAt P mo' x (Str.ofString "string") n n (s.cc + 1) ∧ ∀ q ∈ mo, q ∈ mo'
theorem string_ok (w : World) (mo : List (Addr × Obj)) (b : LB) (s : LV) (vs : List Value) (ns : List Int) (nf : Nat) (S : SC w.params b vs ns nf) (hz : Fz b mo) (hs : s.ok) (n : Int) (tn : Tok) : CallOk w 364 20 (lsd w.params b s mo) [.ref b.tys, .int n tn] (StrNew w.params b s mo n) := by
  k_extra "open"
  refine Bd.asgR (Post := fun v nw => ∃ (x : Addr) (zz : TZ) (t1 t2 t3 t : Tok) (s' : LV), v = .ref x ∧ nw = (x, instObj 310 zz.dx) :: (zz.dx, typeDict c.w.params zz (.int s'.cc t1) (.str (Str.ofString "string") t2) (.int n t3) (.int 0 t)) :: lsd c.w.params b s' mo ∧ (s'.ok ∧ s'.cc = s.cc + 1) ∧ (∀ q ∈ lsd c.w.params b s mo, q.1 < zz.dx) ∧ @LT.lt Nat _ zz.dx x) (by decide +kernel) (fun _ => rfl) (Rt.new S hz ok (Nat.le_of_ble_eq_true rfl) rfl (by k_extra "evr") rfl (fun _ => rfl) Ev.str (by k_extra "evi") fun x zz t1 t2 t3 t s' q0 q1 q2 => ⟨x, zz, t1, t2, t3, t, s', rfl, rfl, ⟨q0.1 hs, q0.2⟩, q1, q2⟩) ?_
  rintro v nw ⟨x, zz, t1, t2, t3, t, s', rfl, rfl, ⟨q0, q9⟩, q1, q2⟩
  have q3 := lsd_lt (s' := s') q1
  refine Bd.setA (f := iv n) se_length (fun _ => rfl) (by k_extra "evi") (by k_extra "evr") ok.X (.head _) (.tail _ (.head _)) rfl (fun t u => put_length) (fun t u => upd2 q2 q3) (fun _ _ => Nat.le_of_ble_eq_true rfl) fun t8 u8 => ?_
  refine Bd.setA (f := vv (.ref b.y.tc)) se_base (fun _ => rfl) (y_evChar (by k_extra "evr") base_name ((S.tysAt (mo := mo)).mono fun q h => .tail _ (.tail _ h)) ok) (by k_extra "evr") ok.X (.head _) (.tail _ (.head _)) rfl (fun t u => put_base) (fun t u => upd2 q2 q3) (fun _ _ => Nat.le_of_ble_eq_true rfl) fun _ _ => ?_
  exact Bd.ret (Rt.ev (by k_extra "evr") fun _ => ⟨x, (x, instObj 310 zz.dx) :: (zz.dx, typeDict c.w.params (zz.setB (.ref b.y.tc)) (.int s'.cc t1) (.str (Str.ofString "string") t2) (.int n t3) (.int n t8)) :: mo, s', rfl, mem_lsd (M := [_, _]), q0, hz.typ q1 q2, by rw [← q9]; exact typeAt_of (.head _) (.tail _ (.head _)) rfl, fun q h => .tail _ (.tail _ h)⟩)
/-- a node, new on the ledger, its list of kids empty -/
noncomputable def NewNode (P : Params) (news : List (Addr × Obj)) (op : Str) (pl : Int) (tv v : Value) : Value → List (Addr × Obj) → Prop := fun r nw =>
  ∃ (x : Addr) (z : NZ) (DL : Addr) (t1 t2 : Tok), r = .ref x ∧ nw = (x, instObj 60 z.dx) :: (z.dx, nodeDict P z (.str op t1) (.int pl t2) tv (.ref DL) v (.bool false)) :: (DL, W.listOf #[] 0) :: news ∧ (∀ q ∈ news, q.1 < DL) ∧ (∀ q ∈ (DL, W.listOf #[] 0) :: news, q.1 < z.dx) ∧ @LT.lt Nat _ z.dx x
section
variable {fi : Fi} {c : Lc} {l : List (Str × Value)} {news nw : List (Addr × Obj)} {x y op : Str} {i j pl : Int} {v tv : Value} {e e1 e2 e3 e4 e5 : PySem.Expr} {p p1 p2 p3 p4 : Pos} {k n : Nat} {f f1 f2 : Tok → Value} {b : Bool} {K : Value → List (Addr × Obj) → Prop}
theorem Rt.nd5 (O : c.Ok k) (hO : 11 ≤ k) (hk : fi.cs.kind = .function) (ok : okG fi.cs (Str.ofString "Node") = true) (hn : noStar [e1, e2, e3, .List [] p2, e5] = true) (h1 : Ev fi c l news e1 (sv op)) (h2 : Ev fi c l news e2 (iv pl)) (h3 : Ev fi c l news e3 (vv tv)) (h5 : ∀ nw, Ev fi c l nw e5 (vv v)) : Rt fi c l news (.Call (.Name (Str.ofString "Node") p1) [e1, e2, e3, .List [] p2, e5] [] p) (NewNode c.w.params news op pl tv v) :=
  Rt.callC (k := 10) O hO hk go_Node ok hn (Rs.ev hn h1 fun t1 => Rs.ev (noStar_tl hn) h2 fun t2 => Rs.ev (noStar_tl (noStar_tl hn)) h3 fun _ => Rs.cons (K := fun v nw => ∃ DL, v = .ref DL ∧ nw = (DL, W.listOf #[] 0) :: news ∧ ∀ q ∈ news, q.1 < DL) (noStar_tl (noStar_tl (noStar_tl hn))) (Rt.nilF fun D lt => ⟨D, rfl, rfl, lt⟩) fun u nw h => by
    obtain ⟨DL, rfl, rfl, lt⟩ := h
    exact Rs.ev (noStar_tl (noStar_tl (noStar_tl (noStar_tl hn)))) (h5 _) fun _ => Rs.nil ((node_cls5_ok _ _ _ _ _ _ _).mono fun r nw3 h9 => by
      obtain ⟨x, z, rfl, rfl, q1, q2⟩ := h9
      exact ⟨x, z, DL, t1, t2, rfl, rfl, lt, q1, q2⟩))
theorem Rt.nd4 (O : c.Ok k) (hO : 11 ≤ k) (hk : fi.cs.kind = .function) (ok : okG fi.cs (Str.ofString "Node") = true) (hn : noStar [e1, e2, e3, .List [] p2] = true) (h1 : Ev fi c l news e1 (sv op)) (h2 : Ev fi c l news e2 (iv pl)) (h3 : Ev fi c l news e3 (vv tv)) : Rt fi c l news (.Call (.Name (Str.ofString "Node") p1) [e1, e2, e3, .List [] p2] [] p) (NewNode c.w.params news op pl tv .none) :=
  Rt.callC (k := 10) O hO hk go_Node ok hn (Rs.ev hn h1 fun t1 => Rs.ev (noStar_tl hn) h2 fun t2 => Rs.ev (noStar_tl (noStar_tl hn)) h3 fun _ => Rs.cons (K := fun v nw => ∃ DL, v = .ref DL ∧ nw = (DL, W.listOf #[] 0) :: news ∧ ∀ q ∈ news, q.1 < DL) (noStar_tl (noStar_tl (noStar_tl hn))) (Rt.nilF fun D lt => ⟨D, rfl, rfl, lt⟩) fun u nw h => by
    obtain ⟨DL, rfl, rfl, lt⟩ := h
    exact Rs.nil ((node_cls4_ok _ _ _ _ _ _).mono fun r nw3 h9 => by
      obtain ⟨x, z, rfl, rfl, q1, q2⟩ := h9
      exact ⟨x, z, DL, t1, t2, rfl, rfl, lt, q1, q2⟩))
end
theorem constF_ok (w : World) (news : List (Addr × Obj)) (tv v : Value) (pl : Int) (t : Tok) : CallOk w 71 12 news [tv, v, .int pl t] (NewNode w.params news (Str.ofString "const") pl tv v) := by
  k_extra "open"
  exact Bd.ret (Rt.nd5 ok (Nat.le_of_ble_eq_true rfl) rfl (by decide +kernel) rfl Ev.str (by k_extra "evi") (Ev.name (by k_extra "lk") (by decide +kernel)) fun nw => Ev.name (by k_extra "lk") (by decide +kernel))
section
variable {fi : Fi} {c : Lc} {l : List (Str × Value)} {news nw : List (Addr × Obj)} {x y op : Str} {i j pl0 : Int} {v tv : Value} {e e1 e2 e3 e4 e5 : PySem.Expr} {p p1 p2 p3 p4 : Pos} {k n : Nat} {f f1 f2 g3 : Tok → Value} {b : Bool} {K : Value → List (Addr × Obj) → Prop}
theorem Rt.cst (O : c.Ok k) (hO : 13 ≤ k) (hk : fi.cs.kind = .function) (ok : okG fi.cs (Str.ofString "const") = true) (hn : noStar [e1, e2, e3] = true) (h1 : Ev fi c l news e1 (vv tv)) (h2 : Ev fi c l news e2 (vv v)) (h3 : Ev fi c l news e3 (iv pl0)) : Rt fi c l news (.Call (.Name (Str.ofString "const") p1) [e1, e2, e3] [] p) (NewNode c.w.params news (Str.ofString "const") pl0 tv v) :=
  Rt.callC (k := 12) O hO hk go_const ok hn (Rs.ev hn h1 fun _ => Rs.ev (noStar_tl hn) h2 fun _ => Rs.ev (noStar_tl (noStar_tl hn)) h3 fun _ => Rs.nil (constF_ok _ _ _ _ _ _))
theorem Ev.ofRt (h : Rt fi c l news e fun v nw => (∃ t, v = f t) ∧ ∀ q ∈ news, q ∈ nw) : Ev fi c l news e f := ⟨fun s Q F N k => h.h s Q F N fun v nw h' tk hv F' N' => by
  obtain ⟨⟨t, rfl⟩, s⟩ := hv
  exact k t h' tk F' (cb_drop N' s)⟩
theorem Ev.frame (hx : look l x = some v) (h : ∀ l9, look l9 x = some v → Ev fi c l9 news e f) : Ev fi c l news e f := h l hx
theorem Ev.led (h : ∀ nw, Ev fi c l nw e f) : Ev fi c l news e f := h news
end
section
variable {fi : Fi} {c : Lc} {l : List (Str × Value)} {news : List (Addr × Obj)} {st : List Stmt} {K : Value → List (Addr × Obj) → Prop}
/-- a frame of which these names alone are kept -/
theorem Bd.fr2 {x1 x2 : Str} {v1 v2 : Value} (h1 : look l x1 = some v1) (h2 : look l x2 = some v2) (H : ∀ l9, look l9 x1 = some v1 → look l9 x2 = some v2 → Bd fi c l9 news st K) : Bd fi c l news st K := H l h1 h2
theorem Bd.fr3 {x1 x2 x3 : Str} {v1 v2 v3 : Value} (h1 : look l x1 = some v1) (h2 : look l x2 = some v2) (h3 : look l x3 = some v3) (H : ∀ l9, look l9 x1 = some v1 → look l9 x2 = some v2 → look l9 x3 = some v3 → Bd fi c l9 news st K) : Bd fi c l news st K := H l h1 h2 h3
theorem Bd.fr4 {x1 x2 x3 x4 : Str} {v1 v2 v3 v4 : Value} (h1 : look l x1 = some v1) (h2 : look l x2 = some v2) (h3 : look l x3 = some v3) (h4 : look l x4 = some v4) (H : ∀ l9, look l9 x1 = some v1 → look l9 x2 = some v2 → look l9 x3 = some v3 → look l9 x4 = some v4 → Bd fi c l9 news st K) : Bd fi c l news st K := H l h1 h2 h3 h4
theorem Bd.fr5 {x1 x2 x3 x4 x5 : Str} {v1 v2 v3 v4 v5 : Value} (h1 : look l x1 = some v1) (h2 : look l x2 = some v2) (h3 : look l x3 = some v3) (h4 : look l x4 = some v4) (h5 : look l x5 = some v5) (H : ∀ l9, look l9 x1 = some v1 → look l9 x2 = some v2 → look l9 x3 = some v3 → look l9 x4 = some v4 → look l9 x5 = some v5 → Bd fi c l9 news st K) : Bd fi c l news st K := H l h1 h2 h3 h4 h5
end
section
variable {fi : Fi} {c : Lc} {l : List (Str × Value)} {news nw : List (Addr × Obj)} {e1 e2 e3 e4 : PySem.Expr} {p : Pos} {k : Nat} {mo : List (Addr × Obj)} {b : LB} {s : LV} {spot : Int} {P : Params} {d : Sd} {nt : Nt} {typed : Bool} {g3 : Tok → Value} {v r : Value} {ty : Addr} {K : Value → List (Addr × Obj) → Prop}
/-- a side's node, on a ledger as a side's making keeps it -/
noncomputable def SideNode (P : Params) (b : LB) (spot : Int) (d : Sd) : Value → List (Addr × Obj) → Prop := fun r nw =>
  ∃ mo s ty v, Fz b mo ∧ s.ok ∧ TypeAt P (mo ++ b.R) ty d.form d.sz d.ln d.nu ∧ ValIs P (mo ++ b.R) v ty d.sh ∧ NewNode P (lsd P b s mo) d.sh.op spot (.ref ty) v r nw
/-- a side's tuple, the ledger with it -/
noncomputable def SideK (P : Params) (b : LB) (spot : Int) (typed : Bool) : Value → List (Addr × Obj) → Prop := fun r nw =>
  ∃ tp nd d nt mo s, r = .ref tp ∧ (∀ q ∈ lsd P b s mo, q ∈ nw) ∧ Fz b mo ∧ SideTup P (mo ++ b.R) tp nd spot d nt ∧ (typed = false → d.sh ≠ .typ) ∧ s.ok
theorem sideK_conv (h : SideK P b spot typed r nw) : ∃ nw', SidePost P b.rest b.R b.pl b.fg b.td b.y spot typed r nw' ∧ ∀ q ∈ nw', q ∈ nw := by
  obtain ⟨tp, nd, d, nt, mo, s, e, sub, hz, st, ht, q1, q2, q3⟩ := h
  exact ⟨_, ⟨tp, nd, d, nt, mo, s.i, s.m, s.u1, s.u2, s.np, s.cc, s.t0, e, rfl, hz, st, ht, q1, q2, q3⟩, fun q h => sub q (lsd_mem q h)⟩
theorem Rt.sideNd (hz : Fz b mo) (hs : s.ok) (hT : TypeAt c.w.params (mo ++ b.R) ty d.form d.sz d.ln d.nu) (hv : ValIs c.w.params (mo ++ b.R) v ty d.sh) (h : Rt fi c l news e1 (NewNode c.w.params (lsd c.w.params b s mo) d.sh.op spot (.ref ty) v)) : Rt fi c l news e1 (SideNode c.w.params b spot d) := h.mono fun r nw h => ⟨mo, s, ty, v, hz, hs, hT, hv, h⟩
theorem sideK_of {x : Addr} {w1 w3 : Tok} {g : Value} {D : Addr} (rl : Rel d nt) (hty : typed = false → d.sh ≠ .typ) (h : SideNode P b spot d (.ref x) nw) (ho : ovVal nt.ov g) (lt : ∀ q ∈ nw, q.1 < D) : SideK P b spot typed (.ref D) ((D, tupObj #[.ref x, .str nt.ks w1, g, .str nt.fl w3]) :: nw) := by
  obtain ⟨mo, s, ty, v, hz, hb, hT, hv, x', z, DL, t1, t2, e, rfl, q1, q2, q3⟩ := h
  obtain rfl := Value.ref.inj e
  have hz1 := hz.add (o := W.listOf #[] 0) q1 (.head _) (.tail _ (.head _)) fun q h => .tail _ (.tail _ (List.mem_append_right _ h))
  have hz2 := hz1.add2 (o := nodeDict P z (.str d.sh.op t1) (.int spot t2) (.ref ty) (.ref DL) v (.bool false)) (o' := instObj 60 z.dx) q2 q3 (.tail _ (.head _)) (.tail _ (.tail _ (.head _))) fun q h => .tail _ (.tail _ (.tail _ (List.mem_append_right _ h)))
  have hz3 := hz2.add (o := tupObj #[.ref x, .str nt.ks w1, g, .str nt.fl w3]) lt (.tail _ (.tail _ (.tail _ (.head _)))) (.tail _ (.tail _ (.tail _ (.tail _ (.head _))))) fun q h => .tail _ (.tail _ (.tail _ (.tail _ (.tail _ (List.mem_append_right _ h)))))
  exact ⟨D, x, d, nt, _, s, rfl, mem_lsd (M := [_, _, _, _]), hz3, ⟨w1, w3, g, .head _, ho, ⟨ty, DL, v, ⟨z, t1, t2, .bool false, .tail _ (.head _), .tail _ (.tail _ (.head _))⟩, hT.mono fun q h => .tail _ (.tail _ (.tail _ (.tail _ h))), hv.mono fun q h => .tail _ (.tail _ (.tail _ (.tail _ h)))⟩, rl⟩, hty, hb⟩
/-- the tuple that a side is -/
theorem Bd.side {p9 : Pos} {st : List Stmt} (hK : ∀ v nw, SideK c.w.params b spot typed v nw → K v nw) (rl : Rel d nt) (hty : typed = false → d.sh ≠ .typ) (hn : noStar [e1, e2, e3, e4] = true) (h1 : Rt fi c l news e1 (SideNode c.w.params b spot d)) (h2 : ∀ nw, Ev fi c l nw e2 (sv nt.ks)) (h3 : ∀ nw, Ev fi c l nw e3 g3) (ho : ∀ t, ovVal nt.ov (g3 t)) (h4 : ∀ nw, Ev fi c l nw e4 (sv nt.fl)) : Bd fi c l news (.Return (some (.Tuple [e1, e2, e3, e4] k p)) p9 :: st) K :=
  Bd.ret (Rt.tupF (Rs.cons hn h1 fun r nw h => by
    obtain ⟨x, rfl⟩ : ∃ x, r = .ref x := by
      obtain ⟨mo, s, ty, v, _, _, _, _, x, z, DL, t1, t2, e, _⟩ := h
      exact ⟨x, e⟩
    exact Rs.ev (noStar_tl hn) (h2 _) fun w1 => Rs.ev (noStar_tl (noStar_tl hn)) (h3 _) fun w2 => Rs.ev (noStar_tl (noStar_tl (noStar_tl hn))) (h4 _) fun w3 => Rs.nil ⟨Nat.le_of_ble_eq_true rfl, fun D lt => hK _ _ (sideK_of rl hty h (ho w2) lt)⟩))
end

/-- a call's contract, its news fewer -/
theorem CallOk.conv {w : World} {f : Addr} {k : Nat} {news : List (Addr × Obj)} {vs : List Value} {K1 K : Value → List (Addr × Obj) → Prop} (C : CallOk w f k news vs K1) (hc : ∀ v nw, K1 v nw → ∃ nw', K v nw' ∧ ∀ q ∈ nw', q ∈ nw) : CallOk w f k news vs K := fun _ _ _ _ _ _ _ _ _ _ _ _ _ _ _ _ _ _ _ _ _ B F X N T hk hd hu ret => C.use B F X N T hk hd hu fun r nw h tk F2 N2 hP => by
  obtain ⟨nw', h1, h2⟩ := hc r nw hP
  exact ret r nw' h tk F2 (cb_drop N2 h2) h1
section
variable {fi : Fi} {c : Lc} {l : List (Str × Value)} {news : List (Addr × Obj)} {x z : Str} {e e1 e2 e3 e4 obj : PySem.Expr} {p p1 p2 p3 p4 p5 p6 p7 p8 p9 : Pos} {k k2 n : Nat} {K : Value → List (Addr × Obj) → Prop} {mo : List (Addr × Obj)} {b : LB} {s : LV} {vs : List Value} {ns : List Int} {nf : Nat} {si ln spot : Int} {fo text : Str} {st : List Stmt} {bs : Addr} {ro : Bool} {d : Sd} {tx : Tok}
theorem SC.eI (S : SC c.w.params b vs ns nf) (O : c.Ok k) (g : look l z = some (.ref b.tys)) (ok : okL fi.cs z = true) : Ev fi c l (lsd c.w.params b s mo) (.Attribute (.Name z p1) (Str.ofString "integer") p) (vv (.ref b.y.ti)) := y_evInteger (Ev.name g ok) base_name S.tysAt O
theorem SC.eB (S : SC c.w.params b vs ns nf) (O : c.Ok k) (g : look l z = some (.ref b.tys)) (ok : okL fi.cs z = true) : Ev fi c l (lsd c.w.params b s mo) (.Attribute (.Name z p1) (Str.ofString "boolean") p) (vv (.ref b.y.tb)) := y_evBoolean (Ev.name g ok) base_name S.tysAt O
theorem SC.eC (S : SC c.w.params b vs ns nf) (O : c.Ok k) (g : look l z = some (.ref b.tys)) (ok : okL fi.cs z = true) : Ev fi c l (lsd c.w.params b s mo) (.Attribute (.Name z p1) (Str.ofString "char") p) (vv (.ref b.y.tc)) := y_evChar (Ev.name g ok) base_name S.tysAt O
theorem SC.eM (S : SC c.w.params b vs ns nf) (O : c.Ok k) (g : look l z = some (.ref b.tys)) (ok : okL fi.cs z = true) : Ev fi c l (lsd c.w.params b s mo) (.Attribute (.Name z p1) (Str.ofString "mask") p) (vv (.ref b.y.tm)) := Ev.attr base_name (Ev.name g ok) O.X ao_mask S.own (.tail _ (.head _)) rfl rfl
theorem SC.eY (S : SC c.w.params b vs ns nf) (O : c.Ok k) (g : look l z = some (.ref b.tys)) (ok : okL fi.cs z = true) : Ev fi c l (lsd c.w.params b s mo) (.Attribute (.Name z p1) (Str.ofString "byte") p) (vv (.ref b.y.ty)) := Ev.attr base_name (Ev.name g ok) O.X ao_byte S.own (.tail _ (.head _)) rfl rfl
/-- z = types.new(form, size) -/
theorem Bd.newT (S : SC c.w.params b vs ns nf) (hz : Fz b mo) (hs : s.ok) (O : c.Ok k) (hO : 17 ≤ k) (hk : fi.cs.kind = .function) (g : look l z = some (.ref b.tys)) (okl : okL fi.cs z = true) (okx : okL fi.cs x = true) (hsw : ∀ env, swapsWith (.Call (.Attribute (.Name z p1) (Str.ofString "new") p2) [e1, e2] [] p3) (some (.Name x p4)) p5.line env = pure false) (hn : noStar [e1, e2] = true) (he : ∀ env, eval (.Call (.Attribute (.Name z p1) (Str.ofString "new") p2) [e1, e2] [] p3) env = (do
      let ov ← eval (.Name z p1) env
      standAt p2.atName
      let (f, first) ← holding [ov] (getMethod ov (Str.ofString "new") (do return (← importBound (.Name z p1) env).getD true))
      callWith p3 f first (backTo p3 (starEach [e1, e2] env)) (backToKw p3 (keywordEach [] env)))) (h1 : Ev fi c l (lsd c.w.params b s mo) e1 (sv fo)) (h2 : Ev fi c l (lsd c.w.params b s mo) e2 (iv si))
    (hB : ∀ a mo' (s' : LV), s'.ok → Fz b mo' → TypeAt c.w.params mo' a fo si 0 s'.cc → (∀ q ∈ mo, q ∈ mo') → Bd fi c ((x, .ref a) :: l) (lsd c.w.params b s' mo') st K) : Bd fi c l (lsd c.w.params b s mo) (.Assign [.Name x p4] (.Call (.Attribute (.Name z p1) (Str.ofString "new") p2) [e1, e2] [] p3) p5 :: st) K :=
  Bd.asgR (Post := fun v nw => ∃ a mo' s', v = .ref a ∧ nw = lsd c.w.params b s' mo' ∧ s'.ok ∧ Fz b mo' ∧ TypeAt c.w.params mo' a fo si 0 s'.cc ∧ ∀ q ∈ mo, q ∈ mo') okx hsw (Rt.newT S hz hs O hO hk (Ev.name g okl) hn he h1 h2 fun a mo' s' q1 q2 q3 q4 => ⟨a, mo', s', rfl, rfl, q1, q2, q3, q4⟩) fun v nw h => by
    obtain ⟨a, mo', s', rfl, rfl, q1, q2, q3, q4⟩ := h
    exact hB a mo' s' q1 q2 q3 q4
/-- x = types.new(form, size); x.base = ..; x.length = .. -/
theorem Bd.newA (S : SC c.w.params b vs ns nf) (hz : Fz b mo) (hs : s.ok) (O : c.Ok k) (hO : 17 ≤ k) (hk : fi.cs.kind = .function) (g : look l z = some (.ref b.tys)) (okl : okL fi.cs z = true) (okx : okL fi.cs x = true) (hsw : ∀ env, swapsWith (.Call (.Attribute (.Name z p1) (Str.ofString "new") p2) [e1, e2] [] p3) (some (.Name x p4)) p5.line env = pure false) (hs3 : ∀ env, swapsWith e3 (some (.Attribute (.Name x p6) (Str.ofString "base") p7)) p8.line env = pure false) {q6 q7 q8 : Pos} (hs4 : ∀ env, swapsWith e4 (some (.Attribute (.Name x q6) (Str.ofString "length") q7)) q8.line env = pure false) (hn : noStar [e1, e2] = true) (he : ∀ env, eval (.Call (.Attribute (.Name z p1) (Str.ofString "new") p2) [e1, e2] [] p3) env = (do
      let ov ← eval (.Name z p1) env
      standAt p2.atName
      let (f, first) ← holding [ov] (getMethod ov (Str.ofString "new") (do return (← importBound (.Name z p1) env).getD true))
      callWith p3 f first (backTo p3 (starEach [e1, e2] env)) (backToKw p3 (keywordEach [] env)))) (h1 : Ev fi c l (lsd c.w.params b s mo) e1 (sv fo)) (h2 : Ev fi c l (lsd c.w.params b s mo) e2 (iv si))
    (h3 : ∀ a nw, TysAt c.w.params nw b.tys b.y.tb b.y.tc b.y.ti → Ev fi c ((x, .ref a) :: l) nw e3 (vv (.ref bs))) (h4 : ∀ a nw, Ev fi c ((x, .ref a) :: l) nw e4 (iv ln))
    (hB : ∀ a mo' (s' : LV), s'.ok → Fz b mo' → TypeAt c.w.params mo' a fo si ln s'.cc → Bd fi c ((x, .ref a) :: l) (lsd c.w.params b s' mo') st K) : Bd fi c l (lsd c.w.params b s mo) (.Assign [.Name x p4] (.Call (.Attribute (.Name z p1) (Str.ofString "new") p2) [e1, e2] [] p3) p5 :: .Assign [.Attribute (.Name x p6) (Str.ofString "base") p7] e3 p8 :: .Assign [.Attribute (.Name x q6) (Str.ofString "length") q7] e4 q8 :: st) K :=
  Bd.asgR (Post := fun v nw => ∃ (x : Addr) (zz : TZ) (t1 t2 t3 t : Tok) (s' : LV), v = .ref x ∧ nw = (x, instObj 310 zz.dx) :: (zz.dx, typeDict c.w.params zz (.int s'.cc t1) (.str fo t2) (.int si t3) (.int 0 t)) :: lsd c.w.params b s' mo ∧ s'.ok ∧ (∀ q ∈ lsd c.w.params b s mo, q.1 < zz.dx) ∧ @LT.lt Nat _ zz.dx x) okx hsw (Rt.new S hz O hO hk (Ev.name g okl) hn he h1 h2 fun x zz t1 t2 t3 t s' q0 q1 q2 => ⟨x, zz, t1, t2, t3, t, s', rfl, rfl, q0.1 hs, q1, q2⟩) fun v nw h => by
    obtain ⟨x, zz, t1, t2, t3, t, s', rfl, rfl, q0, q1, q2⟩ := h
    have q3 := lsd_lt (s' := s') q1
    refine Bd.setA (f := vv (.ref bs)) se_base hs3 (h3 x _ ((S.tysAt (mo := mo)).mono fun q h => .tail _ (.tail _ h))) (Ev.name look_hit okx) O.X (.head _) (.tail _ (.head _)) rfl (fun t u => put_base) (fun t u => upd2 q2 q3) (fun _ _ => Nat.le_of_ble_eq_true rfl) fun _ _ => ?_
    refine Bd.setA (f := iv ln) se_length hs4 (h4 x _) (Ev.name look_hit okx) O.X (.head _) (.tail _ (.head _)) rfl (fun t u => put_length) (fun t u => upd2 q2 q3) (fun _ _ => Nat.le_of_ble_eq_true rfl) fun t8 u8 => ?_
    exact Bd.less (hB x ((x, instObj 310 zz.dx) :: (zz.dx, typeDict c.w.params (zz.setB (.ref bs)) (.int s'.cc t1) (.str fo t2) (.int si t3) (.int ln t8)) :: mo) s' q0 (hz.typ q1 q2) (typeAt_of (.head _) (.tail _ (.head _)) rfl)) (mem_lsd (M := [_, _]))
/-- x = Obj(..); x.readonly = .. -/
theorem Bd.held {q6 q7 q8 : Pos} (S : SC c.w.params b vs ns nf) (hz : Fz b mo) (O : c.Ok k) (okx : okL fi.cs x = true) (hsw : ∀ env, swapsWith e1 (some (.Name x p4)) p5.line env = pure false) (hs3 : ∀ env, swapsWith e3 (some (.Attribute (.Name x q6) (Str.ofString "readonly") q7)) q8.line env = pure false) (h1 : Rt fi c l (lsd c.w.params b s mo) e1 (newObj c.w.params (lsd c.w.params b s mo))) (h3 : ∀ a nw, Ev fi c ((x, .ref a) :: l) nw e3 (vv (.bool ro)))
    (hB : ∀ a mo', Fz b mo' → ObjAt c.w.params mo' a ro → (∀ q ∈ mo, q ∈ mo') → Bd fi c ((x, .ref a) :: l) (lsd c.w.params b s mo') st K) : Bd fi c l (lsd c.w.params b s mo) (.Assign [.Name x p4] e1 p5 :: .Assign [.Attribute (.Name x q6) (Str.ofString "readonly") q7] e3 q8 :: st) K :=
  Bd.asgR okx hsw h1 fun v nw h => by
    obtain ⟨x3, zo, rfl, rfl, q1, q2⟩ := h
    refine Bd.setA (f := vv (.bool ro)) se_readonly hs3 (h3 _ _) (Ev.name look_hit okx) O.X (.head _) (.tail _ (.head _)) rfl (fun t u => put_readonly) (fun t u => upd2 q2 q1) (fun _ _ => Nat.le_of_ble_eq_true rfl) fun _ _ => ?_
    exact Bd.less (hB x3 ((x3, instObj 331 zo.dx) :: (zo.dx, objDict c.w.params zo ro) :: mo) (hz.add2 q1 q2 (.head _) (.tail _ (.head _)) fun q h => .tail _ (.tail _ (List.mem_append_right _ h))) (objAt_of (.head _) (.tail _ (.head _)) rfl rfl) fun q h => .tail _ (.tail _ h)) (mem_lsd (M := [_, _]))
/-- const(types.string(len(text) + 1), text, spot) -/
theorem Rt.txt {h : Sh} (S : SC c.w.params b vs ns nf) (hz : Fz b mo) (hs : s.ok) (O : c.Ok k) (hO : 21 ≤ k) (hk : fi.cs.kind = .function) (okc : okG fi.cs (Str.ofString "const") = true) (g : look l z = some (.ref b.tys)) (okl : okL fi.cs z = true) (hn : noStar [.Call (.Attribute (.Name z p1) (Str.ofString "string") p2) [e1] [] p3, e2, e3] = true) (hn1 : noStar [e1] = true) (he : ∀ env, eval (.Call (.Attribute (.Name z p1) (Str.ofString "string") p2) [e1] [] p3) env = (do
      let ov ← eval (.Name z p1) env
      standAt p2.atName
      let (f, first) ← holding [ov] (getMethod ov (Str.ofString "string") (do return (← importBound (.Name z p1) env).getD true))
      callWith p3 f first (backTo p3 (starEach [e1] env)) (backToKw p3 (keywordEach [] env)))) (ho : h.op = Str.ofString "const") (hv : ∀ nw ty, ValIs c.w.params nw (.str text tx) ty h)
    (h1 : Ev fi c l (lsd c.w.params b s mo) e1 (iv si)) (h2 : ∀ nw, Ev fi c l nw e2 (vv (.str text tx))) (h3 : ∀ nw, Ev fi c l nw e3 (iv spot)) :
    Rt fi c l (lsd c.w.params b s mo) (.Call (.Name (Str.ofString "const") p4) [.Call (.Attribute (.Name z p1) (Str.ofString "string") p2) [e1] [] p3, e2, e3] [] p5) (SideNode c.w.params b spot ⟨h, Str.ofString "string", si, si, s.cc + 1⟩) :=
  Rt.callC (k := 12) O (Nat.le_trans (Nat.le_of_ble_eq_true rfl) hO) hk go_const okc hn (Rs.cons (K := StrNew c.w.params b s mo si) hn (Rt.meth (k := 20) me_string (Ev.name g okl) S.own (.tail _ (.head _)) rfl O hO hk hn1 he (Rs.ev hn1 h1 fun t => Rs.nil (string_ok c.w mo b s vs ns nf S hz hs _ t))) fun v nw hh => by
    obtain ⟨x, mo', s', rfl, sub, q1, q2, q3, q4⟩ := hh
    exact Rs.ev (noStar_tl hn) (h2 _) fun _ => Rs.ev (noStar_tl (noStar_tl hn)) (h3 _) fun _ => Rs.nil (CallOk.less ((constF_ok _ _ _ _ _ _).mono fun r nw hr => ⟨mo', s', x, .str text tx, q2, q1, q3.mono fun q h => List.mem_append_left _ h, hv _ _, by rw [ho]; exact hr⟩) sub))
theorem Rs.mono {es : List PySem.Expr} {K1 K2 : List Value → List (Addr × Obj) → Prop} (h : Rs fi c l news es K1) (hK : ∀ vs nw, K1 vs nw → K2 vs nw) : Rs fi c l news es K2 := ⟨fun s A Q F N k => h.h s A Q F N fun vs nw h2 tk2 hP F2 N2 => k vs nw h2 tk2 (hK vs nw hP) F2 N2⟩
/-- x = [..][_law_pick(pool, n)], every item of one kind -/
theorem Bd.pickIn {V : List Int} {es : List PySem.Expr} (S : SC c.w.params b vs ns nf) (okx : okL fi.cs x = true) (hsw : ∀ env, swapsWith (.Subscript (.List es p1) e2 p2) (some (.Name x p4)) p5.line env = pure false) (hs : ∀ D k u, subscripted e2 false (.ref D) (.int k u) = operate [.ref D, .int k u] (getItem (.ref D) (.int k u))) (hl : Rs fi c l (lsd c.w.params b s mo) es fun us nw => us.length ≤ 20 ∧ nw = lsd c.w.params b s mo ∧ (∀ u ∈ us, ∃ i t, u = .int i t ∧ i ∈ V) ∧ ∀ D, (∀ q ∈ nw, q.1 < D) → Rt fi c l ((D, W.listOf us.toArray 0) :: nw) e2 fun v nw2 => ∃ k t s', v = .int k t ∧ s'.ok ∧ 0 ≤ k ∧ k < (us.length : Int) ∧ nw2 = (D, W.listOf us.toArray 0) :: lsd c.w.params b s' mo)
    (hB : ∀ i t (s' : LV), s'.ok → i ∈ V → Bd fi c ((x, .int i t) :: l) (lsd c.w.params b s' mo) st K) : Bd fi c l (lsd c.w.params b s mo) (.Assign [.Name x p4] (.Subscript (.List es p1) e2 p2) p5 :: st) K :=
  Bd.asgR (Post := fun v nw => ∃ i t s', v = .int i t ∧ s'.ok ∧ i ∈ V ∧ ∀ q ∈ lsd c.w.params b s' mo, q ∈ nw) okx hsw (Rt.atList (hl.mono fun us nw h => by
    obtain ⟨h1, rfl, h2, h3⟩ := h
    refine ⟨h1, fun D lt => (h3 D lt).mono fun v nw2 h => ?_⟩
    obtain ⟨k, t, s', rfl, q1, q2, q3, rfl⟩ := h
    refine ⟨k, t, rfl, q2, q3, .head _, fun u hu => ?_⟩
    obtain ⟨i, t9, rfl, hi⟩ := h2 u (List.mem_of_getElem? (by rwa [List.toList_toArray] at hu))
    exact ⟨i, t9, s', rfl, q1, hi, fun q h => .tail _ h⟩) hs) fun v nw h => by
    obtain ⟨i, t, s', rfl, q1, q2, q3⟩ := h
    exact Bd.less (hB i t s' q1 q2) q3
end
noncomputable def lenOf (k : Int) : Int := if Int.fmod k 2 = 0 then 3 else -1
theorem len_at {k : Int} {t1 t2 : Tok} {u : Value} (h : #[Value.int 3 t1, Value.int (-1) t2].toList[(Int.fmod k 2).toNat]? = some u) : ∃ t, u = .int (lenOf k) t := by
  have h1 := fmod_lo k (n := 2) (by decide)
  have h2 := fmod_hi k (n := 2) (by decide)
  unfold lenOf
  by_cases e : Int.fmod k 2 = 0
  · rw [e] at h
    rw [if_pos e]
    exact ⟨t1, (Option.some.inj h).symm⟩
  · have e1 : Int.fmod k 2 = 1 := by omega
    rw [e1] at h
    rw [if_neg e]
    exact ⟨t2, (Option.some.inj h).symm⟩
theorem len_at2 (k : Int) : #[Value.int 3 0, Value.int (-1) 0].toList[(Int.fmod k 2).toNat]? = some (Value.int (lenOf k) 0) := by
  have h1 := fmod_lo k (n := 2) (by decide)
  have h2 := fmod_hi k (n := 2) (by decide)
  unfold lenOf
  by_cases e : Int.fmod k 2 = 0
  · rw [e, if_pos rfl]; rfl
  · have e1 : Int.fmod k 2 = 1 := by omega
    rw [e1, if_neg (by decide)]; rfl
set_option maxHeartbeats 4000000 in
theorem law_sideL (w : World) (b : LB) (s : LV) (vs : List Value) (ns : List Int) (nf : Nat) (S : SC w.params b vs ns nf) (hs : s.ok) (spot : Int) (sp : Tok) (typed : Bool) (K : Value → List (Addr × Obj) → Prop) (hK : ∀ v nw, SideK w.params b spot typed v nw → K v nw) :
    CallOk w 392 30 (lsd w.params b s []) [.ref b.pl, .ref b.tys, .int spot sp, .bool typed] K := by
  k_extra "open"
  have hz0 : Fz b [] := fun q h => nomatch h
  refine Bd.pick S hz0 hs (by decide) ok (Nat.le_of_ble_eq_true rfl) rfl (by decide +kernel) (by decide +kernel) rfl (fun _ => rfl) (by k_extra "evr") Ev.int fun k0 tk0 s1 hs1 hk0 => ?_
  refine Bd.fr5 (x1 := Str.ofString "pool") (x2 := Str.ofString "types") (x3 := Str.ofString "spot") (x4 := Str.ofString "kind") (x5 := Str.ofString "typed") (by k_extra "lk") (by k_extra "lk") (by k_extra "lk") (by k_extra "lk") (by k_extra "lk") fun l0 a1 a2 a3 a4 a5 => ?_
  refine Bd.ifXl (fun l l' nw => nw = lsd c.w.params b s1 [] ∧ look l' (Str.ofString "pool") = some (.ref b.pl) ∧ look l' (Str.ofString "types") = some (.ref b.tys) ∧ look l' (Str.ofString "spot") = some (.int spot sp) ∧ ∃ k t, look l' (Str.ofString "kind") = some (.int k t) ∧ (0 ≤ k ∧ k < 16) ∧ (k = 12 → typed = true)) (Ts.and (b1 := k0 == 12) (b2 := !typed) (by k_extra "ts") fun _ => Ts.and1 (by k_extra "ts")) (fun h => ?_) (fun h => ?_) ?_
  · exact Bx.asg (f := iv 0) (by decide +kernel) (fun _ => rfl) Ev.int fun t => Bx.nil ⟨rfl, by k_extra "lk", by k_extra "lk", by k_extra "lk", 0, t, look_hit, by decide, fun h => absurd h (by decide)⟩
  · refine Bx.nil ⟨rfl, a1, a2, a3, k0, tk0, a4, hk0, fun e => ?_⟩
    subst e
    cases typed with
    | true => rfl
    | false => cases h
  clear a1 a2 a3 a4 a5 hk0
  rintro l1 nw ⟨rfl, g1, g2, g3, k, tk, hk, hkb, hkt⟩
  refine Bd.ifB (by k_extra "ts") (fun h10 => ?_) fun h10 => ?_
  · have hk10 : k < 10 := of_decide_eq_true h10
    refine Bd.newA (bs := b.y.ti) (ln := lenOf k) S hz0 hs1 ok (Nat.le_of_ble_eq_true rfl) rfl g2 (by decide +kernel) (by decide +kernel) (fun _ => rfl) (fun _ => rfl) (fun _ => rfl) rfl (fun _ => rfl) Ev.str Ev.int (fun a nw h => y_evInteger (by k_extra "evr") base_name h ok) (fun a nw => Ev.ofRt (Rt.atList (Rs.ev rfl Ev.int fun _ => Rs.ev rfl (Ev.negI Ev.int) fun _ => Rs.nil ⟨Nat.le_of_ble_eq_true rfl, fun D lt => Rt.ev (Ev.modI (by k_extra "evi") Ev.int (by decide)) fun t9 => ⟨_, t9, rfl, fmod_lo _ (by decide), fmod_hi _ (by decide), .head _, fun u hu => ⟨len_at hu, fun q h => .tail _ h⟩⟩⟩) (fun _ _ _ => by with_unfolding_all rfl))) fun x mo1 s2 hs2 hz1 hAr => ?_
    refine Bd.fr4 (x1 := Str.ofString "types") (x2 := Str.ofString "spot") (x3 := Str.ofString "kind") (x4 := Str.ofString "made") (by k_extra "lk") (by k_extra "lk") (by k_extra "lk") (by k_extra "lk") fun l9 e1 e2 e3 e4 => ?_
    refine Bd.newT S hz1 hs2 ok (Nat.le_of_ble_eq_true rfl) rfl e1 (by decide +kernel) (by decide +kernel) (fun _ => rfl) rfl (fun _ => rfl) Ev.str Ev.int fun x2 mo2 s3 hs3 hz2 hPt sub2 => ?_
    have hAr2 := hAr.mono sub2
    refine Bd.fr5 (x1 := Str.ofString "types") (x2 := Str.ofString "spot") (x3 := Str.ofString "kind") (x4 := Str.ofString "made") (x5 := Str.ofString "pointer_of") (by k_extra "lk") (by k_extra "lk") (by k_extra "lk") (by k_extra "lk") (by k_extra "lk") fun l9 f1 f2 f3 f4 f5 => ?_
    refine Bd.asgR (Post := fun v nw => #[Value.ref b.y.ti, .ref b.y.ti, .ref b.y.tm, .ref b.y.tb, .ref b.y.tc, .ref b.y.ty, .ref x2, .ref x, .ref x, .ref b.y.ti].toList[k.toNat]? = some v ∧ ∀ q ∈ lsd c.w.params b s3 mo2, q ∈ nw) (by decide +kernel) (fun _ => rfl) (Rt.atList (Rs.ev rfl (S.eI ok f1 (by decide +kernel)) fun _ => Rs.ev rfl (S.eI ok f1 (by decide +kernel)) fun _ => Rs.ev rfl (S.eM ok f1 (by decide +kernel)) fun _ => Rs.ev rfl (S.eB ok f1 (by decide +kernel)) fun _ => Rs.ev rfl (S.eC ok f1 (by decide +kernel)) fun _ => Rs.ev rfl (S.eY ok f1 (by decide +kernel)) fun _ => Rs.ev rfl (Ev.name f5 (by decide +kernel)) fun _ => Rs.ev rfl (Ev.name f4 (by decide +kernel)) fun _ => Rs.ev rfl (Ev.name f4 (by decide +kernel)) fun _ => Rs.ev rfl (S.eI ok f1 (by decide +kernel)) fun _ =>
      Rs.nil ⟨Nat.le_of_ble_eq_true rfl, fun D lt => Rt.ev (by k_extra "evi") fun t9 => ⟨k, t9, rfl, hkb.1, hk10, .head _, fun u hu => ⟨hu, fun q h => .tail _ h⟩⟩⟩) (fun _ _ _ => by with_unfolding_all rfl)) ?_
    rintro v9 nw ⟨hv9, sub9⟩
    refine Bd.less ?_ sub9
    clear sub9 sub2 hz1 hAr
    refine Bd.fr3 (x1 := Str.ofString "spot") (x2 := Str.ofString "kind") (x3 := Str.ofString "t") (by k_extra "lk") (by k_extra "lk") (by k_extra "lk") fun l9 j1 j2 j3 => ?_
    refine Bd.held (ro := k == 9) S hz2 ok (by decide +kernel) (fun _ => rfl) (fun _ => rfl) (Rt.callC (k := 10) ok (Nat.le_of_ble_eq_true rfl) rfl go_Obj (by decide +kernel) rfl (Rs.ev rfl Ev.str fun _ => Rs.ev rfl Ev.str fun _ => Rs.ev (f := vv v9) rfl (Ev.name j3 (by decide +kernel)) fun _ => Rs.ev rfl Ev.int fun _ => Rs.nil (obj_cls_ok _ _ _ _ _ _))) (fun a nw => Ev.eqI (by k_extra "evi") Ev.int) fun x3 mo3 hz3 hOb sub3 => ?_
    have hPt' := (hPt.mono sub3).mono (n' := mo3 ++ b.R) fun q h => List.mem_append_left _ h
    have hAr' := (hAr2.mono sub3).mono (n' := mo3 ++ b.R) fun q h => List.mem_append_left _ h
    have hOb' := hOb.mono (n' := mo3 ++ b.R) fun q h => List.mem_append_left _ h
    have hT' := S.hT.mono (n' := mo3 ++ b.R) fun q h => List.mem_append_right _ h
    clear sub3 hz2 hAr2 hPt hOb
    refine Bd.fr4 (x1 := Str.ofString "spot") (x2 := Str.ofString "kind") (x3 := Str.ofString "t") (x4 := Str.ofString "held") (by k_extra "lk") (by k_extra "lk") (by k_extra "lk") (by k_extra "lk") fun l9 n1 n2 n3 n4 => ?_
    refine Bd.asg (f := sv (kindWord k)) (by decide +kernel) (fun _ => rfl) (Ev.frame (x := Str.ofString "kind") (v := .int k tk) n2 fun l9 hk9 => Ev.led fun nw => ⟨fun s Q F N kq => ?_⟩) fun tw => ?_
    · clear hv9 hOb' hPt' hAr' hz3 g1 g2 g3 hkt hT' S hz0
      obtain ⟨w, dp, un, gd, L, cl, outer, E, h₀, A₀, base, loose, mean, mg, mb⟩ := c
      obtain ⟨B, X, T, hd, hu⟩ := ok
      dsimp only [sv] at *
      (k_with "m dict" => (k_here; k_dflt (refine' kdn_int ?kdq ?kdF ?kdN ?kdb ?kda ?kdl ?kde ?kdn ?_; (case kdq => kernel_rfl); (case kdF => k_asm); (case kdN => first | k_asm | exact News.nil); (case kdb => exact Top.nolimit (by k_asm)); (case kda => kernel_rfl); (case kdl => kernel_rfl); (case kde => exact List.cons_ne_nil _ _); (case kdn => exact Nat.le_of_ble_eq_true rfl); intro d' h' o' F' N' l1 lo' hd')))
      change wpAny (model PySem.Challenge.pw_nu0340_01 w) (ktrTop dp un gd _ _ _ _ _ _ _) (eval _ (envX _ _ _ _ _ _)) _ _ _
      k_steps
      all_goals exact kq _ _ _ (by k_asm) (cb_drop (by k_asm) fun q h => .tail _ h)
    refine Bd.ifB (b := k == 1) (by k_extra "ts") (fun h1 => ?_) fun h1 => ?_
    · obtain rfl : k = 1 := by simpa using h1
      obtain rfl := Option.some.inj (show some _ = some v9 from hv9)
      exact Bd.side (d := ⟨.neg, Str.ofString "integer", 4, 0, 4⟩) (nt := ⟨Str.ofString "int", none, Str.ofString "no"⟩) hK (Rel.neg _ _ _) (fun _ h => by cases h) rfl (Rt.sideNd hz3 hs3 hT'.hi rfl (Rt.nd4 ok (Nat.le_of_ble_eq_true rfl) rfl (by decide +kernel) rfl Ev.str (by k_extra "evi") (by k_extra "evr"))) (fun nw => Ev.str) (g3 := vv .none) (fun nw => Ev.none) (fun _ => rfl) fun nw => Ev.str
    cases h9 : (k == 9) with
    | true =>
      rw [h9] at hOb'
      obtain rfl : k = 9 := by simpa using h9
      obtain rfl := Option.some.inj (show some _ = some v9 from hv9)
      exact Bd.side (d := ⟨.var true, Str.ofString "integer", 4, 0, 4⟩) (nt := ⟨Str.ofString "int", none, Str.ofString "read"⟩) hK (Rel.rov _ _ _) (fun _ h => by cases h) rfl (Rt.sideNd hz3 hs3 hT'.hi ⟨_, rfl, hOb'⟩ (Rt.nd5 (v := .ref x3) ok (Nat.le_of_ble_eq_true rfl) rfl (by decide +kernel) rfl Ev.str (by k_extra "evi") (by k_extra "evr") fun nw => Ev.name (by k_extra "lk") (by decide +kernel))) (fun nw => Ev.nameS (y := kindWord 9) (t := tw) (by k_extra "lk") (by decide +kernel)) (g3 := vv .none) (fun nw => Ev.none) (fun _ => rfl) fun nw => Ev.ifT (b := (9 : Int) == 9) (by k_extra "ts") rfl Ev.str
    | false =>
      rw [h9] at hOb'
      obtain ⟨ty7, f7, sz7, ln7, nu7, e7, rl7, at7⟩ := kinds9 (P := c.w.params) (tys := b.tys) (td := b.td) (t3 := 0) (t4 := 0) (v10 := .int (lenOf k) 0) s3.cc s2.cc hkb.1 hk10 (by simpa using h1) (by simpa using h9) hv9 (len_at2 k)
      subst e7
      exact Bd.side (d := ⟨.var false, f7, sz7, ln7, nu7⟩) hK rl7 (fun _ h => by cases h) rfl (Rt.sideNd hz3 hs3 (at7 _ hT' hPt' fun l t e => by cases e; exact hAr') ⟨_, rfl, hOb'⟩ (Rt.nd5 (v := .ref x3) ok (Nat.le_of_ble_eq_true rfl) rfl (by decide +kernel) rfl Ev.str (by k_extra "evi") (by k_extra "evr") fun nw => Ev.name (by k_extra "lk") (by decide +kernel))) (fun nw => by k_extra "evs") (g3 := vv .none) (fun nw => Ev.none) (fun _ => rfl) fun nw => Ev.ifF (b := k == 9) (by k_extra "ts") h9 Ev.str
  refine Bd.ifB (Ts.or (b1 := k == 10) (b2 := k == 11) (by k_extra "ts") fun _ => Ts.or1 (by k_extra "ts")) (fun hlt => ?_) fun hlt => ?_
  · cases h9 : (k == 10) with
    | true =>
      refine Bd.asg (f := sv (Str.ofString "a")) (by decide +kernel) (fun _ => rfl) (Ev.ifT (b := k == 10) (by k_extra "ts") h9 Ev.str) fun tx => ?_
      exact Bd.side (nt := ⟨Str.ofString "letter", some 97, Str.ofString "no"⟩) hK (Rel.letter _ _ _) (fun _ h => by cases h) rfl (Rt.txt (h := .letter) (text := Str.ofString "a") (tx := tx) S hz0 hs1 ok (Nat.le_of_ble_eq_true rfl) rfl (by decide +kernel) (by k_extra "lk") (by decide +kernel) rfl rfl (fun _ => rfl) rfl (fun _ _ => ⟨_, rfl⟩) (Ev.addI (Ev.lenS ok (by decide +kernel) rfl (by k_extra "evs") (by decide)) Ev.int) (fun nw => Ev.name (by k_extra "lk") (by decide +kernel)) fun nw => by k_extra "evi") (fun nw => Ev.ifT (b := k == 10) (by k_extra "ts") h9 Ev.str) (g3 := iv 97) (fun nw => Ev.ifT (b := k == 10) (by k_extra "ts") h9 Ev.int) (fun t => ⟨t, rfl⟩) fun nw => Ev.str
    | false =>
      refine Bd.asg (f := sv (Str.ofString "ab")) (by decide +kernel) (fun _ => rfl) (Ev.ifF (b := k == 10) (by k_extra "ts") h9 Ev.str) fun tx => ?_
      exact Bd.side (nt := ⟨Str.ofString "text", none, Str.ofString "no"⟩) hK (Rel.text _ _ _) (fun _ h => by cases h) rfl (Rt.txt (h := .text) (text := Str.ofString "ab") (tx := tx) S hz0 hs1 ok (Nat.le_of_ble_eq_true rfl) rfl (by decide +kernel) (by k_extra "lk") (by decide +kernel) rfl rfl (fun _ => rfl) rfl (fun _ _ => ⟨_, rfl⟩) (Ev.addI (Ev.lenS ok (by decide +kernel) rfl (by k_extra "evs") (by decide)) Ev.int) (fun nw => Ev.name (by k_extra "lk") (by decide +kernel)) fun nw => by k_extra "evi") (fun nw => Ev.ifF (b := k == 10) (by k_extra "ts") h9 Ev.str) (g3 := vv .none) (fun nw => Ev.ifF (b := k == 10) (by k_extra "ts") h9 Ev.none) (fun _ => rfl) fun nw => Ev.str
  refine Bd.ifB (b := k == 12) (by k_extra "ts") (fun h12 => ?_) fun h12 => ?_
  · have hty := hkt (by simpa using h12)
    refine Bd.asgR (Post := fun v nw => ∃ ty f sz nu mo s, v = .ref ty ∧ Rel ⟨.typ, f, sz, 0, nu⟩ ⟨Str.ofString "type", none, Str.ofString "no"⟩ ∧ Fz b mo ∧ s.ok ∧ TypeAt c.w.params (mo ++ b.R) ty f sz 0 nu ∧ ∀ q ∈ lsd c.w.params b s mo, q ∈ nw) (by decide +kernel) (fun _ => rfl)
      (Rt.atList (Rs.ev rfl (S.eI ok g2 (by decide +kernel)) fun _ => Rs.ev rfl (S.eM ok g2 (by decide +kernel)) fun _ => Rs.ev rfl (S.eB ok g2 (by decide +kernel)) fun _ => Rs.ev rfl (S.eC ok g2 (by decide +kernel)) fun _ => Rs.ev rfl (S.eY ok g2 (by decide +kernel)) fun _ =>
        Rs.cons (K := fun v nw => ∃ x mo s, v = .ref x ∧ nw = lsd c.w.params b s mo ∧ s.ok ∧ Fz b mo ∧ TypeAt c.w.params mo x (Str.ofString "record") 8 0 s.cc) rfl (Rt.newT S hz0 hs1 ok (Nat.le_of_ble_eq_true rfl) rfl (by k_extra "evr") rfl (fun _ => rfl) Ev.str Ev.int fun x mo s q1 q2 q3 _ => ⟨x, mo, s, rfl, rfl, q1, q2, q3⟩) fun v nw h => ?_) (fun _ _ _ => by with_unfolding_all rfl)) ?_
    · obtain ⟨x, mo, s2, rfl, rfl, hs2, hz, q3⟩ := h
      exact Rs.nil ⟨Nat.le_of_ble_eq_true rfl, fun D lt => Rt.pick S (.tail (Nat.ne_of_gt (lt _ (.head _))) (S.updP hz)) (.tail _ S.fig) hs2 (by decide) ok (Nat.le_of_ble_eq_true rfl) rfl (by decide +kernel) rfl (by k_extra "evr") Ev.int fun k8 t8 s3 q4 q5 q6 q7 => ⟨k8, t8, rfl, q7.1, q7.2, .head _, fun u hu => by
        obtain ⟨ty7, f7, sz7, nu7, e7, rl7, at7⟩ := typs6 (P := c.w.params) (tys := b.tys) (td := b.td) s2.cc hu
        exact ⟨ty7, f7, sz7, nu7, mo, s3, e7, rl7, hz, q4, at7 _ (S.hT.mono fun q h => List.mem_append_right _ h) (q3.mono fun q h => List.mem_append_left _ h), fun q h => .tail _ (by rw [lsd, q5, q6] at h; exact h)⟩⟩⟩
    rintro v nw ⟨ty7, f7, sz7, nu7, mo, s2, rfl, rl, hz, hs2, hT, sub⟩
    refine Bd.less ?_ sub
    exact Bd.side (d := ⟨.typ, f7, sz7, 0, nu7⟩) hK rl (fun h => by rw [hty] at h; cases h) rfl (Rt.sideNd hz hs2 hT rfl (Rt.nd5 (v := .ref ty7) ok (Nat.le_of_ble_eq_true rfl) rfl (by decide +kernel) rfl Ev.str (by k_extra "evi") (by k_extra "evr") fun nw => Ev.name (by k_extra "lk") (by decide +kernel))) (fun nw => Ev.str) (g3 := vv .none) (fun nw => Ev.none) (fun _ => rfl) fun nw => Ev.str
  refine Bd.ifB (b := k == 13) (by k_extra "ts") (fun h13 => ?_) fun h13 => ?_
  · refine Bd.pickIn (V := intVals) S (by decide +kernel) (fun _ => rfl) (fun _ _ _ => by with_unfolding_all rfl) (Rs.ev rfl Ev.int fun _ => Rs.ev rfl Ev.int fun _ => Rs.ev rfl Ev.int fun _ => Rs.ev rfl Ev.int fun _ => Rs.ev rfl (Ev.negI Ev.int) fun _ => Rs.ev rfl Ev.int fun _ => Rs.ev rfl Ev.int fun _ => Rs.ev rfl (Ev.subI Ev.pow31' Ev.int) fun _ => Rs.ev rfl (Ev.negI Ev.pow31') fun _ => Rs.nil ⟨Nat.le_of_ble_eq_true rfl, rfl, by repeat (first | exact List.forall_mem_nil _ | refine List.forall_mem_cons.mpr ⟨⟨_, _, rfl, by decide⟩, ?_⟩), fun D lt => Rt.pick S (.tail (Nat.ne_of_gt (lt _ (.head _))) (S.updP hz0)) (.tail _ S.fig) hs1 (by decide) ok (Nat.le_of_ble_eq_true rfl) rfl (by decide +kernel) rfl (by k_extra "evr") Ev.int fun x t s' h1 h2 h3 h4 => ⟨x, t, s', rfl, h1, h4.1, h4.2, by rw [lsd, h2, h3]⟩⟩) fun ix t7 s2 hs2 hix => ?_
    exact Bd.side (d := ⟨.cint ix, Str.ofString "integer", 4, 0, 4⟩) (nt := ⟨Str.ofString "int", some ix, Str.ofString "no"⟩) hK (Rel.cint _ _ _ _ hix) (fun _ h => by cases h) rfl (Rt.sideNd hz0 hs2 S.hT.hi ⟨_, rfl⟩ (Rt.cst ok (Nat.le_of_ble_eq_true rfl) rfl (by decide +kernel) rfl (S.eI ok (by k_extra "lk") (by decide +kernel)) (Ev.name (by k_extra "lk") (by decide +kernel)) (by k_extra "evi"))) (fun nw => Ev.str) (fun nw => Ev.name (v := .int ix t7) (by k_extra "lk") (by decide +kernel)) (fun _ => ⟨_, rfl⟩) fun nw => Ev.str
  refine Bd.ifB (b := k == 14) (by k_extra "ts") (fun h14 => ?_) fun h14 => ?_
  · refine Bd.pickIn (V := setVals) S (by decide +kernel) (fun _ => rfl) (fun _ _ _ => by with_unfolding_all rfl) (Rs.ev rfl Ev.int fun _ => Rs.ev rfl Ev.int fun _ => Rs.ev rfl (Ev.subI Ev.pow32' Ev.int) fun _ => Rs.nil ⟨Nat.le_of_ble_eq_true rfl, rfl, by repeat (first | exact List.forall_mem_nil _ | refine List.forall_mem_cons.mpr ⟨⟨_, _, rfl, by decide⟩, ?_⟩), fun D lt => Rt.pick S (.tail (Nat.ne_of_gt (lt _ (.head _))) (S.updP hz0)) (.tail _ S.fig) hs1 (by decide) ok (Nat.le_of_ble_eq_true rfl) rfl (by decide +kernel) rfl (by k_extra "evr") Ev.int fun x t s' h1 h2 h3 h4 => ⟨x, t, s', rfl, h1, h4.1, h4.2, by rw [lsd, h2, h3]⟩⟩) fun ix t7 s2 hs2 hix => ?_
    exact Bd.side (d := ⟨.cint ix, Str.ofString "set", 4, 0, 5⟩) (nt := ⟨Str.ofString "set", some ix, Str.ofString "no"⟩) hK (Rel.cset _ _ _ _ hix) (fun _ h => by cases h) rfl (Rt.sideNd hz0 hs2 S.hT.hm ⟨_, rfl⟩ (Rt.cst ok (Nat.le_of_ble_eq_true rfl) rfl (by decide +kernel) rfl (S.eM ok (by k_extra "lk") (by decide +kernel)) (Ev.name (by k_extra "lk") (by decide +kernel)) (by k_extra "evi"))) (fun nw => Ev.str) (fun nw => Ev.name (v := .int ix t7) (by k_extra "lk") (by decide +kernel)) (fun _ => ⟨_, rfl⟩) fun nw => Ev.str
  refine Bd.pick S hz0 hs1 (by decide) ok (Nat.le_of_ble_eq_true rfl) rfl (by decide +kernel) (by decide +kernel) rfl (fun _ => rfl) (by k_extra "evr") Ev.int fun x t s2 hs2 hx => ?_
  exact Bd.side (d := ⟨.cint x, Str.ofString "boolean", 1, 0, 1⟩) (nt := ⟨Str.ofString "bool", some x, Str.ofString "no"⟩) hK (Rel.cbool _ _ _ _ (bool_mem hx.1 hx.2)) (fun _ h => by cases h) rfl (Rt.sideNd hz0 hs2 S.hT.hb ⟨_, rfl⟩ (Rt.cst ok (Nat.le_of_ble_eq_true rfl) rfl (by decide +kernel) rfl (S.eB ok (by k_extra "lk") (by decide +kernel)) (Ev.name (by k_extra "lk") (by decide +kernel)) (by k_extra "evi"))) (fun nw => Ev.str) (fun nw => Ev.name (v := .int x t) (by k_extra "lk") (by decide +kernel)) (fun _ => ⟨_, rfl⟩) fun nw => Ev.str
theorem law_side_ok (w : World) (rest R : List (Addr × Obj)) (pl fg : Addr) (i0 m0 : Int) (u1 u2 : Tok) (np : Nat) (vs : List Value) (ns : List Int) (nf : Nat) (tys td : Addr) (y : Y9) (c : Int) (t0 : Tok) (spot : Int) (sp : Tok) (typed : Bool) (hsub : ∀ q ∈ R, q ∈ rest) (hT : TysIs w.params R tys td y) (hf : (fg, W.listOf vs.toArray nf) ∈ rest) (hI : IntsAre vs ns) (hn : ∀ x ∈ ns, 0 ≤ x) (hl : ns.length ≤ 3000) (hi : 0 ≤ i0) (hm : 0 ≤ m0 ∧ m0 < 1009) (hp : ∀ q ∈ rest, q.1 ≠ pl) (hq : ∀ q ∈ rest, q.1 ≠ td) (hne : @Ne Nat pl td) :
    CallOk w 392 30 ((pl, poolObj fg i0 m0 u1 u2 np) :: (td, tysDict w.params y (.int c t0)) :: rest) [.ref pl, .ref tys, .int spot sp, .bool typed] (SidePost w.params rest R pl fg td y spot typed) :=
  (law_sideL w ⟨pl, fg, tys, td, y, rest, R⟩ ⟨i0, m0, u1, u2, np, c, t0⟩ vs ns nf ⟨hsub, hT, hf, hI, hn, hl, hp, hq, hne⟩ ⟨hi, hm⟩ spot sp typed _ fun _ _ h => h).conv fun _ _ => sideK_conv
theorem words_dict_again : True := by
  k_with "m dict" => (k_here; k_dflt (refine' kdn_str ?kdq ?kdF ?kdN ?kdb ?kda ?kdl ?kde ?kdn ?_; (case kdq => kernel_rfl); (case kdF => k_asm); (case kdN => first | k_asm | exact News.nil); (case kdb => exact Top.nolimit (by k_asm)); (case kda => kernel_rfl); (case kdl => kernel_rfl); (case kde => exact List.cons_ne_nil _ _); (case kdn => exact Nat.le_of_ble_eq_true rfl); intro d' h' o' F' N' l1 lo' hd'))
  trivial
theorem LawSt.more {P : Params} {R : List (Addr × Obj)} {pl fg td tys : Addr} {y : Y9} {vs : List Value} {ns : List Int} {nf : Nat} (S : LawSt P R pl fg td tys y vs ns nf) {mo : List (Addr × Obj)} (h1 : ∀ q ∈ mo, @LT.lt Nat _ pl q.1) (h2 : ∀ q ∈ mo, @LT.lt Nat _ td q.1) : LawSt P (mo ++ R) pl fg td tys y vs ns nf :=
  ⟨S.hT.mono fun q h => List.mem_append_right _ h, List.mem_append_right _ S.hf, S.hI, S.hn, S.hl, fun q h => (List.mem_append.mp h).elim (fun h => Nat.ne_of_gt (h1 q h)) (S.hp q), fun q h => (List.mem_append.mp h).elim (fun h => Nat.ne_of_gt (h2 q h)) (S.hq q), S.hne⟩
theorem perm5 {a b c d e : Addr × Obj} {r mo : List (Addr × Obj)} : ∀ q ∈ a :: b :: c :: d :: e :: (mo ++ r), q ∈ mo ++ d :: e :: a :: b :: c :: r := by
  intro q h
  rcases List.mem_cons.mp h with rfl | h
  · exact List.mem_append_right _ (.tail _ (.tail _ (.head _)))
  rcases List.mem_cons.mp h with rfl | h
  · exact List.mem_append_right _ (.tail _ (.tail _ (.tail _ (.head _))))
  rcases List.mem_cons.mp h with rfl | h
  · exact List.mem_append_right _ (.tail _ (.tail _ (.tail _ (.tail _ (.head _)))))
  rcases List.mem_cons.mp h with rfl | h
  · exact List.mem_append_right _ (.head _)
  rcases List.mem_cons.mp h with rfl | h
  · exact List.mem_append_right _ (.tail _ (.head _))
  exact (List.mem_append.mp h).elim (fun h => List.mem_append_left _ h) fun h => List.mem_append_right _ (.tail _ (.tail _ (.tail _ (.tail _ (.tail _ h)))))
theorem perm5' {a b c d e : Addr × Obj} {r : List (Addr × Obj)} : ∀ q ∈ d :: e :: a :: b :: c :: r, q ∈ a :: b :: c :: d :: e :: r := by
  intro q h
  simp only [List.mem_cons] at h ⊢
  rcases h with h | h | h | h | h | h <;> simp [h]
theorem useSide {w : World} {loose : List Str} {mean : ExcName → Option Value} {mg mb : Str → Option Value} {dp un : Nat} {gd : Option (List Code)} {cn : Str} {cs : Scope} {a : Addr} {ccd : Value} {cl : List (Str × Addr)} {outer : List Env} {A₀ : Around} {base h₀ : Heap} {L : Addr} {m : Str → Option Value} {s : Shared}
    {Q E : Value → Shared → Prop} {I C D pl fg td tys : Addr} {oI oC oD : Obj} {i0 m0 : Int} {u1 u2 : Tok} {np : Nat} {c : Int} {t0 : Tok} {y : Y9} {R : List (Addr × Obj)} {vs : List Value} {ns : List Int} {nf : Nat} {spot : Int} {sp : Tok} {typed : Bool}
    (B : Below A₀ base outer h₀) (F : Fr h₀ L s.heap m) (X : (hd.heap_1 w.params).In h₀) (N : News h₀ L s.heap ((I, oI) :: (C, oC) :: (D, oD) :: (pl, poolObj fg i0 m0 u1 u2 np) :: (td, tysDict w.params y (.int c t0)) :: R)) (T : Top VQ loose mean mg mb h₀) (hk : cs.kind = .function)
    (S : LawSt w.params R pl fg td tys y vs ns nf) (off : LCg.Off3 I C D ((pl, poolObj fg i0 m0 u1 u2 np) :: (td, tysDict w.params y (.int c t0)) :: R)) (hi : 0 ≤ i0) (hm0 : 0 ≤ m0) (hm1 : m0 < 1009) (hd : dp + 30 < recursionLimit) (hu : un + 8 * 30 < cLine)
    (ret : ∀ tp nd d nt mo i2 m2 u3 u4 np2 c2 t2 h' tk', Fr h₀ L h' m → News h₀ L h' ((I, oI) :: (C, oC) :: (D, oD) :: (pl, poolObj fg i2 m2 u3 u4 np2) :: (td, tysDict w.params y (.int c2 t2)) :: (mo ++ R)) →
      LawSt w.params (mo ++ R) pl fg td tys y vs ns nf → LCg.Off3 I C D ((pl, poolObj fg i2 m2 u3 u4 np2) :: (td, tysDict w.params y (.int c2 t2)) :: (mo ++ R)) → SideTup w.params (mo ++ R) tp nd spot d nt → (typed = false → d.sh ≠ .typ) → 0 ≤ i2 → 0 ≤ m2 → m2 < 1009 → Q (.ref tp) { s with heap := h', toks := tk' }) :
    wpAny (model PySem.Challenge.pw_nu0340_01 w) (ktrTop dp un gd cn cs L a ccd cl outer) (call (.ref 392) [.ref pl, .ref tys, .int spot sp, .bool typed]) Q E s := by
  obtain ⟨⟨o1, o2, o3⟩, ⟨o4, o5, o6⟩, oR⟩ := off
  have oR' := oR.mem
  refine CallOk.use B F X (cb_drop N perm5') T hk (law_side_ok w ((I, oI) :: (C, oC) :: (D, oD) :: R) R pl fg i0 m0 u1 u2 np vs ns nf tys td y c t0 spot sp typed (fun q h => .tail _ (.tail _ (.tail _ h))) S.hT (.tail _ (.tail _ (.tail _ S.hf))) S.hI S.hn S.hl hi ⟨hm0, hm1⟩
    (List.forall_mem_cons.mpr ⟨Ne.symm o1, List.forall_mem_cons.mpr ⟨Ne.symm o2, List.forall_mem_cons.mpr ⟨Ne.symm o3, S.hp⟩⟩⟩) (List.forall_mem_cons.mpr ⟨Ne.symm o4, List.forall_mem_cons.mpr ⟨Ne.symm o5, List.forall_mem_cons.mpr ⟨Ne.symm o6, S.hq⟩⟩⟩) S.hne) hd hu fun r nw h' tk' F' N' P => ?_
  obtain ⟨tp, nd, d, nt, mo, i2, m2, u3, u4, np2, c2, t2, e, e', fr, st, ht, g1, g2, g3⟩ := P
  subst e; subst e'
  have S' := S.more (mo := mo) (fun q h => (fr q h).2.1) fun q h => (fr q h).2.2
  refine ret tp nd d nt mo i2 m2 u3 u4 np2 c2 t2 h' tk' F' (cb_drop N' perm5) S' ⟨⟨o1, o2, o3⟩, ⟨o4, o5, o6⟩, LCg.Off3.of fun q h => ?_⟩ st ht g1 g2 g3
  rcases List.mem_append.mp h with h | h
  · have f := (fr q h).1
    exact ⟨Nat.ne_of_gt (f _ (.head _)), Nat.ne_of_gt (f _ (.tail _ (.head _))), Nat.ne_of_gt (f _ (.tail _ (.tail _ (.head _))))⟩
  · exact oR' q h
set_option maxHeartbeats 8000000 in
theorem law_v0 {w : World} {loose : List Str} {mean : ExcName → Option Value} {mg mb : Str → Option Value} {dp un : Nat} {gd : Option (List Code)} {a : Addr} {ccd : Value} {cl : List (Str × Addr)} {outer : List Env} {A₀ : Around} {base h₀ : Heap} {L : Addr} {s : Shared} {Q : Flow → Shared → Prop} {E : Value → Shared → Prop} (cx : LawCx w loose mean mg mb dp un outer A₀ base h₀) (l : List (Str × Value)) (R : List (Addr × Obj)) (F : Fr h₀ L s.heap (look l)) (N : News h₀ L s.heap R)
    (x er du tp : Addr) (st : Bool) (pl pl2 : Int) (code code2 : Str) (n : Nat) (t1 t2 : Tok) (ty kd v : Value) (f_told : look l (Str.ofString "told") = some (.ref x)) (f_due : look l (Str.ofString "due") = some (.ref du)) (f_errors : look l (Str.ofString "errors") = some (.ref er)) (f_as_statement : look l (Str.ofString "as_statement") = some (.bool st)) (g1 : NodeAt w.params R x (errOp st) 5 ty kd v) (g2 : ErrAt w.params R er [(pl, code)]) (g3 : (du, W.listOf #[.ref tp] n) ∈ R) (g4 : (tp, tupObj #[.int pl2 t1, .str code2 t2]) ∈ R) (he : pl = pl2 ∧ code = code2) (ret : LawRet h₀ L Q s) : lawWp w dp un gd L a ccd cl outer 16 Q E s := by
  obtain ⟨B, X, T, hd, hu⟩ := cx
  obtain ⟨nz, na, nb, su, n1, n2⟩ := g1
  obtain ⟨de, r, p, k1, k2, e1, e2, nn, tp2, u1, u2, e3, e4⟩ := g2
  cases st
  all_goals simp only [errOp, if_true, if_false, Bool.false_eq_true] at n2
  all_goals (change wpAny (model PySem.Challenge.pw_nu0340_01 _) (ktrTop _ _ _ _ _ _ _ _ _ _) (execs (_ :: _) (envX _ _ _ _ _ _)) _ _ _; k_dflt (skip);  k_steps)
  all_goals (first | exact ret _ _ _ _ (by assumption) (by assumption))
set_option maxHeartbeats 8000000 in
theorem law_dE {w : World} {loose : List Str} {mean : ExcName → Option Value} {mg mb : Str → Option Value} {dp un : Nat} {gd : Option (List Code)} {a : Addr} {ccd : Value} {cl : List (Str × Addr)} {outer : List Env} {A₀ : Around} {base h₀ : Heap} {L : Addr} {s : Shared} {Q : Flow → Shared → Prop} {E : Value → Shared → Prop} (cx : LawCx w loose mean mg mb dp un outer A₀ base h₀) (l : List (Str × Value)) (R : List (Addr × Obj)) (F : Fr h₀ L s.heap (look l)) (N : News h₀ L s.heap R)
    (x er : Addr) (st : Bool) (n : Str) (k : Int) (tk1 tk2 tk3 : Tok) (ty kd v : Value) (hn : n ∈ names16) (f_told : look l (Str.ofString "told") = some (.ref x)) (f_errors : look l (Str.ofString "errors") = some (.ref er)) (f_as_statement : look l (Str.ofString "as_statement") = some (.bool st)) (f_function : look l (Str.ofString "function") = some (.bool (isF n))) (f_least : look l (Str.ofString "least") = some (.int (leastN n) tk1)) (f_most : look l (Str.ofString "most") = some (.int (mostN n) tk2)) (f_many : look l (Str.ofString "many") = some (.int k tk3)) (g1 : NodeAt w.params R x (errOp st) 5 ty kd v) (g2 : ErrAt w.params R er [(5, useCode n k st)]) (hc : (useCode n k st == Str.ofString "") = false) (ret : LawRet h₀ L Q s) : lawWp w dp un gd L a ccd cl outer 14 Q E s := by
  obtain ⟨B, X, T, hd, hu⟩ := cx
  obtain ⟨u1, u2, u3, u4⟩ := use_law (k := k) (st := st) hn
  (k_with "m execs cons" => (k_here; (with_reducible show wpAny _ _ (execs (Stmt.If (PySem.Expr.Compare (PySem.Expr.Attribute (PySem.Expr.Name (Str.ofString "told") _) _ _) _ _ _) _ _ _ :: _) _) _ _ _); first
    | (k_dflt (refine law_v0 ⟨B, X, T, hd, hu⟩ _ _ (by k_asm) (by k_asm) x er _ _ st 5 5 (useCode n k st) _ _ _ _ _ _ _ (by (repeat (first | with_reducible exact look_hit | with_reducible assumption | (apply look_miss; kernel_rfl)))) (by (repeat (first | with_reducible exact look_hit | with_reducible assumption | (apply look_miss; kernel_rfl)))) (by (repeat (first | with_reducible exact look_hit | with_reducible assumption | (apply look_miss; kernel_rfl)))) (by (repeat (first | with_reducible exact look_hit | with_reducible assumption | (apply look_miss; kernel_rfl)))) (NodeAt.mono g1 (by intro p9 h9; repeat (first | exact h9 | apply List.mem_cons_of_mem))) (ErrAt.mono g2 (by intro p9 h9; repeat (first | exact h9 | apply List.mem_cons_of_mem))) (by k_mem) (by k_mem) ⟨rfl, ?_⟩ ret)); first | exact u1 (by assumption) (by assumption) | exact u2 (by assumption) (by assumption) | exact u3 (by assumption) (fun h9 => by simp_all; done)))
  change wpAny (model PySem.Challenge.pw_nu0340_01 _) (ktrTop _ _ _ _ _ _ _ _ _ _) (execs (_ :: _) (envX _ _ _ _ _ _)) _ _ _; k_dflt (skip);  k_steps
  all_goals (first | exact absurd hc (by rw [u4 (by assumption) (by assumption) (by assumption)]; decide))
set_option maxHeartbeats 8000000 in
theorem law_dR {w : World} {loose : List Str} {mean : ExcName → Option Value} {mg mb : Str → Option Value} {dp un : Nat} {gd : Option (List Code)} {a : Addr} {ccd : Value} {cl : List (Str × Addr)} {outer : List Env} {A₀ : Around} {base h₀ : Heap} {L : Addr} {s : Shared} {Q : Flow → Shared → Prop} {E : Value → Shared → Prop} (cx : LawCx w loose mean mg mb dp un outer A₀ base h₀) (l : List (Str × Value)) (R : List (Addr × Obj)) (F : Fr h₀ L s.heap (look l)) (N : News h₀ L s.heap R)
    (x er sl : Addr) (st : Bool) (n : Str) (tn : Tok) (k : Int) (tk1 tk2 tk3 : Tok) (Y : Int × Str) (hb : (isF n == st) = false) (h1 : leastN n ≤ k) (h2 : k ≤ mostN n) (f_told : look l (Str.ofString "told") = some (.ref x)) (f_errors : look l (Str.ofString "errors") = some (.ref er)) (f_as_statement : look l (Str.ofString "as_statement") = some (.bool st)) (f_function : look l (Str.ofString "function") = some (.bool (isF n))) (f_least : look l (Str.ofString "least") = some (.int (leastN n) tk1)) (f_most : look l (Str.ofString "most") = some (.int (mostN n) tk2)) (f_many : look l (Str.ofString "many") = some (.int k tk3)) (f_name : look l (Str.ofString "name") = some (.str n tn)) (f_sides : look l (Str.ofString "sides") = some (.ref sl)) (hF : ∀ R1, (∀ q ∈ R, q ∈ R1) → CallOk w 406 9 R1 [.str n tn, .ref sl] (TupIS R1 Y.1 Y.2)) (hbad : (Y.2 == Str.ofString "") = false → ErrAt w.params R er [(20 + 10 * Y.1, Y.2)] ∧ ∃ ty kd v, NodeAt w.params R x (errOp st) 5 ty kd v) (hgood : (Y.2 == Str.ofString "") = true → ∀ h' tk' du n' l' R', Fr h₀ L h' (look l') → News h₀ L h' R' → (∀ q ∈ R, q ∈ R') → (du, W.listOf #[] n') ∈ R' → look l' (Str.ofString "due") = some (.ref du) → Same dueNames l l' → lawWp w dp un gd L a ccd cl outer 16 Q E { s with heap := h', toks := tk' }) (ret : LawRet h₀ L Q s) : lawWp w dp un gd L a ccd cl outer 14 Q E s := by
  obtain ⟨B, X, T, hd, hu⟩ := cx
  (k_with "m execs cons" => (k_here; (with_reducible show wpAny _ _ (execs (Stmt.If (PySem.Expr.Compare (PySem.Expr.Attribute (PySem.Expr.Name (Str.ofString "told") _) _ _) _ _ _) _ _ _ :: _) _) _ _ _); k_dflt (first
    | (obtain ⟨b1, b2, b3, b4, b5⟩ := hbad (by first | assumption | (simp only [bne, Bool.not_eq_true'] at *; assumption)); exact law_v0 ⟨B, X, T, hd, hu⟩ _ _ (by k_asm) (by k_asm) x er _ _ st _ _ _ _ _ _ _ _ _ _ (by (repeat (first | with_reducible exact look_hit | with_reducible assumption | (apply look_miss; kernel_rfl)))) (by (repeat (first | with_reducible exact look_hit | with_reducible assumption | (apply look_miss; kernel_rfl)))) (by (repeat (first | with_reducible exact look_hit | with_reducible assumption | (apply look_miss; kernel_rfl)))) (by (repeat (first | with_reducible exact look_hit | with_reducible assumption | (apply look_miss; kernel_rfl)))) (NodeAt.mono b5 (by intro p9 h9; repeat (first | exact h9 | apply List.mem_cons_of_mem))) (ErrAt.mono b1 (by intro p9 h9; repeat (first | exact h9 | apply List.mem_cons_of_mem))) (by k_mem) (by k_mem) ⟨rfl, rfl⟩ ret)
    | exact hgood (by first | assumption | (simp only [bne, Bool.not_eq_false'] at *; assumption)) _ _ _ _ _ _ (by k_asm) (by k_asm) (by intro p9 h9; repeat (first | exact h9 | apply List.mem_cons_of_mem)) (by k_mem) (by (repeat (first | with_reducible exact look_hit | with_reducible assumption | (apply look_miss; kernel_rfl)))) (by repeat (first | exact Same.refl | refine Same.push (by decide +kernel) ?_)))))
  (k_with "m call ref" => (k_here; (with_reducible show wpAny _ _ (call (Value.ref 406) [_, _]) _ _ _); k_dflt (apply useT; k_extra "u5"; (focus first | exact rfl | assumption); (focus exact hF _ (by intro p9 h9; repeat (first | exact h9 | apply List.mem_cons_of_mem))); k_extra "u9"); intro tp9 ta9 tb9 h9 tk9 F9 N9; (try k_sweep); (try dsimp only); (try k_fold)))
  change wpAny (model PySem.Challenge.pw_nu0340_01 _) (ktrTop _ _ _ _ _ _ _ _ _ _) (execs (_ :: _) (envX _ _ _ _ _ _)) _ _ _; k_dflt (skip);  k_steps
  all_goals (first | exact absurd h1 (by assumption) | exact absurd h2 (by assumption))
theorem go_law_worked : GlobOk (Str.ofString "_law_worked") (.ref 420) := fun P => ⟨by kernel_rfl, by kernel_rfl⟩
theorem ao_rows : AttrOk 289 (Str.ofString "rows") := fun P => ⟨none, by kernel_rfl, by kernel_rfl, by kernel_rfl, by kernel_rfl⟩
noncomputable def YesK : Value → List (Addr × Obj) → Prop := fun v _ => v = .bool true
theorem lawBd {w : World} {loose : List Str} {mean : ExcName → Option Value} {mg mb : Str → Option Value} {dp un : Nat} {gd : Option (List Code)} {a : Addr} {ccd : Value} {cl : List (Str × Addr)} {outer : List Env} {A₀ : Around} {base h₀ : Heap} {L : Addr} {s : Shared} {Q : Flow → Shared → Prop} {E : Value → Shared → Prop} {n : Nat} (cx : LawCx w loose mean mg mb dp un outer A₀ base h₀) {l : List (Str × Value)} {R : List (Addr × Obj)} (F : Fr h₀ L s.heap (look l)) (N : News h₀ L s.heap R) (ret : LawRet h₀ L Q s)
    (h : ∀ c : Lc, c.w = w → c.Ok 60 → Bd (lawFi a ccd) c l R (lawTail n) YesK) : lawWp w dp un gd L a ccd cl outer n Q E s :=
  (h ⟨w, dp, un, gd, L, cl, outer, E, h₀, A₀, base, loose, mean, mg, mb⟩ rfl ⟨cx.B, cx.X, cx.T, cx.hd, cx.hu⟩).h s Q F N fun v nw h' tk l' hv F' N' => by
    obtain rfl : v = .bool true := hv
    exact ret _ _ _ _ F' N'
section
variable {fi : Fi} {c : Lc} {l : List (Str × Value)} {R : List (Addr × Obj)} {e e1 e2 : PySem.Expr} {p p1 : Pos} {k : Nat} {K : Value → List (Addr × Obj) → Prop} {a er x du : Addr} {ccd : Value} {st : List Stmt} {op n : Str} {ty kd v : Value} {n0 : Nat} {tn : Tok} {b : Bool}
theorem Rt.rows0 (he : Ev fi c l R e (vv (.ref er))) (hb : Base e) (h : ErrAt c.w.params R er []) (O : c.Ok k) : Rt fi c l R (.Attribute e (Str.ofString "rows") p) (IsL R []) := by
  obtain ⟨de, r, p, k1, k2, h1, h2, n, h3⟩ := h
  exact Rt.isL (Ev.attr hb he O.X ao_rows h1 h2 rfl rfl) h3
/-- statements 16, 17: the place, no mark due -/
theorem law_h16 (ok : c.Ok 60) (f_told : look l (Str.ofString "told") = some (.ref x)) (f_due : look l (Str.ofString "due") = some (.ref du)) (no : NodeAt c.w.params R x op 5 ty kd v) (g3 : (du, W.listOf #[] n0) ∈ R) (h : Bd (lawFi a ccd) c l R (lawTail 18) K) : Bd (lawFi a ccd) c l R (lawTail 16) K := by
  show Bd _ _ _ _ (_ :: _ :: _) _
  refine Bd.ifF (show Ts _ _ _ _ _ (5 != 5) from Ts.neI (n_evPlace (Ev.name f_told (okW (by decide +kernel))) base_name no ok) Ev.int) ?_
  exact Bd.ifF (Ts.neL (vs := []) ok (by decide) (Rt.isL (Ev.name f_due (okW (by decide +kernel))) g3) rfl) h
end
set_option maxHeartbeats 2000000 in
/-- statements 18, 19 of a function's case: the form that is due -/
theorem law_h18 {c : Lc} {a : Addr} {ccd : Value} {l : List (Str × Value)} {R : List (Addr × Obj)} {K : Value → List (Addr × Obj) → Prop} {n : Str} {tn : Tok} (ok : c.Ok 60) (f_st : look l (Str.ofString "as_statement") = some (.bool false)) (f_n : look l (Str.ofString "name") = some (.str n tn)) (h : ∀ t, Bd (lawFi a ccd) c ((Str.ofString "form", .str (formN n) t) :: l) R (lawTail 20) K) : Bd (lawFi a ccd) c l R (lawTail 18) K := by
  show Bd _ _ _ _ (_ :: _ :: _) _
  refine Bd.ifF (Ts.name f_st (okW (by decide +kernel))) ?_
  refine Bd.asg (f := sv (formN n)) (okW (by decide +kernel)) (fun _ => rfl) ⟨fun s Q F N k => ?_⟩ h
  obtain ⟨w, dp, un, gd, L, cl, outer, E, h₀, A₀, base, loose, mean, mg, mb⟩ := c
  obtain ⟨B, X, T, hd, hu⟩ := ok
  clear h
  dsimp only [sv] at *
  (k_with "m dict.get" => (k_here; (with_reducible show wpAny _ _ (call (Value.builtin "dict.get") [Value.ref _, Value.str _ _, Value.str _ _]) _ _ _); k_dflt (refine form_get (by k_asm) (by k_mem) (by assumption) (by assumption) ?_; k_whole); intro t9))
  change wpAny (model PySem.Challenge.pw_nu0340_01 w) (ktrTop dp un gd _ _ _ _ _ _ _) (eval _ (envX _ _ _ _ _ _)) _ _ _
  k_steps
  all_goals exact k _ _ _ (by k_asm) (cb_drop (by k_asm) fun q h => .tail _ h)
/-- the law's sides: each a tuple whose node stands at its place -/
inductive SidesAt (P : Params) (R : List (Addr × Obj)) : List Value → List Int → Prop
  | nil : SidesAt P R [] []
  | cons {tp nd : Addr} {u v z : Value} {op : Str} {pl : Int} {ty kd vl : Value} {vs : List Value} {pls : List Int} : (tp, tupObj #[.ref nd, u, v, z]) ∈ R → NodeAt P R nd op pl ty kd vl → SidesAt P R vs pls → SidesAt P R (.ref tp :: vs) (pl :: pls)
inductive KidsAt (P : Params) (R : List (Addr × Obj)) : List Value → List Int → Prop
  | nil : KidsAt P R [] []
  | cons {nd : Addr} {op : Str} {pl : Int} {ty kd vl : Value} {vs : List Value} {pls : List Int} : NodeAt P R nd op pl ty kd vl → KidsAt P R vs pls → KidsAt P R (.ref nd :: vs) (pl :: pls)
section
variable {c : Lc} {a : Addr} {ccd : Value} {l : List (Str × Value)} {R : List (Addr × Obj)} {sc : Scope} {p1 p2 p3 p4 : Pos} {k : Nat}
theorem els_sides (a : Addr) (ccd : Value) (ok : c.Ok 60) {vs : List Value} {pls : List Int} (h : SidesAt c.w.params R vs pls) : ∃ fs, (∀ sc p1 p2 p3 p4 k, okL sc (Str.ofString "side") = true → Els (fun v f => Ec (lawFi a ccd) c R (Str.ofString "side") sc v (.Attribute (.Subscript (.Name (Str.ofString "side") p1) (.Constant (.int 0) k p2) p3) (Str.ofString "place") p4) f) vs fs) ∧ ∀ zs, ValsOf fs zs → IntsAre zs pls := by
  induction h with
  | nil => exact ⟨[], fun _ _ _ _ _ _ _ => .nil, fun zs h => by cases h; exact .nil⟩
  | @cons tp nd u v z op pl ty kd vl vs pls hm hN _ ih =>
    obtain ⟨fs, h1, h2⟩ := ih
    obtain ⟨zn, t1, t2, su, n1, n2⟩ := hN
    exact ⟨vv (.int _ t2) :: fs, fun _ _ _ _ _ _ oks => .cons (Ec.attr base_sub (Ec.item (vs := [.ref nd, u, v, z]) (j := 0) rfl (by decide) (by decide) (Ec.var oks) hm rfl (fun _ => by with_unfolding_all rfl)) ok.X ao_place n1 n2 rfl rfl) (h1 _ _ _ _ _ _ oks), fun zs h => by cases h with | cons h => exact .cons _ _ (h2 _ h)⟩
theorem els_kids (a : Addr) (ccd : Value) (ok : c.Ok 60) {vs : List Value} {pls : List Int} (h : KidsAt c.w.params R vs pls) : ∃ fs, (∀ sc p1 p4, okL sc (Str.ofString "kid") = true → Els (fun v f => Ec (lawFi a ccd) c R (Str.ofString "kid") sc v (.Attribute (.Name (Str.ofString "kid") p1) (Str.ofString "place") p4) f) vs fs) ∧ ∀ zs, ValsOf fs zs → IntsAre zs pls := by
  induction h with
  | nil => exact ⟨[], fun _ _ _ _ => .nil, fun zs h => by cases h; exact .nil⟩
  | cons hN _ ih =>
    obtain ⟨fs, h1, h2⟩ := ih
    obtain ⟨zn, t1, t2, su, n1, n2⟩ := hN
    exact ⟨vv (.int _ t2) :: fs, fun _ _ _ oks => .cons (Ec.attr base_name (Ec.var oks) ok.X ao_place n1 n2 rfl rfl) (h1 _ _ _ oks), fun zs h => by cases h with | cons h => exact .cons _ _ (h2 _ h)⟩
theorem SidesAt.len {P : Params} {R : List (Addr × Obj)} {vs : List Value} {pls : List Int} (h : SidesAt P R vs pls) : vs.length = pls.length := by
  induction h with
  | nil => rfl
  | cons _ _ _ ih => exact congrArg (· + 1) ih
theorem ints_snoc {vs : List Value} {ns : List Int} {i : Int} {t : Tok} (h : IntsAre vs ns) : IntsAre (vs ++ [.int i t]) (ns ++ [i]) := by
  induction h with
  | nil => exact .cons i t .nil
  | cons n u _ ih => exact .cons n u ih
theorem KidsAt.mono {P : Params} {R R1 : List (Addr × Obj)} (s : ∀ q ∈ R, q ∈ R1) {vs : List Value} {pls : List Int} (h : KidsAt P R vs pls) : KidsAt P R1 vs pls := by
  induction h with
  | nil => exact .nil
  | cons hN _ ih => exact .cons (hN.mono s) ih
/-- statement 18: a statement's case -/
theorem law_S {x er sl kd : Addr} {n : Str} {many : Int} {tn t tm : Tok} {n1 n2 : Nat} {vs ks : List Value} {pls pls2 : List Int} {b : Bool} (ok : c.Ok 60) (f_told : look l (Str.ofString "told") = some (.ref x)) (f_errors : look l (Str.ofString "errors") = some (.ref er)) (f_sides : look l (Str.ofString "sides") = some (.ref sl)) (f_st : look l (Str.ofString "as_statement") = some (.bool true)) (f_n : look l (Str.ofString "name") = some (.str n tn)) (f_m : look l (Str.ofString "many") = some (.int many tm))
    (no0 : NodeAt c.w.params R x (Str.ofString "std") 5 .none (.ref kd) (.str n t)) (m0 : (kd, W.listOf ks.toArray n1) ∈ R) (g2 : ErrAt c.w.params R er []) (m1 : (sl, W.listOf vs.toArray n2) ∈ R) (hz : vs.length ≤ 3 ∧ ks.length ≤ 3) (hv : SidesAt c.w.params R vs pls) (hk : KidsAt c.w.params R ks pls2) (hb : (isID n && (many == 1)) = b)
    (hB : (b = false ∧ pls2 = pls) ∨ (b = true ∧ pls2 = pls ++ [5] ∧ ∃ k1 ty kd1 t1, ks.toArray.toList[1]? = some (.ref k1) ∧ NodeAt c.w.params R k1 (Str.ofString "const") 5 ty kd1 (.int 1 t1))) : Bd (lawFi a ccd) c l R (lawTail 18) YesK := by
  show Bd _ _ _ _ (_ :: _) _
  refine Bd.ifB (b := true) (Ts.name f_st (okW (by decide +kernel))) (fun _ => ?_) fun h => by cases h
  refine Bd.ifF (Ts.or0 (Ts.neL (vs := []) ok (by decide) (Rt.rows0 (by k_extra "evr") base_name g2 ok) rfl) (Ts.or1 (Ts.conv (Ts.ne3 ok (by decide) (Rt.t3 rfl (n_evOp (by k_extra "evr") base_name no0 ok) (n_evValue (by k_extra "evr") base_name no0 rfl ok) (n_evType (by k_extra "evr") base_name no0 rfl ok)) (fun nw s => Rt.t3 rfl Ev.str (by k_extra "evs") Ev.none) rfl EqV.strS (b2 := true) (fun _ _ _ _ => EqAt.strS) EqV.none) rfl))) ?_
  obtain ⟨fs, h1, h2⟩ := els_sides a ccd ok hv
  refine Bd.asgComp (vs := vs) rfl (okW (by decide +kernel)) (by k_extra "evr") m1 rfl (by decide +kernel) rfl (by decide +kernel) rfl (fun _ => rfl) (Nat.le_trans hz.1 (Nat.le_of_ble_eq_true rfl)) (h1 _ _ _ _ _ _ (by decide +kernel)) fun D zs hzs => ?_
  have hI := h2 zs hzs
  have hk' := hk.mono (R1 := (D, W.listOf zs.toArray zs.length) :: R) fun q h => .tail _ h
  have no1 := no0.mono (n' := (D, W.listOf zs.toArray zs.length) :: R) fun q h => .tail _ h
  obtain ⟨fs2, h3, h4⟩ := els_kids a ccd ok hk'
  have hzl : zs.length ≤ 3 := by
    rw [hI.length, ← hv.len]
    exact hz.1
  refine Bd.ifB (b := b) (Ts.conv (Ts.and (b1 := isID n) (b2 := many == 1) (by k_extra "ts") fun _ => Ts.and1 (by k_extra "ts")) hb) (fun hb1 => ?_) fun hb0 => ?_
  · obtain ⟨h, _⟩ | ⟨_, rfl, k1, ty1, kd1, t1, hk1, hN1⟩ := hB
    · rw [hb1] at h; cases h
    have hN2 := hN1.mono (n' := (D, W.listOf zs.toArray zs.length) :: R) fun q h => .tail _ h
    have m9 : (kd, W.listOf ks.toArray n1) ∈ (D, W.listOf zs.toArray zs.length) :: R := .tail _ m0
    have hit : ∀ {k p1 p2 p3 p4} l', look l' (Str.ofString "told") = some (.ref x) → Ev (lawFi a ccd) c l' ((D, W.listOf zs.toArray zs.length) :: R) (.Subscript (.Attribute (.Name (Str.ofString "told") p1) (Str.ofString "kids") p2) (.Constant (.int 1) k p3) p4) (vv (.ref k1)) := fun l' hl => Ev.lstN (n_evKids (Ev.name hl (okW (by decide +kernel))) base_name no1 rfl ok) m9 hk1 (by decide) (fun _ => by with_unfolding_all rfl)
    refine Bd.ret (Rt.ev (Ev.andT (Ev.eqIntsL ok (by decide) (Rt.comp (vs := ks) (fs := fs2) (n_evKids (by k_extra "evr") base_name no1 rfl ok) m9 rfl (by decide +kernel) rfl (by decide +kernel) rfl (fun _ => rfl) (Nat.le_trans hz.2 (Nat.le_of_ble_eq_true rfl)) (h3 _ _ _ (by decide +kernel)) fun D2 ws hw => ⟨ws, h4 ws hw, D2, _, rfl, .head _, fun q h => .tail _ h⟩) (fun nw s9 => Rt.mono (Rt.addL (by k_extra "evr") (s9 _ (.head _)) (Nat.le_trans hzl (Nat.le_of_ble_eq_true rfl)) rfl Ev.int) fun v nw2 ⟨t, hL⟩ => ⟨_, ints_snoc hI, hL⟩) rfl) (Ev.andT (Ev.eqS (n_evOp (hit _ (by k_extra "lk")) base_sub hN2 ok) Ev.str) (Ev.and1 (Ev.eqI (Ev.toI (n_evValue (hit _ (by k_extra "lk")) base_sub hN2 rfl ok)) Ev.int)))) fun _ => rfl)
  · obtain ⟨_, rfl⟩ | ⟨h, _⟩ := hB
    · have m9 : (kd, W.listOf ks.toArray n1) ∈ (D, W.listOf zs.toArray zs.length) :: R := .tail _ m0
      exact Bd.ret (Rt.ev (Ev.eqIntsL ok (by decide) (Rt.comp (vs := ks) (fs := fs2) (n_evKids (by k_extra "evr") base_name no1 rfl ok) m9 rfl (by decide +kernel) rfl (by decide +kernel) rfl (fun _ => rfl) (Nat.le_trans hz.2 (Nat.le_of_ble_eq_true rfl)) (h3 _ _ _ (by decide +kernel)) fun D2 ws hw => ⟨ws, h4 ws hw, D2, _, rfl, .head _, fun q h => .tail _ h⟩) (fun nw s9 => Rt.mono (Rt.isL (vs := zs) (by k_extra "evr") (s9 _ (.head _))) fun v nw2 hL => ⟨_, hI, hL⟩) rfl) fun _ => rfl)
    · rw [hb0] at h; cases h
end
section
variable {fi : Fi} {c : Lc} {l : List (Str × Value)} {R : List (Addr × Obj)} {e e1 e2 : PySem.Expr} {p : Pos} {f : Tok → Value} {b : Bool} {K : Value → List (Addr × Obj) → Prop} {a : Addr} {ccd : Value} {n m : Str} {tn t7 : Tok} {x er sl du : Addr}
theorem Ts.isNoneN {p1 : Pos} {k : Nat} (h : Ev fi c l R e (vv .none)) : Ts fi c l R (.Compare e [.Is] [.Constant .none k p1] p) true := Ts.cmp h Ev.none (nomarks rfl) fun _ _ _ _ h => wpAny_is_plain rfl h
theorem Ts.isNoneI {p1 : Pos} {k : Nat} {i : Int} (h : Ev fi c l R e (iv i)) : Ts fi c l R (.Compare e [.Is] [.Constant .none k p1] p) false := Ts.cmp h Ev.none (nomarks rfl) fun _ _ _ _ h => wpAny_is_plain rfl h
theorem Ts.eqSS (h1 : Ev fi c l R e1 (sv n)) (h2 : Ev fi c l R e2 (sv n)) : Ts fi c l R (.Compare e1 [.Eq] [e2] p) true := Ts.conv (Ts.eqS h1 h2) (beq_self_eq_true n)
theorem Ts.neSS (h1 : Ev fi c l R e1 (sv n)) (h2 : Ev fi c l R e2 (sv n)) : Ts fi c l R (.Compare e1 [.NotEq] [e2] p) false := Ts.conv (Ts.neS h1 h2) (bne_self_eq_false n)
/-- statement 20: SIZE -/
theorem law_SIZE {t : Tok} {ti kd ty1 a1 tp : Addr} {v1 v2 v3 kd1 : Value} {n2 : Nat} {sz ln nu szi lni nui pl1 : Int} {op1 g : Str} (ok : c.Ok 60) (f_told : look l (Str.ofString "told") = some (.ref x)) (f_errors : look l (Str.ofString "errors") = some (.ref er)) (f_sides : look l (Str.ofString "sides") = some (.ref sl)) (f_n : look l (Str.ofString "name") = some (.str (Str.ofString "SIZE") tn)) (f_form : look l (Str.ofString "form") = some (.str (Str.ofString "integer") t7))
    (no0 : NodeAt c.w.params R x (Str.ofString "const") 5 (.ref ti) (.ref kd) (.int sz t)) (tyi : TypeAt c.w.params R ti (Str.ofString "integer") szi lni nui) (g2 : ErrAt c.w.params R er []) (m1 : (sl, W.listOf #[.ref tp] n2) ∈ R) (m2 : (tp, tupObj #[.ref a1, v1, v2, v3]) ∈ R) (no1 : NodeAt c.w.params R a1 op1 pl1 (.ref ty1) kd1 (.ref ty1)) (tyk : TypeAt c.w.params R ty1 g sz ln nu) : Bd (lawFi a ccd) c l R (lawTail 20) YesK := by
  show Bd _ _ _ _ (_ :: _) _
  refine Bd.ifR (Ts.eqSS (by k_extra "evs") Ev.str) (fun _ => ?_) fun h => by cases h
  exact Rt.ev (Ev.andT (Ev.eqNilL ok (by decide) (Rt.rows0 (by k_extra "evr") base_name g2 ok)) (Ev.and1 (Ev.eq3 ok (by decide) (Rt.t3 rfl (n_evOp (by k_extra "evr") base_name no0 ok) (Ev.toI (n_evValue (by k_extra "evr") base_name no0 rfl ok)) (t_evForm (n_evType (by k_extra "evr") base_name no0 rfl ok) base_attr tyi ok)) (fun nw s => by
    have m1' := s _ m1
    have m2' := s _ m2
    exact Rt.t3 rfl Ev.str (t_evSize (n_evValue (by k_extra "it") base_sub (no1.mono s) rfl ok) base_attr (tyk.mono s) ok) (by k_extra "evs")) rfl EqV.strS EqV.intS EqV.strS))) fun _ => rfl
theorem law_h20 (ok : c.Ok 60) (f_n : look l (Str.ofString "name") = some (.str n tn)) (q1 : (n == Str.ofString "SIZE") = false) (q2 : (n == Str.ofString "LEN") = false) (q3 : (n == Str.ofString "VAL") = false) (h : Bd (lawFi a ccd) c l R (lawTail 23) K) : Bd (lawFi a ccd) c l R (lawTail 20) K := by
  show Bd _ _ _ _ (_ :: _ :: _ :: _) _
  refine Bd.ifN (Ts.eqS (by k_extra "evs") Ev.str) q1 ?_
  refine Bd.ifN (Ts.eqS (by k_extra "evs") Ev.str) q2 ?_
  exact Bd.ifN (Ts.eqS (by k_extra "evs") Ev.str) q3 h
/-- statement 21: LEN -/
theorem law_LEN {ti kd ty1 a1 tp : Addr} {v1 v2 v3 kd1 vv1 vl : Value} {n2 : Nat} {sz ln nu szi lni nui pl1 : Int} {op op1 g : Str} (ok : c.Ok 60) (f_told : look l (Str.ofString "told") = some (.ref x)) (f_errors : look l (Str.ofString "errors") = some (.ref er)) (f_sides : look l (Str.ofString "sides") = some (.ref sl)) (f_n : look l (Str.ofString "name") = some (.str (Str.ofString "LEN") tn)) (f_form : look l (Str.ofString "form") = some (.str (Str.ofString "integer") t7))
    (no0 : NodeAt c.w.params R x op 5 (.ref ti) (.ref kd) vl) (tyi : TypeAt c.w.params R ti (Str.ofString "integer") szi lni nui) (g2 : ErrAt c.w.params R er []) (m1 : (sl, W.listOf #[.ref tp] n2) ∈ R) (m2 : (tp, tupObj #[.ref a1, v1, v2, v3]) ∈ R) (no1 : NodeAt c.w.params R a1 op1 pl1 (.ref ty1) kd1 vv1) (tyk : TypeAt c.w.params R ty1 g sz ln nu)
    (h : (ln = 3 ∧ op = Str.ofString "const" ∧ ∃ t, vl = .int 3 t) ∨ (ln = -1 ∧ op = Str.ofString "std" ∧ ∃ t, vl = .str (Str.ofString "LEN") t)) : Bd (lawFi a ccd) c l R (lawTail 20) YesK := by
  show Bd _ _ _ _ (_ :: _ :: _) _
  refine Bd.ifN (Ts.eqS (x := Str.ofString "LEN") (by k_extra "evs") Ev.str) (by decide) ?_
  refine Bd.ifB (Ts.eqSS (by k_extra "evs") Ev.str) (fun _ => ?_) fun h => by cases h
  refine Bd.ifF (Ts.or0 (Ts.neL (vs := []) ok (by decide) (Rt.rows0 (by k_extra "evr") base_name g2 ok) rfl) (Ts.or1 (Ts.neSS (t_evForm (n_evType (by k_extra "evr") base_name no0 rfl ok) base_attr tyi ok) (by k_extra "evs")))) ?_
  have T1 : ∀ {k p1 p2 p3 p4 p5 p6 p7 p8 p9}, Ts (lawFi a ccd) c l R (.Compare (.Attribute (.Attribute (.Subscript (.Subscript (.Name (Str.ofString "sides") p1) (.Constant (.int 0) k p2) p3) (.Constant (.int 0) k p4) p5) (Str.ofString "type") p6) (Str.ofString "length") p7) [.Eq] [.Constant (.int 3) k p8] p9) (ln == 3) := Ts.eqI (t_evLength (n_evType (by k_extra "it") base_sub no1 rfl ok) base_attr tyk ok) Ev.int
  obtain ⟨rfl, rfl, t, rfl⟩ | ⟨rfl, rfl, t, rfl⟩ := h
  · exact Bd.ret (Rt.ev (Ev.ifT T1 rfl (Ev.eq2 ok (by decide) (Rt.t2 rfl (n_evOp (by k_extra "evr") base_name no0 ok) (Ev.toI (n_evValue (by k_extra "evr") base_name no0 rfl ok))) (fun nw s => Rt.t2 rfl Ev.str Ev.int) rfl EqV.strS EqV.intS)) fun _ => rfl)
  · exact Bd.ret (Rt.ev (Ev.ifF T1 (by decide) (Ev.eq2 ok (by decide) (Rt.t2 rfl (n_evOp (by k_extra "evr") base_name no0 ok) (Ev.toS (n_evValue (by k_extra "evr") base_name no0 rfl ok))) (fun nw s => Rt.t2 rfl Ev.str Ev.str) rfl EqV.strS EqV.strS)) fun _ => rfl)
/-- statement 23: a side is no number -/
theorem law_N {ty1 kd : Addr} {t tm : Tok} {n1 n2 : Nat} {vs ks : List Value} {bs : List Bool} {sz ln nu : Int} (ok : c.Ok 60) (f_told : look l (Str.ofString "told") = some (.ref x)) (f_errors : look l (Str.ofString "errors") = some (.ref er)) (f_sides : look l (Str.ofString "sides") = some (.ref sl)) (f_n : look l (Str.ofString "name") = some (.str n tn)) (f_form : look l (Str.ofString "form") = some (.str m t7)) (f_m : look l (Str.ofString "many") = some (.int (ks.toArray.size : Nat) tm))
    (no0 : NodeAt c.w.params R x (Str.ofString "std") 5 (.ref ty1) (.ref kd) (.str n t)) (tyi : TypeAt c.w.params R ty1 m sz ln nu) (m0 : (kd, W.listOf ks.toArray n1) ∈ R) (g2 : ErrAt c.w.params R er []) (m1 : (sl, W.listOf vs.toArray n2) ∈ R) (hz : vs.length ≤ 3 ∧ ks.toArray.size ≤ 3)
    (hv : ∀ sc p1 p2 p3 k k2 p5 p6, okL sc (Str.ofString "side") = true → TEls (fun v b => Tc (lawFi a ccd) c R (Str.ofString "side") sc v (.Compare (.Subscript (.Name (Str.ofString "side") p1) (.Constant (.int 2) k p2) p3) [.Is] [.Constant .none k2 p5] p6) b) vs bs) (hb : (cntT bs != 0) = true) : Bd (lawFi a ccd) c l R (lawTail 23) YesK := by
  show Bd _ _ _ _ (_ :: _) _
  refine Bd.ifR (b := true) (Ts.neLx ok (by decide) (Rt.compT (by k_extra "evr") m1 rfl (by decide +kernel) rfl (by decide +kernel) rfl (fun _ => rfl) (Nat.le_trans hz.1 (Nat.le_of_ble_eq_true rfl)) (hv _ _ _ _ _ _ _ _ (by decide +kernel))) hb) (fun _ => ?_) fun h => by cases h
  exact Rt.ev (Ev.andT (Ev.eqNilL ok (by decide) (Rt.rows0 (by k_extra "evr") base_name g2 ok)) (Ev.andT (b := (((ks.toArray.size : Nat) : Int) == ((ks.toArray.size : Nat) : Int))) (Ev.eq3 ok (by decide) (Rt.t3 rfl (n_evOp (by k_extra "evr") base_name no0 ok) (n_evValue (by k_extra "evr") base_name no0 rfl ok) (t_evForm (n_evType (by k_extra "evr") base_name no0 rfl ok) base_attr tyi ok)) (fun nw s => Rt.t3 rfl Ev.str (Ev.nameS f_n (okW (by decide +kernel))) (Ev.nameS f_form (okW (by decide +kernel)))) rfl EqV.strS (b2 := true) (fun _ _ _ _ => EqAt.strS) EqV.strS) (Ev.and1 (Ev.eqI (Ev.lenL ok (okWG (by decide +kernel)) rfl (n_evKids (by k_extra "evr") base_name no0 rfl ok) m0 hz.2) (Ev.nameI f_m (okW (by decide +kernel))))))) fun _ => congrArg Value.bool (beq_self_eq_true _)
end
section
variable {fi : Fi} {c : Lc} {l : List (Str × Value)} {R news : List (Addr × Obj)} {e e1 e2 : PySem.Expr} {p p1 : Pos} {f : Tok → Value} {b : Bool} {K : Value → List (Addr × Obj) → Prop} {a : Addr} {ccd : Value} {n m : Str} {tn t7 : Tok} {x er sl du : Addr} {k : Nat} {i : Int} {z : Str}
theorem Rt.ifT (T : Ts fi c l R e b) (hb : b = true) (h : Rt fi c l R e1 K) : Rt fi c l R (.IfExp e e1 e2 p) K := ⟨fun s Q F N k => by
  subst hb
  exact wpAny_IfExp (T.h s _ F N fun h' tk F' N' => ite_tt (h.h { s with heap := h', toks := tk } _ F' N' k))⟩
theorem Rt.ifF (T : Ts fi c l R e b) (hb : b = false) (h : Rt fi c l R e2 K) : Rt fi c l R (.IfExp e e1 e2 p) K := ⟨fun s Q F N k => by
  subst hb
  exact wpAny_IfExp (T.h s _ F N fun h' tk F' N' => ite_ff (h.h { s with heap := h', toks := tk } _ F' N' k))⟩
noncomputable def IsRow (news : List (Addr × Obj)) (i : Int) (x : Str) (v : Value) (nw : List (Addr × Obj)) : Prop := ∃ a n p t1 t2, v = .ref a ∧ (a, W.listOf #[.ref p] n) ∈ nw ∧ (p, tupObj #[.int i t1, .str x t2]) ∈ nw ∧ ∀ q ∈ news, q ∈ nw
theorem Rt.rows1 (he : Ev fi c l R e (vv (.ref er))) (hb : Base e) (h : ErrAt c.w.params R er [(i, z)]) (O : c.Ok k) : Rt fi c l R (.Attribute e (Str.ofString "rows") p) (IsRow R i z) := by
  obtain ⟨de, r, p, k1, k2, h1, h2, n, tp, t1, t2, h3, h4⟩ := h
  exact Rt.ev (Ev.attr hb he O.X ao_rows h1 h2 rfl rfl) fun _ => ⟨r, n, tp, t1, t2, rfl, h3, h4, fun _ h => h⟩
theorem Rt.rowL {k2 : Nat} (hn : noStar [e1, e2] = true) (h1 : Ev fi c l R e1 (iv i)) (h2 : Ev fi c l R e2 (sv z)) : Rt fi c l R (.List [.Tuple [e1, e2] k2 p1] p) (IsRow R i z) :=
  Rt.list (Rs.cons rfl (Rt.t2 hn h1 h2) fun v nw h => by
    obtain ⟨D, t1, t2, rfl, hm, s⟩ := h
    exact Rs.nil ⟨Nat.le_of_ble_eq_true rfl, fun D2 => ⟨D2, 0, D, t1, t2, rfl, .head _, .tail _ hm, fun q h => .tail _ (s q h)⟩⟩)
theorem Ts.neRowL (O : c.Ok k) (hO : 9 ≤ k) (h1 : Rt fi c l R e1 (IsRow R i z)) (h2 : ∀ nw, (∀ q ∈ R, q ∈ nw) → Rt fi c l nw e2 (IsRow nw i z)) (hm : behindInMarks .NotEq e2 = false) : Ts fi c l R (.Compare e1 [.NotEq] [e2] p) false :=
  Ts.cmpR (K2 := fun v1 v2 nw => IsRow R i z v1 nw ∧ IsRow R i z v2 nw) h1 (fun v nw h => by
    obtain ⟨a, n, p, t1, t2, e, m1, m2, s⟩ := h
    exact (h2 nw s).mono fun v2 nw2 h => by
      obtain ⟨a', n', p', t1', t2', e', m1', m2', s'⟩ := h
      exact ⟨⟨a, n, p, t1, t2, e, s' _ m1, s' _ m2, fun q h => s' q (s q h)⟩, a', n', p', t1', t2', e', m1', m2', fun q h => s' q (s q h)⟩) hm fun v1 v2 nw h => by
    obtain ⟨⟨a, n, p, t1, t2, e, m1, m2, s⟩, a', n', p', t1', t2', e', m1', m2', s'⟩ := h
    refine ⟨s, fun s Q N h => ?_⟩
    subst e; subst e'
    exact neRow N m1 m1' m2 m2' (O.un hO) ⟨rfl, rfl⟩ h
theorem Ts.neNilL (O : c.Ok k) (hO : 9 ≤ k) (h1 : Rt fi c l R e1 (IsL R [])) (h2 : ∀ nw, (∀ q ∈ R, q ∈ nw) → Rt fi c l nw e2 (IsL nw [])) (hm : behindInMarks .NotEq e2 = false) : Ts fi c l R (.Compare e1 [.NotEq] [e2] p) false :=
  Ts.cmpR h1 (two_lists h2) hm fun v1 v2 nw h => by
    obtain ⟨⟨a, n, e1, m1, s1⟩, a2, n2, e2, m2, s2⟩ := h
    refine ⟨s1, fun s Q N h => ?_⟩
    subst e1; subst e2
    exact neNil N m1 m2 (O.un hO) h
theorem Ev.orT {es : List PySem.Expr} (h1 : Ev fi c l R e (vv (.bool true))) : Ev fi c l R (.BoolOp .Or (e :: e2 :: es) p) (vv (.bool true)) := Ev.or (b2 := false) h1 fun h => by cases h
theorem Ev.or0 {es : List PySem.Expr} (h1 : Ev fi c l R e (vv (.bool false))) (h2 : Ev fi c l R (.BoolOp .Or (e2 :: es) p) (vv (.bool b))) : Ev fi c l R (.BoolOp .Or (e :: e2 :: es) p) (vv (.bool b)) := by
  have := Ev.or h1 fun _ => h2
  rwa [Bool.false_or] at this
theorem lcode_is (n : Str) (V : Int) : (if ((n == Str.ofString "CHR") && !(decide (0 ≤ V) && decide (V < 256))) = true then Str.ofString "bad_char" else if ((n == Str.ofString "ABS") && (V == 2147483648)) = true then Str.ofString "constant_overflow" else Str.ofString "") = lcode n V := by
  unfold lcode
  simp only [Bool.and_eq_true, Bool.not_eq_true', Bool.and_eq_false_iff, decide_eq_false_iff_not, beq_iff_eq]
  by_cases h1 : n = Str.ofString "CHR" <;> by_cases h2 : 0 ≤ V ∧ V < 256 <;> simp [h1, h2] <;> omega
theorem Ev.pow31 {k2 : Nat} {p2 p3 : Pos} : Ev fi c l R (.BinOp (.Constant (.int 2) k p1) .Pow (.Constant (.int 31) k2 p2) p3) (iv 2147483648) := Ev.bin Ev.int Ev.int fun _ _ s Q h => Mine.pow31 fun t => h t _
/-- statements 24 to 29: all sides numbers -/
theorem law_K {ty1 : Addr} {t : Tok} {v0 V sz ln nu : Int} {kd : Value} (ok : c.Ok 60) (hv : (lcode n V == Str.ofString "") = true → v0 = V) (g2 : ErrAt c.w.params R er (rowsOf 5 (lcode n V))) (f_told : look l (Str.ofString "told") = some (.ref x)) (f_errors : look l (Str.ofString "errors") = some (.ref er)) (f_sides : look l (Str.ofString "sides") = some (.ref sl)) (f_n : look l (Str.ofString "name") = some (.str n tn)) (f_form : look l (Str.ofString "form") = some (.str m t7))
    (hF : ∀ R1, (∀ q ∈ R, q ∈ R1) → CallOk c.w 420 8 R1 [.str n tn, .ref sl] (Pure R1 fun t => .int V t)) (no0 : NodeAt c.w.params R x (Str.ofString "const") 5 (.ref ty1) kd (.int v0 t)) (tyi : TypeAt c.w.params R ty1 m sz ln nu) : Bd (lawFi a ccd) c l R (lawTail 24) YesK := by
  show Bd _ _ _ _ (_ :: _) _
  refine Bd.asg (f := iv V) (okW (by decide +kernel)) (fun _ => rfl) (Ev.call (k := 8) ok (by decide) rfl go_law_worked (okWG (by decide +kernel)) rfl (Evs.cons (f := vv (.str n tn)) rfl (Ev.name f_n (okW (by decide +kernel))) (Evs.cons rfl (by k_extra "evr") Evs.nil)) (by rintro vs ⟨_, _, rfl, _, _, rfl, rfl⟩; exact hF _ fun _ h => h)) fun tV => ?_
  refine Bd.asg (okW (by decide +kernel)) (fun _ => rfl) Ev.str fun tC => ?_
  refine Bd.ifXl (fun l l' nw => R = nw ∧ (∀ x v, (x == Str.ofString "code") = false → look l x = some v → look l' x = some v) ∧ ∃ t, look l' (Str.ofString "code") = some (.str (if ((n == Str.ofString "ABS") && (V == 2147483648)) = true then Str.ofString "constant_overflow" else Str.ofString "") t)) (Ts.and (b1 := n == Str.ofString "ABS") (b2 := V == 2147483648) (by k_extra "ts") fun _ => Ts.and1 (Ts.eqI (by k_extra "evi") Ev.pow31)) (fun h => ?_) (fun h => ?_) ?_
  · rw [if_pos h]
    exact Bx.asg (okW (by decide +kernel)) (fun _ => rfl) Ev.str fun _ => Bx.nil ⟨rfl, fun x v hx h => look_miss hx h, _, look_hit⟩
  · rw [if_neg (ne_no h)]
    exact Bx.nil ⟨rfl, fun _ _ _ h => h, _, look_hit⟩
  rintro l1 _ ⟨rfl, hl, t1, hc1⟩
  have r1 : look l1 (Str.ofString "told") = some (.ref x) := hl _ _ (by decide) (by k_extra "lk")
  have r2 : look l1 (Str.ofString "errors") = some (.ref er) := hl _ _ (by decide) (by k_extra "lk")
  have r3 : look l1 (Str.ofString "name") = some (.str n tn) := hl _ _ (by decide) (by k_extra "lk")
  have r4 : look l1 (Str.ofString "form") = some (.str m t7) := hl _ _ (by decide) (by k_extra "lk")
  have r5 : look l1 (Str.ofString "value") = some (.int V tV) := hl _ _ (by decide) (by k_extra "lk")
  refine Bd.ifXl (fun l l' nw => R = nw ∧ (∀ x v, (x == Str.ofString "code") = false → look l x = some v → look l' x = some v) ∧ ∃ t, look l' (Str.ofString "code") = some (.str (lcode n V) t)) (Ts.and (b1 := n == Str.ofString "CHR") (b2 := !(decide (0 ≤ V) && decide (V < 256))) (by k_extra "ts") fun _ => Ts.and1 (Ts.not (Ts.range Ev.int (by k_extra "evi") Ev.int))) (fun h => ?_) (fun h => ?_) ?_
  · rw [← lcode_is, if_pos h]
    exact Bx.asg (okW (by decide +kernel)) (fun _ => rfl) Ev.str fun _ => Bx.nil ⟨rfl, fun x v hx h => look_miss hx h, _, look_hit⟩
  · rw [← lcode_is, if_neg (ne_no h)]
    exact Bx.nil ⟨rfl, fun _ _ _ h => h, _, hc1⟩
  rintro l2 _ ⟨rfl, hl2, t2, hc2⟩
  have s1 : look l2 (Str.ofString "told") = some (.ref x) := hl2 _ _ (by decide) r1
  have s2 : look l2 (Str.ofString "errors") = some (.ref er) := hl2 _ _ (by decide) r2
  have s4 : look l2 (Str.ofString "form") = some (.str m t7) := hl2 _ _ (by decide) r4
  have s5 : look l2 (Str.ofString "value") = some (.int V tV) := hl2 _ _ (by decide) r5
  refine Bd.ifF (Ts.or0 ?_ (Ts.or0 (Ts.neSS (n_evOp (by k_extra "evr") base_name no0 ok) Ev.str) (Ts.or1 (Ts.neSS (t_evForm (n_evType (by k_extra "evr") base_name no0 rfl ok) base_attr tyi ok) (by k_extra "evs"))))) ?_
  · cases hC : (lcode n V == Str.ofString "") with
    | true =>
      rw [rowsOf_eq hC] at g2
      exact Ts.neNilL ok (by decide) (Rt.rows0 (by k_extra "evr") base_name g2 ok) (fun nw s => Rt.ifF (Ts.neS (by k_extra "evs") Ev.str) (ne_of_eqt hC) Rt.nilL) rfl
    | false =>
      rw [rowsOf_ne hC] at g2
      exact Ts.neRowL ok (by decide) (Rt.rows1 (by k_extra "evr") base_name g2 ok) (fun nw s => Rt.ifT (Ts.neS (by k_extra "evs") Ev.str) (ne_of_eqf hC) (Rt.rowL rfl Ev.int (by k_extra "evs"))) rfl
  · cases hC : (lcode n V == Str.ofString "") with
    | true =>
      obtain rfl := hv hC
      refine Bd.ret (Rt.ev (Ev.or (Ev.neS (by k_extra "evs") Ev.str) fun _ => Ev.or1 (Ev.eqI (Ev.toI (n_evValue (by k_extra "evr") base_name no0 rfl ok)) (by k_extra "evi"))) fun _ => ?_)
      show Value.bool _ = _
      rw [beq_self_eq_true, Bool.or_true]
    | false =>
      refine Bd.ret (Rt.ev (Ev.or (b2 := true) (Ev.neS (by k_extra "evs") Ev.str) fun h => absurd ((ne_of_eqf hC).symm.trans h) (by decide)) fun _ => ?_)
      show Value.bool _ = _
      rw [Bool.or_true]
end
section
variable {c : Lc} {l : List (Str × Value)} {R : List (Addr × Obj)} {a : Addr} {ccd : Value} {tn t7 : Tok} {x er sl : Addr}
/-- statement 22: VAL -/
theorem law_VAL {ty1 kd a1 tp tp2 a2 : Addr} {n2 : Nat} {v1 v2 v3 w1 w2 w3 tyA kd1 vl : Value} {op op1 g : Str} {pl1 sz ln nu : Int} (ok : c.Ok 60) (f_told : look l (Str.ofString "told") = some (.ref x)) (f_errors : look l (Str.ofString "errors") = some (.ref er)) (f_sides : look l (Str.ofString "sides") = some (.ref sl)) (f_n : look l (Str.ofString "name") = some (.str (Str.ofString "VAL") tn))
    (no0 : NodeAt c.w.params R x op 5 (.ref ty1) (.ref kd) vl) (tyi : TypeAt c.w.params R ty1 g sz ln nu) (g2 : ErrAt c.w.params R er []) (m1 : (sl, W.listOf #[.ref tp, .ref tp2] n2) ∈ R) (m2 : (tp, tupObj #[.ref a1, v1, v2, v3]) ∈ R) (m3 : (tp2, tupObj #[.ref a2, w1, w2, w3]) ∈ R) (no1 : NodeAt c.w.params R a1 op1 pl1 tyA kd1 (.ref ty1)) (hvl : handedIn vl = true)
    (h : (∃ i t5 t, w2 = .int i t5 ∧ op = Str.ofString "const" ∧ vl = .int (lval g i) t) ∨ (w2 = .none ∧ op = Str.ofString "std" ∧ (∃ t, vl = .str (Str.ofString "VAL") t) ∧ ∃ k1 n1 op2 ty2 kd2 vv2, (kd, W.listOf #[.ref k1] n1) ∈ R ∧ NodeAt c.w.params R k1 op2 30 ty2 kd2 vv2)) : Bd (lawFi a ccd) c l R (lawTail 20) YesK := by
  show Bd _ _ _ _ (_ :: _ :: _ :: _) _
  refine Bd.ifN (Ts.eqS (x := Str.ofString "VAL") (by k_extra "evs") Ev.str) (by decide) ?_
  refine Bd.ifN (Ts.eqS (x := Str.ofString "VAL") (by k_extra "evs") Ev.str) (by decide) ?_
  refine Bd.ifB (Ts.eqSS (by k_extra "evs") Ev.str) (fun _ => ?_) fun h => by cases h
  refine Bd.asg (okW (by decide +kernel)) (fun _ => rfl) (n_evValue (by k_extra "it") base_sub no1 rfl ok) fun _ => ?_
  have hw : handedIn w2 = true := by
    obtain ⟨i, t5, t, rfl, _⟩ | ⟨rfl, _⟩ := h <;> rfl
  refine Bd.asg (f := vv w2) (okW (by decide +kernel)) (fun _ => rfl) (by k_extra "it") fun _ => ?_
  refine Bd.ifF (Ts.or0 (Ts.neL (vs := []) ok (by decide) (Rt.rows0 (by k_extra "evr") base_name g2 ok) rfl) (Ts.or1 (Ts.conv (Ts.neI (t_evNumber (n_evType (by k_extra "evr") base_name no0 rfl ok) base_attr tyi ok) (t_evNumber (by k_extra "evr") base_name tyi ok)) (bne_self_eq_false _)))) ?_
  obtain ⟨i, t5, t, rfl, rfl, rfl⟩ | ⟨rfl, rfl, ⟨t, rfl⟩, k1, n1, op2, ty2, kd2, vv2, m0, no2⟩ := h
  · refine Bd.ifT (Ts.notNoneI (by k_extra "evi")) rfl (Bx.asg (f := iv (lval g i)) (okW (by decide +kernel)) (fun _ => rfl) ⟨fun s Q F N k => ?_⟩ fun t6 => Bx.nil ?_)
    · obtain ⟨w, dp, un, gd, L, cl, outer, E, h₀, A₀, base, loose, mean, mg, mb⟩ := c
      obtain ⟨B, X, T, hd, hu⟩ := ok
      obtain ⟨tz, t1, t2⟩ := tyi
      clear g2 no0 no1 m1 m2 m3 f_told f_errors f_sides f_n
      dsimp only [vv, iv] at *
      change wpAny (model PySem.Challenge.pw_nu0340_01 w) (ktrTop dp un gd _ _ _ _ _ _ _) (eval _ (envX _ _ _ _ _ _)) _ _ _
      k_steps
      all_goals exact k _ _ _ (by k_asm) (cb_drop (by k_asm) fun q h => by repeat (first | exact h | apply List.mem_cons_of_mem))
    · refine Bd.ifF (Ts.isNoneI (by k_extra "evi")) ?_
      exact Bd.ret (Rt.ev (Ev.andT (b := lval g i == lval g i) (show Ev _ _ _ _ _ (vv (.bool true)) from Ev.cmp (n_evOp (by k_extra "evr") base_name no0 ok) Ev.str (nomarks rfl) fun _ _ _ _ h => eqSameS h) (Ev.and1 (Ev.eqI (Ev.toI (n_evValue (by k_extra "evr") base_name no0 rfl ok)) (by k_extra "evi")))) fun _ => congrArg Value.bool (beq_self_eq_true _))
  · refine Bd.ifF (Ts.notNoneN (by k_extra "evr")) ?_
    refine Bd.ifR (Ts.isNoneN (by k_extra "evr")) (fun _ => ?_) fun h => by cases h
    exact Rt.ev (Ev.andT (b := (30 : Int) == 30) (Ev.eq2 ok (by decide) (Rt.t2 rfl (n_evOp (by k_extra "evr") base_name no0 ok) (Ev.toS (n_evValue (by k_extra "evr") base_name no0 rfl ok))) (fun nw s => Rt.t2 rfl Ev.str Ev.str) rfl EqV.strS EqV.strS) (Ev.and1 (Ev.eqI (n_evPlace (Ev.lstN (v := .ref k1) (n_evKids (by k_extra "evr") base_name no0 rfl ok) m0 rfl (by decide) (fun _ => by with_unfolding_all rfl)) base_sub no2 ok) Ev.int))) fun _ => rfl
end
section
variable {c : Lc} {l : List (Str × Value)} {R : List (Addr × Obj)} {a : Addr} {ccd : Value} {sl tp nd : Addr} {K : Value → List (Addr × Obj) → Prop} {n2 : Nat} {vs : List Value} {bs : List Bool} {v1 v3 : Value} {i : Int} {t : Tok}
/-- statement 23: all sides numbers -/
theorem law_C (ok : c.Ok 60) (f_sides : look l (Str.ofString "sides") = some (.ref sl)) (m1 : (sl, W.listOf vs.toArray n2) ∈ R) (hz : vs.length ≤ 3)
    (hv : ∀ sc p1 p2 p3 k k2 p5 p6, okL sc (Str.ofString "side") = true → TEls (fun v b => Tc (lawFi a ccd) c R (Str.ofString "side") sc v (.Compare (.Subscript (.Name (Str.ofString "side") p1) (.Constant (.int 2) k p2) p3) [.Is] [.Constant .none k2 p5] p6) b) vs bs) (hb : (cntT bs != 0) = false) (h : Bd (lawFi a ccd) c l R (lawTail 24) K) : Bd (lawFi a ccd) c l R (lawTail 23) K := by
  show Bd _ _ _ _ (_ :: _) _
  exact Bd.ifN (Ts.neLx ok (by decide) (Rt.compT (by k_extra "evr") m1 rfl (by decide +kernel) rfl (by decide +kernel) rfl (fun _ => rfl) (Nat.le_trans hz (Nat.le_of_ble_eq_true rfl)) (hv _ _ _ _ _ _ _ _ (by decide +kernel))) rfl) hb h
theorem tc_none {sc : Scope} {p1 p2 p3 p5 p6 : Pos} {k k2 : Nat} (oks : okL sc (Str.ofString "side") = true) (m : (tp, tupObj #[.ref nd, v1, .none, v3]) ∈ R) : Tc (lawFi a ccd) c R (Str.ofString "side") sc (.ref tp) (.Compare (.Subscript (.Name (Str.ofString "side") p1) (.Constant (.int 2) k p2) p3) [.Is] [.Constant .none k2 p5] p6) true :=
  Tc.isNoneN (Ec.item (vs := [.ref nd, v1, .none, v3]) (j := 2) rfl (by decide) (by decide) (Ec.var oks) m rfl (fun _ => by with_unfolding_all rfl))
theorem tc_int {sc : Scope} {p1 p2 p3 p5 p6 : Pos} {k k2 : Nat} (oks : okL sc (Str.ofString "side") = true) (m : (tp, tupObj #[.ref nd, v1, .int i t, v3]) ∈ R) : Tc (lawFi a ccd) c R (Str.ofString "side") sc (.ref tp) (.Compare (.Subscript (.Name (Str.ofString "side") p1) (.Constant (.int 2) k p2) p3) [.Is] [.Constant .none k2 p5] p6) false :=
  Tc.isNoneI (Ec.item (vs := [.ref nd, v1, .int i t, v3]) (j := 2) rfl (by decide) (by decide) (Ec.var oks) m rfl (fun _ => by with_unfolding_all rfl))
theorem lm {x y : Str} {v u : Value} (h : look l y = some u) (e : (y == x) = false) : look ((x, v) :: l) y = some u := look_miss e h
end
theorem law_wS1 {w : World} {loose : List Str} {mean : ExcName → Option Value} {mg mb : Str → Option Value} {dp un : Nat} {gd : Option (List Code)} {a : Addr} {ccd : Value} {cl : List (Str × Addr)} {outer : List Env} {A₀ : Around} {base h₀ : Heap} {L : Addr} {s : Shared} {Q : Flow → Shared → Prop} {E : Value → Shared → Prop} (cx : LawCx w loose mean mg mb dp un outer A₀ base h₀) (l : List (Str × Value)) (R : List (Addr × Obj)) (F : Fr h₀ L s.heap (look l)) (N : News h₀ L s.heap R)
    (x du er sl k tp a1 : Addr) (n0 n1 n2 : Nat) (tn t tk3 : Tok) (v1 v2 v3 : Value) (n : Str) (op1 : Str) (ty1 kd1 vv1 : Value) (hi : isID n = false) (f_told : look l (Str.ofString "told") = some (.ref x)) (f_due : look l (Str.ofString "due") = some (.ref du)) (f_errors : look l (Str.ofString "errors") = some (.ref er)) (f_sides : look l (Str.ofString "sides") = some (.ref sl)) (f_as_statement : look l (Str.ofString "as_statement") = some (.bool true)) (f_name : look l (Str.ofString "name") = some (.str n tn)) (f_many : look l (Str.ofString "many") = some (.int 1 tk3)) (no0 : NodeAt w.params R x (Str.ofString "std") 5 (.none) (.ref k) (.str n t)) (m0 : (k, W.listOf #[.ref a1] n1) ∈ R) (g3 : (du, W.listOf #[] n0) ∈ R) (g2 : ErrAt w.params R er []) (m1 : (sl, W.listOf #[.ref tp] n2) ∈ R) (m2 : (tp, tupObj #[.ref a1, v1, v2, v3]) ∈ R) (no1 : NodeAt w.params R a1 op1 20 (ty1) (kd1) (vv1)) (ret : LawRet h₀ L Q s) : lawWp w dp un gd L a ccd cl outer 16 Q E s := by
  refine lawBd cx F N ret fun cc hw ok => ?_
  clear F N ret cx
  subst hw
  exact law_h16 ok f_told f_due no0 g3 (law_S (vs := [.ref tp]) (ks := [.ref a1]) (pls := [20]) ok f_told f_errors f_sides f_as_statement f_name f_many no0 m0 g2 m1 ⟨Nat.le_of_ble_eq_true rfl, Nat.le_of_ble_eq_true rfl⟩ (.cons m2 no1 .nil) (.cons no1 .nil) (by rw [hi]; rfl) (.inl ⟨rfl, rfl⟩))
theorem law_wSi {w : World} {loose : List Str} {mean : ExcName → Option Value} {mg mb : Str → Option Value} {dp un : Nat} {gd : Option (List Code)} {a : Addr} {ccd : Value} {cl : List (Str × Addr)} {outer : List Env} {A₀ : Around} {base h₀ : Heap} {L : Addr} {s : Shared} {Q : Flow → Shared → Prop} {E : Value → Shared → Prop} (cx : LawCx w loose mean mg mb dp un outer A₀ base h₀) (l : List (Str × Value)) (R : List (Addr × Obj)) (F : Fr h₀ L s.heap (look l)) (N : News h₀ L s.heap R)
    (x du er sl k tp a1 : Addr) (n0 n1 n2 : Nat) (tn t tk3 : Tok) (v1 v2 v3 : Value) (n : Str) (op1 : Str) (ty1 kd1 vv1 ty2 kd2 : Value) (c : Addr) (tc : Tok) (hi : isID n = true) (f_told : look l (Str.ofString "told") = some (.ref x)) (f_due : look l (Str.ofString "due") = some (.ref du)) (f_errors : look l (Str.ofString "errors") = some (.ref er)) (f_sides : look l (Str.ofString "sides") = some (.ref sl)) (f_as_statement : look l (Str.ofString "as_statement") = some (.bool true)) (f_name : look l (Str.ofString "name") = some (.str n tn)) (f_many : look l (Str.ofString "many") = some (.int 1 tk3)) (no0 : NodeAt w.params R x (Str.ofString "std") 5 (.none) (.ref k) (.str n t)) (m0 : (k, W.listOf #[.ref a1, .ref c] n1) ∈ R) (g3 : (du, W.listOf #[] n0) ∈ R) (g2 : ErrAt w.params R er []) (m1 : (sl, W.listOf #[.ref tp] n2) ∈ R) (m2 : (tp, tupObj #[.ref a1, v1, v2, v3]) ∈ R) (no1 : NodeAt w.params R a1 op1 20 (ty1) (kd1) (vv1)) (no2 : NodeAt w.params R c (Str.ofString "const") 5 (ty2) (kd2) (.int 1 tc)) (ret : LawRet h₀ L Q s) : lawWp w dp un gd L a ccd cl outer 16 Q E s := by
  refine lawBd cx F N ret fun cc hw ok => ?_
  clear F N ret cx
  subst hw
  exact law_h16 ok f_told f_due no0 g3 (law_S (vs := [.ref tp]) (ks := [.ref a1, .ref c]) (pls := [20]) ok f_told f_errors f_sides f_as_statement f_name f_many no0 m0 g2 m1 ⟨Nat.le_of_ble_eq_true rfl, Nat.le_of_ble_eq_true rfl⟩ (.cons m2 no1 .nil) (.cons no1 (.cons no2 .nil)) (by rw [hi]; rfl) (.inr ⟨rfl, rfl, c, _, _, _, rfl, no2⟩))
theorem law_wS2 {w : World} {loose : List Str} {mean : ExcName → Option Value} {mg mb : Str → Option Value} {dp un : Nat} {gd : Option (List Code)} {a : Addr} {ccd : Value} {cl : List (Str × Addr)} {outer : List Env} {A₀ : Around} {base h₀ : Heap} {L : Addr} {s : Shared} {Q : Flow → Shared → Prop} {E : Value → Shared → Prop} (cx : LawCx w loose mean mg mb dp un outer A₀ base h₀) (l : List (Str × Value)) (R : List (Addr × Obj)) (F : Fr h₀ L s.heap (look l)) (N : News h₀ L s.heap R)
    (x du er sl k tp tp2 a1 a2 : Addr) (n0 n1 n2 : Nat) (tn t tk3 : Tok) (v1 v2 v3 w1 w2 w3 : Value) (n : Str) (op1 op2 : Str) (ty1 kd1 vv1 ty2 kd2 vv2 : Value) (f_told : look l (Str.ofString "told") = some (.ref x)) (f_due : look l (Str.ofString "due") = some (.ref du)) (f_errors : look l (Str.ofString "errors") = some (.ref er)) (f_sides : look l (Str.ofString "sides") = some (.ref sl)) (f_as_statement : look l (Str.ofString "as_statement") = some (.bool true)) (f_name : look l (Str.ofString "name") = some (.str n tn)) (f_many : look l (Str.ofString "many") = some (.int 2 tk3)) (no0 : NodeAt w.params R x (Str.ofString "std") 5 (.none) (.ref k) (.str n t)) (m0 : (k, W.listOf #[.ref a1, .ref a2] n1) ∈ R) (g3 : (du, W.listOf #[] n0) ∈ R) (g2 : ErrAt w.params R er []) (m1 : (sl, W.listOf #[.ref tp, .ref tp2] n2) ∈ R) (m2 : (tp, tupObj #[.ref a1, v1, v2, v3]) ∈ R) (m3 : (tp2, tupObj #[.ref a2, w1, w2, w3]) ∈ R) (no1 : NodeAt w.params R a1 op1 20 (ty1) (kd1) (vv1)) (no2 : NodeAt w.params R a2 op2 30 (ty2) (kd2) (vv2)) (ret : LawRet h₀ L Q s) : lawWp w dp un gd L a ccd cl outer 16 Q E s := by
  refine lawBd cx F N ret fun cc hw ok => ?_
  clear F N ret cx
  subst hw
  exact law_h16 ok f_told f_due no0 g3 (law_S (vs := [.ref tp, .ref tp2]) (ks := [.ref a1, .ref a2]) (pls := [20, 30]) ok f_told f_errors f_sides f_as_statement f_name f_many no0 m0 g2 m1 ⟨Nat.le_of_ble_eq_true rfl, Nat.le_of_ble_eq_true rfl⟩ (.cons m2 no1 (.cons m3 no2 .nil)) (.cons no1 (.cons no2 .nil)) (Bool.and_false _) (.inl ⟨rfl, rfl⟩))
theorem law_wSIZE {w : World} {loose : List Str} {mean : ExcName → Option Value} {mg mb : Str → Option Value} {dp un : Nat} {gd : Option (List Code)} {a : Addr} {ccd : Value} {cl : List (Str × Addr)} {outer : List Env} {A₀ : Around} {base h₀ : Heap} {L : Addr} {s : Shared} {Q : Flow → Shared → Prop} {E : Value → Shared → Prop} (cx : LawCx w loose mean mg mb dp un outer A₀ base h₀) (l : List (Str × Value)) (R : List (Addr × Obj)) (F : Fr h₀ L s.heap (look l)) (N : News h₀ L s.heap R)
    (x du er sl k tp a1 : Addr) (n0 n1 n2 : Nat) (tn t tk3 : Tok) (v1 v2 v3 : Value) (sz ln nu szi lni nui : Int) (ti ty1 : Addr) (f : Str) (op1 : Str) (pl1 : Int) (kd1 : Value) (f_told : look l (Str.ofString "told") = some (.ref x)) (f_due : look l (Str.ofString "due") = some (.ref du)) (f_errors : look l (Str.ofString "errors") = some (.ref er)) (f_sides : look l (Str.ofString "sides") = some (.ref sl)) (f_as_statement : look l (Str.ofString "as_statement") = some (.bool false)) (f_name : look l (Str.ofString "name") = some (.str (Str.ofString "SIZE") tn)) (no0 : NodeAt w.params R x (Str.ofString "const") 5 (.ref ti) (.ref k) (.int sz t)) (tyi : TypeAt w.params R ti (Str.ofString "integer") szi lni nui) (g3 : (du, W.listOf #[] n0) ∈ R) (g2 : ErrAt w.params R er []) (m1 : (sl, W.listOf #[.ref tp] n2) ∈ R) (m2 : (tp, tupObj #[.ref a1, v1, v2, v3]) ∈ R) (no1 : NodeAt w.params R a1 op1 pl1 (.ref ty1) (kd1) (.ref ty1)) (tyk : TypeAt w.params R ty1 f sz ln nu) (ret : LawRet h₀ L Q s) : lawWp w dp un gd L a ccd cl outer 16 Q E s := by
  refine lawBd cx F N ret fun cc hw ok => ?_
  clear F N ret cx
  subst hw
  refine law_h16 ok f_told f_due no0 g3 (law_h18 ok f_as_statement f_name fun t7 => ?_)
  rw [show formN (Str.ofString "SIZE") = Str.ofString "integer" by decide]
  exact law_SIZE ok (lm f_told (by decide)) (lm f_errors (by decide)) (lm f_sides (by decide)) (lm f_name (by decide)) look_hit no0 tyi g2 m1 m2 no1 tyk
theorem law_wLEN3 {w : World} {loose : List Str} {mean : ExcName → Option Value} {mg mb : Str → Option Value} {dp un : Nat} {gd : Option (List Code)} {a : Addr} {ccd : Value} {cl : List (Str × Addr)} {outer : List Env} {A₀ : Around} {base h₀ : Heap} {L : Addr} {s : Shared} {Q : Flow → Shared → Prop} {E : Value → Shared → Prop} (cx : LawCx w loose mean mg mb dp un outer A₀ base h₀) (l : List (Str × Value)) (R : List (Addr × Obj)) (F : Fr h₀ L s.heap (look l)) (N : News h₀ L s.heap R)
    (x du er sl k tp a1 : Addr) (n0 n1 n2 : Nat) (tn t tk3 : Tok) (v1 v2 v3 : Value) (sz nu szi lni nui : Int) (ti ty1 : Addr) (f : Str) (op1 : Str) (pl1 : Int) (kd1 vv1 : Value) (f_told : look l (Str.ofString "told") = some (.ref x)) (f_due : look l (Str.ofString "due") = some (.ref du)) (f_errors : look l (Str.ofString "errors") = some (.ref er)) (f_sides : look l (Str.ofString "sides") = some (.ref sl)) (f_as_statement : look l (Str.ofString "as_statement") = some (.bool false)) (f_name : look l (Str.ofString "name") = some (.str (Str.ofString "LEN") tn)) (no0 : NodeAt w.params R x (Str.ofString "const") 5 (.ref ti) (.ref k) (.int 3 t)) (tyi : TypeAt w.params R ti (Str.ofString "integer") szi lni nui) (g3 : (du, W.listOf #[] n0) ∈ R) (g2 : ErrAt w.params R er []) (m1 : (sl, W.listOf #[.ref tp] n2) ∈ R) (m2 : (tp, tupObj #[.ref a1, v1, v2, v3]) ∈ R) (no1 : NodeAt w.params R a1 op1 pl1 (.ref ty1) (kd1) (vv1)) (tyk : TypeAt w.params R ty1 f sz 3 nu) (ret : LawRet h₀ L Q s) : lawWp w dp un gd L a ccd cl outer 16 Q E s := by
  refine lawBd cx F N ret fun cc hw ok => ?_
  clear F N ret cx
  subst hw
  refine law_h16 ok f_told f_due no0 g3 (law_h18 ok f_as_statement f_name fun t7 => ?_)
  rw [show formN (Str.ofString "LEN") = Str.ofString "integer" by decide]
  exact law_LEN ok (lm f_told (by decide)) (lm f_errors (by decide)) (lm f_sides (by decide)) (lm f_name (by decide)) look_hit no0 tyi g2 m1 m2 no1 tyk (.inl ⟨rfl, rfl, _, rfl⟩)
theorem law_wLENn {w : World} {loose : List Str} {mean : ExcName → Option Value} {mg mb : Str → Option Value} {dp un : Nat} {gd : Option (List Code)} {a : Addr} {ccd : Value} {cl : List (Str × Addr)} {outer : List Env} {A₀ : Around} {base h₀ : Heap} {L : Addr} {s : Shared} {Q : Flow → Shared → Prop} {E : Value → Shared → Prop} (cx : LawCx w loose mean mg mb dp un outer A₀ base h₀) (l : List (Str × Value)) (R : List (Addr × Obj)) (F : Fr h₀ L s.heap (look l)) (N : News h₀ L s.heap R)
    (x du er sl k tp a1 : Addr) (n0 n1 n2 : Nat) (tn t tk3 : Tok) (v1 v2 v3 : Value) (sz nu szi lni nui : Int) (ti ty1 : Addr) (f : Str) (op1 : Str) (pl1 : Int) (kd1 vv1 : Value) (f_told : look l (Str.ofString "told") = some (.ref x)) (f_due : look l (Str.ofString "due") = some (.ref du)) (f_errors : look l (Str.ofString "errors") = some (.ref er)) (f_sides : look l (Str.ofString "sides") = some (.ref sl)) (f_as_statement : look l (Str.ofString "as_statement") = some (.bool false)) (f_name : look l (Str.ofString "name") = some (.str (Str.ofString "LEN") tn)) (no0 : NodeAt w.params R x (Str.ofString "std") 5 (.ref ti) (.ref k) (.str (Str.ofString "LEN") t)) (tyi : TypeAt w.params R ti (Str.ofString "integer") szi lni nui) (g3 : (du, W.listOf #[] n0) ∈ R) (g2 : ErrAt w.params R er []) (m1 : (sl, W.listOf #[.ref tp] n2) ∈ R) (m2 : (tp, tupObj #[.ref a1, v1, v2, v3]) ∈ R) (no1 : NodeAt w.params R a1 op1 pl1 (.ref ty1) (kd1) (vv1)) (tyk : TypeAt w.params R ty1 f sz (-1) nu) (ret : LawRet h₀ L Q s) : lawWp w dp un gd L a ccd cl outer 16 Q E s := by
  refine lawBd cx F N ret fun cc hw ok => ?_
  clear F N ret cx
  subst hw
  refine law_h16 ok f_told f_due no0 g3 (law_h18 ok f_as_statement f_name fun t7 => ?_)
  rw [show formN (Str.ofString "LEN") = Str.ofString "integer" by decide]
  exact law_LEN ok (lm f_told (by decide)) (lm f_errors (by decide)) (lm f_sides (by decide)) (lm f_name (by decide)) look_hit no0 tyi g2 m1 m2 no1 tyk (.inr ⟨rfl, rfl, _, rfl⟩)
theorem law_wVALc {w : World} {loose : List Str} {mean : ExcName → Option Value} {mg mb : Str → Option Value} {dp un : Nat} {gd : Option (List Code)} {a : Addr} {ccd : Value} {cl : List (Str × Addr)} {outer : List Env} {A₀ : Around} {base h₀ : Heap} {L : Addr} {s : Shared} {Q : Flow → Shared → Prop} {E : Value → Shared → Prop} (cx : LawCx w loose mean mg mb dp un outer A₀ base h₀) (l : List (Str × Value)) (R : List (Addr × Obj)) (F : Fr h₀ L s.heap (look l)) (N : News h₀ L s.heap R)
    (x du er sl k tp tp2 a1 a2 : Addr) (n0 n1 n2 : Nat) (tn t tk3 : Tok) (v1 v2 v3 w1 w2 w3 : Value) (sz ln nu : Int) (ty1 : Addr) (f : Str) (op1 op2 : Str) (pl1 pl2 : Int) (tyA kd1 : Value) (i : Int) (t5 : Tok) (hw1 : w2 = .int i t5) (f_told : look l (Str.ofString "told") = some (.ref x)) (f_due : look l (Str.ofString "due") = some (.ref du)) (f_errors : look l (Str.ofString "errors") = some (.ref er)) (f_sides : look l (Str.ofString "sides") = some (.ref sl)) (f_as_statement : look l (Str.ofString "as_statement") = some (.bool false)) (f_name : look l (Str.ofString "name") = some (.str (Str.ofString "VAL") tn)) (no0 : NodeAt w.params R x (Str.ofString "const") 5 (.ref ty1) (.ref k) (.int (lval f i) t)) (tyi : TypeAt w.params R ty1 f sz ln nu) (g3 : (du, W.listOf #[] n0) ∈ R) (g2 : ErrAt w.params R er []) (m1 : (sl, W.listOf #[.ref tp, .ref tp2] n2) ∈ R) (m2 : (tp, tupObj #[.ref a1, v1, v2, v3]) ∈ R) (m3 : (tp2, tupObj #[.ref a2, w1, w2, w3]) ∈ R) (no1 : NodeAt w.params R a1 op1 pl1 (tyA) (kd1) (.ref ty1)) (ret : LawRet h₀ L Q s) : lawWp w dp un gd L a ccd cl outer 16 Q E s := by
  refine lawBd cx F N ret fun cc hw ok => ?_
  clear F N ret cx
  subst hw
  refine law_h16 ok f_told f_due no0 g3 (law_h18 ok f_as_statement f_name fun t7 => ?_)
  exact law_VAL ok (lm f_told (by decide)) (lm f_errors (by decide)) (lm f_sides (by decide)) (lm f_name (by decide)) no0 tyi g2 m1 m2 m3 no1 rfl (.inl ⟨_, _, _, hw1, rfl, rfl⟩)
theorem law_wVALs {w : World} {loose : List Str} {mean : ExcName → Option Value} {mg mb : Str → Option Value} {dp un : Nat} {gd : Option (List Code)} {a : Addr} {ccd : Value} {cl : List (Str × Addr)} {outer : List Env} {A₀ : Around} {base h₀ : Heap} {L : Addr} {s : Shared} {Q : Flow → Shared → Prop} {E : Value → Shared → Prop} (cx : LawCx w loose mean mg mb dp un outer A₀ base h₀) (l : List (Str × Value)) (R : List (Addr × Obj)) (F : Fr h₀ L s.heap (look l)) (N : News h₀ L s.heap R)
    (x du er sl k tp tp2 a1 a2 : Addr) (n0 n1 n2 : Nat) (tn t tk3 : Tok) (v1 v2 v3 w1 w2 w3 : Value) (sz ln nu : Int) (ty1 : Addr) (f : Str) (op1 op2 : Str) (pl1 pl2 : Int) (tyA kd1 : Value) (ty2 kd2 vv2 : Value) (hw1 : w2 = .none) (f_told : look l (Str.ofString "told") = some (.ref x)) (f_due : look l (Str.ofString "due") = some (.ref du)) (f_errors : look l (Str.ofString "errors") = some (.ref er)) (f_sides : look l (Str.ofString "sides") = some (.ref sl)) (f_as_statement : look l (Str.ofString "as_statement") = some (.bool false)) (f_name : look l (Str.ofString "name") = some (.str (Str.ofString "VAL") tn)) (no0 : NodeAt w.params R x (Str.ofString "std") 5 (.ref ty1) (.ref k) (.str (Str.ofString "VAL") t)) (m0 : (k, W.listOf #[.ref a2] n1) ∈ R) (tyi : TypeAt w.params R ty1 f sz ln nu) (g3 : (du, W.listOf #[] n0) ∈ R) (g2 : ErrAt w.params R er []) (m1 : (sl, W.listOf #[.ref tp, .ref tp2] n2) ∈ R) (m2 : (tp, tupObj #[.ref a1, v1, v2, v3]) ∈ R) (m3 : (tp2, tupObj #[.ref a2, w1, w2, w3]) ∈ R) (no1 : NodeAt w.params R a1 op1 pl1 (tyA) (kd1) (.ref ty1)) (no2 : NodeAt w.params R a2 op2 30 (ty2) (kd2) (vv2)) (ret : LawRet h₀ L Q s) : lawWp w dp un gd L a ccd cl outer 16 Q E s := by
  refine lawBd cx F N ret fun cc hw ok => ?_
  clear F N ret cx
  subst hw
  refine law_h16 ok f_told f_due no0 g3 (law_h18 ok f_as_statement f_name fun t7 => ?_)
  exact law_VAL ok (lm f_told (by decide)) (lm f_errors (by decide)) (lm f_sides (by decide)) (lm f_name (by decide)) no0 tyi g2 m1 m2 m3 no1 rfl (.inr ⟨hw1, rfl, ⟨_, rfl⟩, _, _, _, _, _, _, m0, no2⟩)
theorem law_wN1 {w : World} {loose : List Str} {mean : ExcName → Option Value} {mg mb : Str → Option Value} {dp un : Nat} {gd : Option (List Code)} {a : Addr} {ccd : Value} {cl : List (Str × Addr)} {outer : List Env} {A₀ : Around} {base h₀ : Heap} {L : Addr} {s : Shared} {Q : Flow → Shared → Prop} {E : Value → Shared → Prop} (cx : LawCx w loose mean mg mb dp un outer A₀ base h₀) (l : List (Str × Value)) (R : List (Addr × Obj)) (F : Fr h₀ L s.heap (look l)) (N : News h₀ L s.heap R)
    (x du er sl k tp a1 : Addr) (n0 n1 n2 : Nat) (tn t tk3 : Tok) (v1 v2 v3 : Value) (n : Str) (q1 : (n == Str.ofString "SIZE") = false) (q2 : (n == Str.ofString "LEN") = false) (q3 : (n == Str.ofString "VAL") = false) (sz ln nu : Int) (ty1 : Addr) (hw1 : v2 = .none) (f_told : look l (Str.ofString "told") = some (.ref x)) (f_due : look l (Str.ofString "due") = some (.ref du)) (f_errors : look l (Str.ofString "errors") = some (.ref er)) (f_sides : look l (Str.ofString "sides") = some (.ref sl)) (f_as_statement : look l (Str.ofString "as_statement") = some (.bool false)) (f_name : look l (Str.ofString "name") = some (.str n tn)) (f_many : look l (Str.ofString "many") = some (.int 1 tk3)) (no0 : NodeAt w.params R x (Str.ofString "std") 5 (.ref ty1) (.ref k) (.str n t)) (tyi : TypeAt w.params R ty1 (formN n) sz ln nu) (m0 : (k, W.listOf #[.ref a1] n1) ∈ R) (g3 : (du, W.listOf #[] n0) ∈ R) (g2 : ErrAt w.params R er []) (m1 : (sl, W.listOf #[.ref tp] n2) ∈ R) (m2 : (tp, tupObj #[.ref a1, v1, v2, v3]) ∈ R) (ret : LawRet h₀ L Q s) : lawWp w dp un gd L a ccd cl outer 16 Q E s := by
  refine lawBd cx F N ret fun cc hw ok => ?_
  clear F N ret cx
  subst hw
  subst hw1
  refine law_h16 ok f_told f_due no0 g3 (law_h18 ok f_as_statement f_name fun t7 => ?_)
  exact law_h20 ok (lm f_name (by decide)) q1 q2 q3 (law_N (vs := [.ref tp]) (ks := [.ref a1]) ok (lm f_told (by decide)) (lm f_errors (by decide)) (lm f_sides (by decide)) (lm f_name (by decide)) look_hit (lm f_many (by decide)) no0 tyi m0 g2 m1 ⟨Nat.le_of_ble_eq_true rfl, Nat.le_of_ble_eq_true rfl⟩ (fun _ _ _ _ _ _ _ _ oks => .cons (tc_none oks m2) .nil) rfl)
theorem law_wN2a {w : World} {loose : List Str} {mean : ExcName → Option Value} {mg mb : Str → Option Value} {dp un : Nat} {gd : Option (List Code)} {a : Addr} {ccd : Value} {cl : List (Str × Addr)} {outer : List Env} {A₀ : Around} {base h₀ : Heap} {L : Addr} {s : Shared} {Q : Flow → Shared → Prop} {E : Value → Shared → Prop} (cx : LawCx w loose mean mg mb dp un outer A₀ base h₀) (l : List (Str × Value)) (R : List (Addr × Obj)) (F : Fr h₀ L s.heap (look l)) (N : News h₀ L s.heap R)
    (x du er sl k tp tp2 a1 a2 : Addr) (n0 n1 n2 : Nat) (tn t tk3 : Tok) (v1 v2 v3 w1 w2 w3 : Value) (n : Str) (q1 : (n == Str.ofString "SIZE") = false) (q2 : (n == Str.ofString "LEN") = false) (q3 : (n == Str.ofString "VAL") = false) (sz ln nu : Int) (ty1 : Addr) (hw1 : v2 = .none) (hw2 : w2 = .none) (f_told : look l (Str.ofString "told") = some (.ref x)) (f_due : look l (Str.ofString "due") = some (.ref du)) (f_errors : look l (Str.ofString "errors") = some (.ref er)) (f_sides : look l (Str.ofString "sides") = some (.ref sl)) (f_as_statement : look l (Str.ofString "as_statement") = some (.bool false)) (f_name : look l (Str.ofString "name") = some (.str n tn)) (f_many : look l (Str.ofString "many") = some (.int 2 tk3)) (no0 : NodeAt w.params R x (Str.ofString "std") 5 (.ref ty1) (.ref k) (.str n t)) (tyi : TypeAt w.params R ty1 (formN n) sz ln nu) (m0 : (k, W.listOf #[.ref a1, .ref a2] n1) ∈ R) (g3 : (du, W.listOf #[] n0) ∈ R) (g2 : ErrAt w.params R er []) (m1 : (sl, W.listOf #[.ref tp, .ref tp2] n2) ∈ R) (m2 : (tp, tupObj #[.ref a1, v1, v2, v3]) ∈ R) (m3 : (tp2, tupObj #[.ref a2, w1, w2, w3]) ∈ R) (ret : LawRet h₀ L Q s) : lawWp w dp un gd L a ccd cl outer 16 Q E s := by
  refine lawBd cx F N ret fun cc hw ok => ?_
  clear F N ret cx
  subst hw
  subst hw1
  subst hw2
  refine law_h16 ok f_told f_due no0 g3 (law_h18 ok f_as_statement f_name fun t7 => ?_)
  exact law_h20 ok (lm f_name (by decide)) q1 q2 q3 (law_N (vs := [.ref tp, .ref tp2]) (ks := [.ref a1, .ref a2]) ok (lm f_told (by decide)) (lm f_errors (by decide)) (lm f_sides (by decide)) (lm f_name (by decide)) look_hit (lm f_many (by decide)) no0 tyi m0 g2 m1 ⟨Nat.le_of_ble_eq_true rfl, Nat.le_of_ble_eq_true rfl⟩ (fun _ _ _ _ _ _ _ _ oks => .cons (tc_none oks m2) (.cons (tc_none oks m3) .nil)) rfl)
theorem law_wN2b {w : World} {loose : List Str} {mean : ExcName → Option Value} {mg mb : Str → Option Value} {dp un : Nat} {gd : Option (List Code)} {a : Addr} {ccd : Value} {cl : List (Str × Addr)} {outer : List Env} {A₀ : Around} {base h₀ : Heap} {L : Addr} {s : Shared} {Q : Flow → Shared → Prop} {E : Value → Shared → Prop} (cx : LawCx w loose mean mg mb dp un outer A₀ base h₀) (l : List (Str × Value)) (R : List (Addr × Obj)) (F : Fr h₀ L s.heap (look l)) (N : News h₀ L s.heap R)
    (x du er sl k tp tp2 a1 a2 : Addr) (n0 n1 n2 : Nat) (tn t tk3 : Tok) (v1 v2 v3 w1 w2 w3 : Value) (n : Str) (q1 : (n == Str.ofString "SIZE") = false) (q2 : (n == Str.ofString "LEN") = false) (q3 : (n == Str.ofString "VAL") = false) (sz ln nu : Int) (ty1 : Addr) (i1 : Int) (t6 : Tok) (hw1 : v2 = .none) (hw2 : w2 = .int i1 t6) (f_told : look l (Str.ofString "told") = some (.ref x)) (f_due : look l (Str.ofString "due") = some (.ref du)) (f_errors : look l (Str.ofString "errors") = some (.ref er)) (f_sides : look l (Str.ofString "sides") = some (.ref sl)) (f_as_statement : look l (Str.ofString "as_statement") = some (.bool false)) (f_name : look l (Str.ofString "name") = some (.str n tn)) (f_many : look l (Str.ofString "many") = some (.int 2 tk3)) (no0 : NodeAt w.params R x (Str.ofString "std") 5 (.ref ty1) (.ref k) (.str n t)) (tyi : TypeAt w.params R ty1 (formN n) sz ln nu) (m0 : (k, W.listOf #[.ref a1, .ref a2] n1) ∈ R) (g3 : (du, W.listOf #[] n0) ∈ R) (g2 : ErrAt w.params R er []) (m1 : (sl, W.listOf #[.ref tp, .ref tp2] n2) ∈ R) (m2 : (tp, tupObj #[.ref a1, v1, v2, v3]) ∈ R) (m3 : (tp2, tupObj #[.ref a2, w1, w2, w3]) ∈ R) (ret : LawRet h₀ L Q s) : lawWp w dp un gd L a ccd cl outer 16 Q E s := by
  refine lawBd cx F N ret fun cc hw ok => ?_
  clear F N ret cx
  subst hw
  subst hw1
  subst hw2
  refine law_h16 ok f_told f_due no0 g3 (law_h18 ok f_as_statement f_name fun t7 => ?_)
  exact law_h20 ok (lm f_name (by decide)) q1 q2 q3 (law_N (vs := [.ref tp, .ref tp2]) (ks := [.ref a1, .ref a2]) ok (lm f_told (by decide)) (lm f_errors (by decide)) (lm f_sides (by decide)) (lm f_name (by decide)) look_hit (lm f_many (by decide)) no0 tyi m0 g2 m1 ⟨Nat.le_of_ble_eq_true rfl, Nat.le_of_ble_eq_true rfl⟩ (fun _ _ _ _ _ _ _ _ oks => .cons (tc_none oks m2) (.cons (tc_int oks m3) .nil)) rfl)
theorem law_wN2c {w : World} {loose : List Str} {mean : ExcName → Option Value} {mg mb : Str → Option Value} {dp un : Nat} {gd : Option (List Code)} {a : Addr} {ccd : Value} {cl : List (Str × Addr)} {outer : List Env} {A₀ : Around} {base h₀ : Heap} {L : Addr} {s : Shared} {Q : Flow → Shared → Prop} {E : Value → Shared → Prop} (cx : LawCx w loose mean mg mb dp un outer A₀ base h₀) (l : List (Str × Value)) (R : List (Addr × Obj)) (F : Fr h₀ L s.heap (look l)) (N : News h₀ L s.heap R)
    (x du er sl k tp tp2 a1 a2 : Addr) (n0 n1 n2 : Nat) (tn t tk3 : Tok) (v1 v2 v3 w1 w2 w3 : Value) (n : Str) (q1 : (n == Str.ofString "SIZE") = false) (q2 : (n == Str.ofString "LEN") = false) (q3 : (n == Str.ofString "VAL") = false) (sz ln nu : Int) (ty1 : Addr) (i1 : Int) (t6 : Tok) (hw1 : v2 = .int i1 t6) (hw2 : w2 = .none) (f_told : look l (Str.ofString "told") = some (.ref x)) (f_due : look l (Str.ofString "due") = some (.ref du)) (f_errors : look l (Str.ofString "errors") = some (.ref er)) (f_sides : look l (Str.ofString "sides") = some (.ref sl)) (f_as_statement : look l (Str.ofString "as_statement") = some (.bool false)) (f_name : look l (Str.ofString "name") = some (.str n tn)) (f_many : look l (Str.ofString "many") = some (.int 2 tk3)) (no0 : NodeAt w.params R x (Str.ofString "std") 5 (.ref ty1) (.ref k) (.str n t)) (tyi : TypeAt w.params R ty1 (formN n) sz ln nu) (m0 : (k, W.listOf #[.ref a1, .ref a2] n1) ∈ R) (g3 : (du, W.listOf #[] n0) ∈ R) (g2 : ErrAt w.params R er []) (m1 : (sl, W.listOf #[.ref tp, .ref tp2] n2) ∈ R) (m2 : (tp, tupObj #[.ref a1, v1, v2, v3]) ∈ R) (m3 : (tp2, tupObj #[.ref a2, w1, w2, w3]) ∈ R) (ret : LawRet h₀ L Q s) : lawWp w dp un gd L a ccd cl outer 16 Q E s := by
  refine lawBd cx F N ret fun cc hw ok => ?_
  clear F N ret cx
  subst hw
  subst hw1
  subst hw2
  refine law_h16 ok f_told f_due no0 g3 (law_h18 ok f_as_statement f_name fun t7 => ?_)
  exact law_h20 ok (lm f_name (by decide)) q1 q2 q3 (law_N (vs := [.ref tp, .ref tp2]) (ks := [.ref a1, .ref a2]) ok (lm f_told (by decide)) (lm f_errors (by decide)) (lm f_sides (by decide)) (lm f_name (by decide)) look_hit (lm f_many (by decide)) no0 tyi m0 g2 m1 ⟨Nat.le_of_ble_eq_true rfl, Nat.le_of_ble_eq_true rfl⟩ (fun _ _ _ _ _ _ _ _ oks => .cons (tc_int oks m2) (.cons (tc_none oks m3) .nil)) rfl)
theorem law_wC1 {w : World} {loose : List Str} {mean : ExcName → Option Value} {mg mb : Str → Option Value} {dp un : Nat} {gd : Option (List Code)} {a : Addr} {ccd : Value} {cl : List (Str × Addr)} {outer : List Env} {A₀ : Around} {base h₀ : Heap} {L : Addr} {s : Shared} {Q : Flow → Shared → Prop} {E : Value → Shared → Prop} (cx : LawCx w loose mean mg mb dp un outer A₀ base h₀) (l : List (Str × Value)) (R : List (Addr × Obj)) (F : Fr h₀ L s.heap (look l)) (N : News h₀ L s.heap R)
    (x du er sl k tp a1 : Addr) (n0 n1 n2 : Nat) (tn t tk3 : Tok) (v1 v2 v3 : Value) (n : Str) (q1 : (n == Str.ofString "SIZE") = false) (q2 : (n == Str.ofString "LEN") = false) (q3 : (n == Str.ofString "VAL") = false) (i1 : Int) (t6 : Tok) (hw1 : v2 = .int i1 t6) (v0 V : Int) (kd : Value) (sz ln nu : Int) (ty1 : Addr) (hv : (lcode n V == Str.ofString "") = true → v0 = V) (g2 : ErrAt w.params R er (rowsOf 5 (lcode n V))) (f_told : look l (Str.ofString "told") = some (.ref x)) (f_due : look l (Str.ofString "due") = some (.ref du)) (f_errors : look l (Str.ofString "errors") = some (.ref er)) (f_sides : look l (Str.ofString "sides") = some (.ref sl)) (f_as_statement : look l (Str.ofString "as_statement") = some (.bool false)) (f_name : look l (Str.ofString "name") = some (.str n tn)) (hF : ∀ R1, (∀ q ∈ R, q ∈ R1) → CallOk w 420 8 R1 [.str n tn, .ref sl] (Pure R1 fun t => .int V t)) (no0 : NodeAt w.params R x (Str.ofString "const") 5 (.ref ty1) (kd) (.int v0 t)) (tyi : TypeAt w.params R ty1 (formN n) sz ln nu) (g3 : (du, W.listOf #[] n0) ∈ R) (m1 : (sl, W.listOf #[.ref tp] n2) ∈ R) (m2 : (tp, tupObj #[.ref a1, v1, v2, v3]) ∈ R) (ret : LawRet h₀ L Q s) : lawWp w dp un gd L a ccd cl outer 16 Q E s := by
  refine lawBd cx F N ret fun cc hw ok => ?_
  clear F N ret cx
  subst hw
  subst hw1
  refine law_h16 ok f_told f_due no0 g3 (law_h18 ok f_as_statement f_name fun t7 => ?_)
  exact law_h20 ok (lm f_name (by decide)) q1 q2 q3 (law_C (vs := [.ref tp]) (bs := [false]) ok (lm f_sides (by decide)) m1 (Nat.le_of_ble_eq_true rfl) (fun _ _ _ _ _ _ _ _ oks => .cons (tc_int oks m2) .nil) rfl (law_K ok hv g2 (lm f_told (by decide)) (lm f_errors (by decide)) (lm f_sides (by decide)) (lm f_name (by decide)) look_hit hF no0 tyi))
theorem law_wC2 {w : World} {loose : List Str} {mean : ExcName → Option Value} {mg mb : Str → Option Value} {dp un : Nat} {gd : Option (List Code)} {a : Addr} {ccd : Value} {cl : List (Str × Addr)} {outer : List Env} {A₀ : Around} {base h₀ : Heap} {L : Addr} {s : Shared} {Q : Flow → Shared → Prop} {E : Value → Shared → Prop} (cx : LawCx w loose mean mg mb dp un outer A₀ base h₀) (l : List (Str × Value)) (R : List (Addr × Obj)) (F : Fr h₀ L s.heap (look l)) (N : News h₀ L s.heap R)
    (x du er sl k tp tp2 a1 a2 : Addr) (n0 n1 n2 : Nat) (tn t tk3 : Tok) (v1 v2 v3 w1 w2 w3 : Value) (n : Str) (q1 : (n == Str.ofString "SIZE") = false) (q2 : (n == Str.ofString "LEN") = false) (q3 : (n == Str.ofString "VAL") = false) (i1 i2 : Int) (t6 t8 : Tok) (hw1 : v2 = .int i1 t6) (hw2 : w2 = .int i2 t8) (v0 V : Int) (kd : Value) (sz ln nu : Int) (ty1 : Addr) (hv : (lcode n V == Str.ofString "") = true → v0 = V) (g2 : ErrAt w.params R er (rowsOf 5 (lcode n V))) (f_told : look l (Str.ofString "told") = some (.ref x)) (f_due : look l (Str.ofString "due") = some (.ref du)) (f_errors : look l (Str.ofString "errors") = some (.ref er)) (f_sides : look l (Str.ofString "sides") = some (.ref sl)) (f_as_statement : look l (Str.ofString "as_statement") = some (.bool false)) (f_name : look l (Str.ofString "name") = some (.str n tn)) (hF : ∀ R1, (∀ q ∈ R, q ∈ R1) → CallOk w 420 8 R1 [.str n tn, .ref sl] (Pure R1 fun t => .int V t)) (no0 : NodeAt w.params R x (Str.ofString "const") 5 (.ref ty1) (kd) (.int v0 t)) (tyi : TypeAt w.params R ty1 (formN n) sz ln nu) (g3 : (du, W.listOf #[] n0) ∈ R) (m1 : (sl, W.listOf #[.ref tp, .ref tp2] n2) ∈ R) (m2 : (tp, tupObj #[.ref a1, v1, v2, v3]) ∈ R) (m3 : (tp2, tupObj #[.ref a2, w1, w2, w3]) ∈ R) (ret : LawRet h₀ L Q s) : lawWp w dp un gd L a ccd cl outer 16 Q E s := by
  refine lawBd cx F N ret fun cc hw ok => ?_
  clear F N ret cx
  subst hw
  subst hw1
  subst hw2
  refine law_h16 ok f_told f_due no0 g3 (law_h18 ok f_as_statement f_name fun t7 => ?_)
  exact law_h20 ok (lm f_name (by decide)) q1 q2 q3 (law_C (vs := [.ref tp, .ref tp2]) (bs := [false, false]) ok (lm f_sides (by decide)) m1 (Nat.le_of_ble_eq_true rfl) (fun _ _ _ _ _ _ _ _ oks => .cons (tc_int oks m2) (.cons (tc_int oks m3) .nil)) rfl (law_K ok hv g2 (lm f_told (by decide)) (lm f_errors (by decide)) (lm f_sides (by decide)) (lm f_name (by decide)) look_hit hF no0 tyi))
set_option maxHeartbeats 8000000 in
theorem law_T0 {w : World} {loose : List Str} {mean : ExcName → Option Value} {mg mb : Str → Option Value} {dp un : Nat} {gd : Option (List Code)} {a : Addr} {ccd : Value} {cl : List (Str × Addr)} {outer : List Env} {A₀ : Around} {base h₀ : Heap} {L : Addr} {s : Shared} {Q : Flow → Shared → Prop} {E : Value → Shared → Prop} (cx : LawCx w loose mean mg mb dp un outer A₀ base h₀) (l : List (Str × Value)) (R : List (Addr × Obj)) (F : Fr h₀ L s.heap (look l)) (N : News h₀ L s.heap R)
    (c1 c2 c3 tys sl : Addr) (n2 : Nat) (o2 : Obj) (n : Str) (tn : Tok) (st : Bool) (hcl : cl = lawCells c1 c2 c3) (hc2 : (c2, o2) ∈ R) (hd2 : o2.data = .cell (some (.ref tys))) (f_sides : look l (Str.ofString "sides") = some (.ref sl)) (f_name : look l (Str.ofString "name") = some (.str n tn)) (f_as_statement : look l (Str.ofString "as_statement") = some (.bool st)) (m0 : (sl, W.listOf #[] n2) ∈ R) (hK : ∀ er de r p k1 k2 o rest ar n1, ErrPre w er de r p k1 k2 o rest → (∀ q ∈ R, q ∈ rest) → (ar, W.listOf #[] n1) ∈ rest → ∃ Post, (∀ tp, CallOk w 134 40 (errSeg w.params er de r p k1 k2 o ++ rest) [.ref tys, .ref er, .str n tn, .ref ar, .int 5 tp, .bool st] Post) ∧ ∀ x nw, Post x nw → ∀ h1 tk1 l1, Fr h₀ L h1 (look l1) → News h₀ L h1 nw → look l1 (Str.ofString "told") = some x → look l1 (Str.ofString "errors") = some (.ref er) → Same toldNames l l1 → lawWp w dp un gd L a ccd cl outer 14 Q E { s with heap := h1, toks := tk1 }) : lawWp w dp un gd L a ccd cl outer 12 Q E s := by
  obtain ⟨B, X, T, hd, hu⟩ := cx
  subst hcl
  (k_with "m FinE" => ((unfold LCg.FinE); intro D9 h9 tk9 F9 N9 oD9; (k_dflt (obtain ⟨oa9, ob9, oc9⟩ := oD9)); (try simp only [List.nil_append, List.cons_append] at N9); (try dsimp only)))
  (k_with "m call ref" => (k_here; (with_reducible show wpAny _ _ (call (Value.ref 134) [_, _, _, _, _, _]) _ _ _); k_dflt (obtain ⟨Post9, hC9, hk9⟩ := hK er de er1 er2 k1 k2 o ((D9, W.listOf #[] 0) :: R) D9 0 (ErrPre.push hE (Ne.symm ob9) (Ne.symm oa9)) (fun q h9 => List.mem_cons_of_mem _ h9) (.head _); apply useB (hC9 _); k_extra "u3"; (focus (refine' cb_drop ?n4 ?s4; (case n4 => assumption); (case s4 => simp only [errSeg, List.cons_append, List.nil_append, List.forall_mem_cons]; exact ⟨by k_mem, by k_mem, by k_mem, by k_mem, by k_mem, by (intro p9 h9; repeat (first | exact h9 | exact ‹∀ q, q ∈ _ → q ∈ _› _ h9 | apply List.mem_cons_of_mem | apply List.mem_append_right))⟩))); (focus k_asm); (focus first | exact rfl | assumption); k_extra "u9"); intro r9 nw9 h9 tk9 F9 N9 ho9; (try k_sweep); (try dsimp only); (try k_fold)))
  (k_with "m execs cons Assign cons" => (k_here; (with_reducible show wpAny _ _ (execs (Stmt.Assign [PySem.Expr.Name (Str.ofString "due") _] _ _ :: _) _) _ _ _); k_dflt (exact hk9 _ _ ho9 _ _ _ (by k_asm) (by k_asm) (by (repeat (first | with_reducible exact look_hit | with_reducible assumption | (apply look_miss; kernel_rfl)))) (by (repeat (first | with_reducible exact look_hit | with_reducible assumption | (apply look_miss; kernel_rfl)))) (by repeat (first | exact Same.refl | refine Same.push (by decide +kernel) ?_)))))
  change wpAny (model PySem.Challenge.pw_nu0340_01 _) (ktrTop _ _ _ _ _ _ _ _ _ _) (execs (_ :: _) (envX _ _ _ _ _ _)) _ _ _; k_dflt (skip);  k_steps
set_option maxHeartbeats 8000000 in
theorem law_T1 {w : World} {loose : List Str} {mean : ExcName → Option Value} {mg mb : Str → Option Value} {dp un : Nat} {gd : Option (List Code)} {a : Addr} {ccd : Value} {cl : List (Str × Addr)} {outer : List Env} {A₀ : Around} {base h₀ : Heap} {L : Addr} {s : Shared} {Q : Flow → Shared → Prop} {E : Value → Shared → Prop} (cx : LawCx w loose mean mg mb dp un outer A₀ base h₀) (l : List (Str × Value)) (R : List (Addr × Obj)) (F : Fr h₀ L s.heap (look l)) (N : News h₀ L s.heap R)
    (c1 c2 c3 tys sl tp1 nd1 : Addr) (n2 : Nat) (o2 : Obj) (n : Str) (tn : Tok) (st : Bool) (v1a v1b v1c : Value) (hcl : cl = lawCells c1 c2 c3) (hc2 : (c2, o2) ∈ R) (hd2 : o2.data = .cell (some (.ref tys))) (f_sides : look l (Str.ofString "sides") = some (.ref sl)) (f_name : look l (Str.ofString "name") = some (.str n tn)) (f_as_statement : look l (Str.ofString "as_statement") = some (.bool st)) (m0 : (sl, W.listOf #[.ref tp1] n2) ∈ R) (m1 : (tp1, tupObj #[.ref nd1, v1a, v1b, v1c]) ∈ R) (hK : ∀ er de r p k1 k2 o rest ar n1, ErrPre w er de r p k1 k2 o rest → (∀ q ∈ R, q ∈ rest) → (ar, W.listOf #[.ref nd1] n1) ∈ rest → ∃ Post, (∀ tp, CallOk w 134 40 (errSeg w.params er de r p k1 k2 o ++ rest) [.ref tys, .ref er, .str n tn, .ref ar, .int 5 tp, .bool st] Post) ∧ ∀ x nw, Post x nw → ∀ h1 tk1 l1, Fr h₀ L h1 (look l1) → News h₀ L h1 nw → look l1 (Str.ofString "told") = some x → look l1 (Str.ofString "errors") = some (.ref er) → Same toldNames l l1 → lawWp w dp un gd L a ccd cl outer 14 Q E { s with heap := h1, toks := tk1 }) : lawWp w dp un gd L a ccd cl outer 12 Q E s := by
  obtain ⟨B, X, T, hd, hu⟩ := cx
  subst hcl
  (k_with "m FinE" => ((unfold LCg.FinE); intro D9 h9 tk9 F9 N9 oD9; (k_dflt (obtain ⟨oa9, ob9, oc9⟩ := oD9)); (try simp only [List.nil_append, List.cons_append] at N9); (try dsimp only)))
  (k_with "m call ref" => (k_here; (with_reducible show wpAny _ _ (call (Value.ref 134) [_, _, _, _, _, _]) _ _ _); k_dflt (obtain ⟨Post9, hC9, hk9⟩ := hK er de er1 er2 k1 k2 o ((D9, W.listOf #[.ref nd1] 1) :: R) D9 1 (ErrPre.push hE (Ne.symm ob9) (Ne.symm oa9)) (fun q h9 => List.mem_cons_of_mem _ h9) (.head _); apply useB (hC9 _); k_extra "u3"; (focus (refine' cb_drop ?n4 ?s4; (case n4 => assumption); (case s4 => simp only [errSeg, List.cons_append, List.nil_append, List.forall_mem_cons]; exact ⟨by k_mem, by k_mem, by k_mem, by k_mem, by k_mem, by (intro p9 h9; repeat (first | exact h9 | exact ‹∀ q, q ∈ _ → q ∈ _› _ h9 | apply List.mem_cons_of_mem | apply List.mem_append_right))⟩))); (focus k_asm); (focus first | exact rfl | assumption); k_extra "u9"); intro r9 nw9 h9 tk9 F9 N9 ho9; (try k_sweep); (try dsimp only); (try k_fold)))
  (k_with "m execs cons Assign cons" => (k_here; (with_reducible show wpAny _ _ (execs (Stmt.Assign [PySem.Expr.Name (Str.ofString "due") _] _ _ :: _) _) _ _ _); k_dflt (exact hk9 _ _ ho9 _ _ _ (by k_asm) (by k_asm) (by (repeat (first | with_reducible exact look_hit | with_reducible assumption | (apply look_miss; kernel_rfl)))) (by (repeat (first | with_reducible exact look_hit | with_reducible assumption | (apply look_miss; kernel_rfl)))) (by repeat (first | exact Same.refl | refine Same.push (by decide +kernel) ?_)))))
  change wpAny (model PySem.Challenge.pw_nu0340_01 _) (ktrTop _ _ _ _ _ _ _ _ _ _) (execs (_ :: _) (envX _ _ _ _ _ _)) _ _ _; k_dflt (skip);  k_steps
set_option maxHeartbeats 8000000 in
theorem law_T2 {w : World} {loose : List Str} {mean : ExcName → Option Value} {mg mb : Str → Option Value} {dp un : Nat} {gd : Option (List Code)} {a : Addr} {ccd : Value} {cl : List (Str × Addr)} {outer : List Env} {A₀ : Around} {base h₀ : Heap} {L : Addr} {s : Shared} {Q : Flow → Shared → Prop} {E : Value → Shared → Prop} (cx : LawCx w loose mean mg mb dp un outer A₀ base h₀) (l : List (Str × Value)) (R : List (Addr × Obj)) (F : Fr h₀ L s.heap (look l)) (N : News h₀ L s.heap R)
    (c1 c2 c3 tys sl tp1 nd1 tp2 nd2 : Addr) (n2 : Nat) (o2 : Obj) (n : Str) (tn : Tok) (st : Bool) (v1a v1b v1c : Value) (v2a v2b v2c : Value) (hcl : cl = lawCells c1 c2 c3) (hc2 : (c2, o2) ∈ R) (hd2 : o2.data = .cell (some (.ref tys))) (f_sides : look l (Str.ofString "sides") = some (.ref sl)) (f_name : look l (Str.ofString "name") = some (.str n tn)) (f_as_statement : look l (Str.ofString "as_statement") = some (.bool st)) (m0 : (sl, W.listOf #[.ref tp1, .ref tp2] n2) ∈ R) (m1 : (tp1, tupObj #[.ref nd1, v1a, v1b, v1c]) ∈ R) (m2 : (tp2, tupObj #[.ref nd2, v2a, v2b, v2c]) ∈ R) (hK : ∀ er de r p k1 k2 o rest ar n1, ErrPre w er de r p k1 k2 o rest → (∀ q ∈ R, q ∈ rest) → (ar, W.listOf #[.ref nd1, .ref nd2] n1) ∈ rest → ∃ Post, (∀ tp, CallOk w 134 40 (errSeg w.params er de r p k1 k2 o ++ rest) [.ref tys, .ref er, .str n tn, .ref ar, .int 5 tp, .bool st] Post) ∧ ∀ x nw, Post x nw → ∀ h1 tk1 l1, Fr h₀ L h1 (look l1) → News h₀ L h1 nw → look l1 (Str.ofString "told") = some x → look l1 (Str.ofString "errors") = some (.ref er) → Same toldNames l l1 → lawWp w dp un gd L a ccd cl outer 14 Q E { s with heap := h1, toks := tk1 }) : lawWp w dp un gd L a ccd cl outer 12 Q E s := by
  obtain ⟨B, X, T, hd, hu⟩ := cx
  subst hcl
  (k_with "m FinE" => ((unfold LCg.FinE); intro D9 h9 tk9 F9 N9 oD9; (k_dflt (obtain ⟨oa9, ob9, oc9⟩ := oD9)); (try simp only [List.nil_append, List.cons_append] at N9); (try dsimp only)))
  (k_with "m call ref" => (k_here; (with_reducible show wpAny _ _ (call (Value.ref 134) [_, _, _, _, _, _]) _ _ _); k_dflt (obtain ⟨Post9, hC9, hk9⟩ := hK er de er1 er2 k1 k2 o ((D9, W.listOf #[.ref nd1, .ref nd2] 2) :: R) D9 2 (ErrPre.push hE (Ne.symm ob9) (Ne.symm oa9)) (fun q h9 => List.mem_cons_of_mem _ h9) (.head _); apply useB (hC9 _); k_extra "u3"; (focus (refine' cb_drop ?n4 ?s4; (case n4 => assumption); (case s4 => simp only [errSeg, List.cons_append, List.nil_append, List.forall_mem_cons]; exact ⟨by k_mem, by k_mem, by k_mem, by k_mem, by k_mem, by (intro p9 h9; repeat (first | exact h9 | exact ‹∀ q, q ∈ _ → q ∈ _› _ h9 | apply List.mem_cons_of_mem | apply List.mem_append_right))⟩))); (focus k_asm); (focus first | exact rfl | assumption); k_extra "u9"); intro r9 nw9 h9 tk9 F9 N9 ho9; (try k_sweep); (try dsimp only); (try k_fold)))
  (k_with "m execs cons Assign cons" => (k_here; (with_reducible show wpAny _ _ (execs (Stmt.Assign [PySem.Expr.Name (Str.ofString "due") _] _ _ :: _) _) _ _ _); k_dflt (exact hk9 _ _ ho9 _ _ _ (by k_asm) (by k_asm) (by (repeat (first | with_reducible exact look_hit | with_reducible assumption | (apply look_miss; kernel_rfl)))) (by (repeat (first | with_reducible exact look_hit | with_reducible assumption | (apply look_miss; kernel_rfl)))) (by repeat (first | exact Same.refl | refine Same.push (by decide +kernel) ?_)))))
  change wpAny (model PySem.Challenge.pw_nu0340_01 _) (ktrTop _ _ _ _ _ _ _ _ _ _) (execs (_ :: _) (envX _ _ _ _ _ _)) _ _ _; k_dflt (skip);  k_steps
set_option maxHeartbeats 8000000 in
theorem law_T3 {w : World} {loose : List Str} {mean : ExcName → Option Value} {mg mb : Str → Option Value} {dp un : Nat} {gd : Option (List Code)} {a : Addr} {ccd : Value} {cl : List (Str × Addr)} {outer : List Env} {A₀ : Around} {base h₀ : Heap} {L : Addr} {s : Shared} {Q : Flow → Shared → Prop} {E : Value → Shared → Prop} (cx : LawCx w loose mean mg mb dp un outer A₀ base h₀) (l : List (Str × Value)) (R : List (Addr × Obj)) (F : Fr h₀ L s.heap (look l)) (N : News h₀ L s.heap R)
    (c1 c2 c3 tys sl tp1 nd1 tp2 nd2 tp3 nd3 : Addr) (n2 : Nat) (o2 : Obj) (n : Str) (tn : Tok) (st : Bool) (v1a v1b v1c : Value) (v2a v2b v2c : Value) (v3a v3b v3c : Value) (hcl : cl = lawCells c1 c2 c3) (hc2 : (c2, o2) ∈ R) (hd2 : o2.data = .cell (some (.ref tys))) (f_sides : look l (Str.ofString "sides") = some (.ref sl)) (f_name : look l (Str.ofString "name") = some (.str n tn)) (f_as_statement : look l (Str.ofString "as_statement") = some (.bool st)) (m0 : (sl, W.listOf #[.ref tp1, .ref tp2, .ref tp3] n2) ∈ R) (m1 : (tp1, tupObj #[.ref nd1, v1a, v1b, v1c]) ∈ R) (m2 : (tp2, tupObj #[.ref nd2, v2a, v2b, v2c]) ∈ R) (m3 : (tp3, tupObj #[.ref nd3, v3a, v3b, v3c]) ∈ R) (hK : ∀ er de r p k1 k2 o rest ar n1, ErrPre w er de r p k1 k2 o rest → (∀ q ∈ R, q ∈ rest) → (ar, W.listOf #[.ref nd1, .ref nd2, .ref nd3] n1) ∈ rest → ∃ Post, (∀ tp, CallOk w 134 40 (errSeg w.params er de r p k1 k2 o ++ rest) [.ref tys, .ref er, .str n tn, .ref ar, .int 5 tp, .bool st] Post) ∧ ∀ x nw, Post x nw → ∀ h1 tk1 l1, Fr h₀ L h1 (look l1) → News h₀ L h1 nw → look l1 (Str.ofString "told") = some x → look l1 (Str.ofString "errors") = some (.ref er) → Same toldNames l l1 → lawWp w dp un gd L a ccd cl outer 14 Q E { s with heap := h1, toks := tk1 }) : lawWp w dp un gd L a ccd cl outer 12 Q E s := by
  obtain ⟨B, X, T, hd, hu⟩ := cx
  subst hcl
  (k_with "m FinE" => ((unfold LCg.FinE); intro D9 h9 tk9 F9 N9 oD9; (k_dflt (obtain ⟨oa9, ob9, oc9⟩ := oD9)); (try simp only [List.nil_append, List.cons_append] at N9); (try dsimp only)))
  (k_with "m call ref" => (k_here; (with_reducible show wpAny _ _ (call (Value.ref 134) [_, _, _, _, _, _]) _ _ _); k_dflt (obtain ⟨Post9, hC9, hk9⟩ := hK er de er1 er2 k1 k2 o ((D9, W.listOf #[.ref nd1, .ref nd2, .ref nd3] 3) :: R) D9 3 (ErrPre.push hE (Ne.symm ob9) (Ne.symm oa9)) (fun q h9 => List.mem_cons_of_mem _ h9) (.head _); apply useB (hC9 _); k_extra "u3"; (focus (refine' cb_drop ?n4 ?s4; (case n4 => assumption); (case s4 => simp only [errSeg, List.cons_append, List.nil_append, List.forall_mem_cons]; exact ⟨by k_mem, by k_mem, by k_mem, by k_mem, by k_mem, by (intro p9 h9; repeat (first | exact h9 | exact ‹∀ q, q ∈ _ → q ∈ _› _ h9 | apply List.mem_cons_of_mem | apply List.mem_append_right))⟩))); (focus k_asm); (focus first | exact rfl | assumption); k_extra "u9"); intro r9 nw9 h9 tk9 F9 N9 ho9; (try k_sweep); (try dsimp only); (try k_fold)))
  (k_with "m execs cons Assign cons" => (k_here; (with_reducible show wpAny _ _ (execs (Stmt.Assign [PySem.Expr.Name (Str.ofString "due") _] _ _ :: _) _) _ _ _); k_dflt (exact hk9 _ _ ho9 _ _ _ (by k_asm) (by k_asm) (by (repeat (first | with_reducible exact look_hit | with_reducible assumption | (apply look_miss; kernel_rfl)))) (by (repeat (first | with_reducible exact look_hit | with_reducible assumption | (apply look_miss; kernel_rfl)))) (by repeat (first | exact Same.refl | refine Same.push (by decide +kernel) ?_)))))
  change wpAny (model PySem.Challenge.pw_nu0340_01 _) (ktrTop _ _ _ _ _ _ _ _ _ _) (execs (_ :: _) (envX _ _ _ _ _ _)) _ _ _; k_dflt (skip);  k_steps
set_option maxHeartbeats 8000000 in
theorem law_B0 {w : World} {loose : List Str} {mean : ExcName → Option Value} {mg mb : Str → Option Value} {dp un : Nat} {gd : Option (List Code)} {a : Addr} {ccd : Value} {cl : List (Str × Addr)} {outer : List Env} {A₀ : Around} {base h₀ : Heap} {L : Addr} {s : Shared} {Q : Flow → Shared → Prop} {E : Value → Shared → Prop} {c1 c2 c3 pl tys sl fg td : Addr} {i0 m0 c : Int} {u1 u2 t0 : Tok} {np : Nat} {y : Y9} {tyd : Bool} (cx : LawCx w loose mean mg mb dp un outer A₀ base h₀) (l : List (Str × Value)) (R : List (Addr × Obj)) (F : Fr h₀ L s.heap (look l)) (N : News h₀ L s.heap ((sl, W.listOf #[] n2) :: ((pl, poolObj fg i0 m0 u1 u2 np) :: (td, tysDict w.params y (.int c t0)) :: R)))
    (n2 : Nat) (hcl : cl = lawCells c1 c2 c3)   (vs : List Value) (ns : List Int) (nf : Nat) (S : LawSt w.params R pl fg td tys y vs ns nf) (hi0 : 0 ≤ i0) (hm0 : 0 ≤ m0) (hm1 : m0 < 1009) (hC : CellsAt R c1 c2 c3 pl tys tyd) (hs1 : @Ne Nat sl pl) (hs2 : @Ne Nat sl td) (hs3 : ∀ q ∈ R, q.1 ≠ sl) (f_sides : look l (Str.ofString "sides") = some (.ref sl)) (hK : ∀ h1 tk1 l1 R1 n3, Fr h₀ L h1 (look l1) → News h₀ L h1 R1 → Same [Str.ofString "t"] l l1 → (∀ q ∈ R, q ∈ R1) → (sl, W.listOf #[] n3) ∈ R1 → (td, tysDict w.params y (.int c t0)) ∈ R1 → lawWp w dp un gd L a ccd cl outer 12 Q E { s with heap := h1, toks := tk1 }) : lawWp w dp un gd L a ccd cl outer 11 Q E s := by
  obtain ⟨B, X, T, hd, hu⟩ := cx
  subst hcl
  obtain ⟨hT, hf, hI, hn, hl, hp, hq, hne⟩ := id S
  obtain ⟨⟨o1, a1, b1⟩, ⟨o2, a2, b2⟩, ⟨o3, a3, b3⟩⟩ := id hC
  have hown := hT.own
  (k_with "m execs cons Assign cons" => (k_here; (with_reducible show wpAny _ _ (execs (Stmt.Assign [PySem.Expr.Name (Str.ofString "errors") _] _ _ :: _) _) _ _ _); k_dflt (exact hK _ _ _ _ _ (by k_asm) (by k_asm) (by repeat (first | exact Same.refl | refine Same.push (by decide +kernel) ?_)) (by intro p9 h9; repeat (first | exact h9 | apply List.mem_cons_of_mem)) (by k_mem) (by k_mem))))
  change wpAny (model PySem.Challenge.pw_nu0340_01 _) (ktrTop _ _ _ _ _ _ _ _ _ _) (execs (_ :: _) (envX _ _ _ _ _ _)) _ _ _; k_dflt (skip);  k_steps
set_option maxHeartbeats 8000000 in
theorem law_B1 {w : World} {loose : List Str} {mean : ExcName → Option Value} {mg mb : Str → Option Value} {dp un : Nat} {gd : Option (List Code)} {a : Addr} {ccd : Value} {cl : List (Str × Addr)} {outer : List Env} {A₀ : Around} {base h₀ : Heap} {L : Addr} {s : Shared} {Q : Flow → Shared → Prop} {E : Value → Shared → Prop} {c1 c2 c3 pl tys sl tp1 fg td : Addr} {i0 m0 c : Int} {u1 u2 t0 : Tok} {np : Nat} {y : Y9} {tyd : Bool} (cx : LawCx w loose mean mg mb dp un outer A₀ base h₀) (l : List (Str × Value)) (R : List (Addr × Obj)) (F : Fr h₀ L s.heap (look l)) (N : News h₀ L s.heap ((sl, W.listOf #[.ref tp1] n2) :: ((pl, poolObj fg i0 m0 u1 u2 np) :: (td, tysDict w.params y (.int c t0)) :: R)))
    (nd1 : Addr) (n2 : Nat) (hcl : cl = lawCells c1 c2 c3)   (vs : List Value) (ns : List Int) (nf : Nat) (S : LawSt w.params R pl fg td tys y vs ns nf) (hi0 : 0 ≤ i0) (hm0 : 0 ≤ m0) (hm1 : m0 < 1009) (hC : CellsAt R c1 c2 c3 pl tys tyd) (hs1 : @Ne Nat sl pl) (hs2 : @Ne Nat sl td) (hs3 : ∀ q ∈ R, q.1 ≠ sl) (f_sides : look l (Str.ofString "sides") = some (.ref sl)) (so : SideOk w.params R tp1 nd1 20 tyd) (hK : ∀ h1 tk1 l1 R1 n3 tpx ndx, Fr h₀ L h1 (look l1) → News h₀ L h1 R1 → Same [Str.ofString "t"] l l1 → (∀ q ∈ R, q ∈ R1) → (sl, W.listOf #[.ref tpx] n3) ∈ R1 → (td, tysDict w.params y (.int c t0)) ∈ R1 → SideOk w.params R1 tpx ndx 20 tyd → lawWp w dp un gd L a ccd cl outer 12 Q E { s with heap := h1, toks := tk1 }) : lawWp w dp un gd L a ccd cl outer 11 Q E s := by
  obtain ⟨B, X, T, hd, hu⟩ := cx
  subst hcl
  obtain ⟨hT, hf, hI, hn, hl, hp, hq, hne⟩ := id S
  obtain ⟨⟨o1, a1, b1⟩, ⟨o2, a2, b2⟩, ⟨o3, a3, b3⟩⟩ := id hC
  have hown := hT.own
  (k_with "m execs cons Assign cons" => (k_here; (with_reducible show wpAny _ _ (execs (Stmt.Assign [PySem.Expr.Name (Str.ofString "errors") _] _ _ :: _) _) _ _ _); k_dflt (first | (exact hK _ _ _ _ _ _ nd1 (by k_asm) (by k_asm) (by repeat (first | exact Same.refl | refine Same.push (by decide +kernel) ?_)) (by intro p9 h9; repeat (first | exact h9 | apply List.mem_cons_of_mem)) (by k_mem) (by k_mem) (so.mono (by intro p9 h9; repeat (first | exact h9 | apply List.mem_cons_of_mem)))) | (obtain ⟨ty8, f8, sz8, nu8, e8, rl8, at8⟩ := typs5 hT (by with_reducible assumption); subst e8; exact hK _ _ _ _ _ _ _ (by k_asm) (by k_asm) (by repeat (first | exact Same.refl | refine Same.push (by decide +kernel) ?_)) (by intro p9 h9; repeat (first | exact h9 | apply List.mem_cons_of_mem)) (by k_mem) (by k_mem) (sideOk_typ (by with_reducible assumption) (by k_mem) (nodeAt_of (by k_mem) (by k_mem) rfl) rl8 (at8.mono (by intro p9 h9; repeat (first | exact h9 | apply List.mem_cons_of_mem))))))))
  change wpAny (model PySem.Challenge.pw_nu0340_01 _) (ktrTop _ _ _ _ _ _ _ _ _ _) (execs (_ :: _) (envX _ _ _ _ _ _)) _ _ _; k_dflt (skip);  k_steps
set_option maxHeartbeats 8000000 in
theorem law_B2 {w : World} {loose : List Str} {mean : ExcName → Option Value} {mg mb : Str → Option Value} {dp un : Nat} {gd : Option (List Code)} {a : Addr} {ccd : Value} {cl : List (Str × Addr)} {outer : List Env} {A₀ : Around} {base h₀ : Heap} {L : Addr} {s : Shared} {Q : Flow → Shared → Prop} {E : Value → Shared → Prop} {c1 c2 c3 pl tys sl tp1 tp2 fg td : Addr} {i0 m0 c : Int} {u1 u2 t0 : Tok} {np : Nat} {y : Y9} {tyd : Bool} (cx : LawCx w loose mean mg mb dp un outer A₀ base h₀) (l : List (Str × Value)) (R : List (Addr × Obj)) (F : Fr h₀ L s.heap (look l)) (N : News h₀ L s.heap ((sl, W.listOf #[.ref tp1, .ref tp2] n2) :: ((pl, poolObj fg i0 m0 u1 u2 np) :: (td, tysDict w.params y (.int c t0)) :: R)))
    (nd1 : Addr) (n2 : Nat) (hcl : cl = lawCells c1 c2 c3)   (vs : List Value) (ns : List Int) (nf : Nat) (S : LawSt w.params R pl fg td tys y vs ns nf) (hi0 : 0 ≤ i0) (hm0 : 0 ≤ m0) (hm1 : m0 < 1009) (hC : CellsAt R c1 c2 c3 pl tys tyd) (hs1 : @Ne Nat sl pl) (hs2 : @Ne Nat sl td) (hs3 : ∀ q ∈ R, q.1 ≠ sl) (f_sides : look l (Str.ofString "sides") = some (.ref sl)) (so : SideOk w.params R tp1 nd1 20 tyd) (hK : ∀ h1 tk1 l1 R1 n3 tpx ndx, Fr h₀ L h1 (look l1) → News h₀ L h1 R1 → Same [Str.ofString "t"] l l1 → (∀ q ∈ R, q ∈ R1) → (sl, W.listOf #[.ref tpx, .ref tp2] n3) ∈ R1 → (td, tysDict w.params y (.int c t0)) ∈ R1 → SideOk w.params R1 tpx ndx 20 tyd → lawWp w dp un gd L a ccd cl outer 12 Q E { s with heap := h1, toks := tk1 }) : lawWp w dp un gd L a ccd cl outer 11 Q E s := by
  obtain ⟨B, X, T, hd, hu⟩ := cx
  subst hcl
  obtain ⟨hT, hf, hI, hn, hl, hp, hq, hne⟩ := id S
  obtain ⟨⟨o1, a1, b1⟩, ⟨o2, a2, b2⟩, ⟨o3, a3, b3⟩⟩ := id hC
  have hown := hT.own
  (k_with "m execs cons Assign cons" => (k_here; (with_reducible show wpAny _ _ (execs (Stmt.Assign [PySem.Expr.Name (Str.ofString "errors") _] _ _ :: _) _) _ _ _); k_dflt (first | (exact hK _ _ _ _ _ _ nd1 (by k_asm) (by k_asm) (by repeat (first | exact Same.refl | refine Same.push (by decide +kernel) ?_)) (by intro p9 h9; repeat (first | exact h9 | apply List.mem_cons_of_mem)) (by k_mem) (by k_mem) (so.mono (by intro p9 h9; repeat (first | exact h9 | apply List.mem_cons_of_mem)))) | (obtain ⟨ty8, f8, sz8, nu8, e8, rl8, at8⟩ := typs5 hT (by with_reducible assumption); subst e8; exact hK _ _ _ _ _ _ _ (by k_asm) (by k_asm) (by repeat (first | exact Same.refl | refine Same.push (by decide +kernel) ?_)) (by intro p9 h9; repeat (first | exact h9 | apply List.mem_cons_of_mem)) (by k_mem) (by k_mem) (sideOk_typ (by with_reducible assumption) (by k_mem) (nodeAt_of (by k_mem) (by k_mem) rfl) rl8 (at8.mono (by intro p9 h9; repeat (first | exact h9 | apply List.mem_cons_of_mem))))))))
  change wpAny (model PySem.Challenge.pw_nu0340_01 _) (ktrTop _ _ _ _ _ _ _ _ _ _) (execs (_ :: _) (envX _ _ _ _ _ _)) _ _ _; k_dflt (skip);  k_steps
set_option maxHeartbeats 8000000 in
theorem law_B3 {w : World} {loose : List Str} {mean : ExcName → Option Value} {mg mb : Str → Option Value} {dp un : Nat} {gd : Option (List Code)} {a : Addr} {ccd : Value} {cl : List (Str × Addr)} {outer : List Env} {A₀ : Around} {base h₀ : Heap} {L : Addr} {s : Shared} {Q : Flow → Shared → Prop} {E : Value → Shared → Prop} {c1 c2 c3 pl tys sl tp1 tp2 tp3 fg td : Addr} {i0 m0 c : Int} {u1 u2 t0 : Tok} {np : Nat} {y : Y9} {tyd : Bool} (cx : LawCx w loose mean mg mb dp un outer A₀ base h₀) (l : List (Str × Value)) (R : List (Addr × Obj)) (F : Fr h₀ L s.heap (look l)) (N : News h₀ L s.heap ((sl, W.listOf #[.ref tp1, .ref tp2, .ref tp3] n2) :: ((pl, poolObj fg i0 m0 u1 u2 np) :: (td, tysDict w.params y (.int c t0)) :: R)))
    (nd1 : Addr) (n2 : Nat) (hcl : cl = lawCells c1 c2 c3)   (vs : List Value) (ns : List Int) (nf : Nat) (S : LawSt w.params R pl fg td tys y vs ns nf) (hi0 : 0 ≤ i0) (hm0 : 0 ≤ m0) (hm1 : m0 < 1009) (hC : CellsAt R c1 c2 c3 pl tys tyd) (hs1 : @Ne Nat sl pl) (hs2 : @Ne Nat sl td) (hs3 : ∀ q ∈ R, q.1 ≠ sl) (f_sides : look l (Str.ofString "sides") = some (.ref sl)) (so : SideOk w.params R tp1 nd1 20 tyd) (hK : ∀ h1 tk1 l1 R1 n3 tpx ndx, Fr h₀ L h1 (look l1) → News h₀ L h1 R1 → Same [Str.ofString "t"] l l1 → (∀ q ∈ R, q ∈ R1) → (sl, W.listOf #[.ref tpx, .ref tp2, .ref tp3] n3) ∈ R1 → (td, tysDict w.params y (.int c t0)) ∈ R1 → SideOk w.params R1 tpx ndx 20 tyd → lawWp w dp un gd L a ccd cl outer 12 Q E { s with heap := h1, toks := tk1 }) : lawWp w dp un gd L a ccd cl outer 11 Q E s := by
  obtain ⟨B, X, T, hd, hu⟩ := cx
  subst hcl
  obtain ⟨hT, hf, hI, hn, hl, hp, hq, hne⟩ := id S
  obtain ⟨⟨o1, a1, b1⟩, ⟨o2, a2, b2⟩, ⟨o3, a3, b3⟩⟩ := id hC
  have hown := hT.own
  (k_with "m execs cons Assign cons" => (k_here; (with_reducible show wpAny _ _ (execs (Stmt.Assign [PySem.Expr.Name (Str.ofString "errors") _] _ _ :: _) _) _ _ _); k_dflt (first | (exact hK _ _ _ _ _ _ nd1 (by k_asm) (by k_asm) (by repeat (first | exact Same.refl | refine Same.push (by decide +kernel) ?_)) (by intro p9 h9; repeat (first | exact h9 | apply List.mem_cons_of_mem)) (by k_mem) (by k_mem) (so.mono (by intro p9 h9; repeat (first | exact h9 | apply List.mem_cons_of_mem)))) | (obtain ⟨ty8, f8, sz8, nu8, e8, rl8, at8⟩ := typs5 hT (by with_reducible assumption); subst e8; exact hK _ _ _ _ _ _ _ (by k_asm) (by k_asm) (by repeat (first | exact Same.refl | refine Same.push (by decide +kernel) ?_)) (by intro p9 h9; repeat (first | exact h9 | apply List.mem_cons_of_mem)) (by k_mem) (by k_mem) (sideOk_typ (by with_reducible assumption) (by k_mem) (nodeAt_of (by k_mem) (by k_mem) rfl) rl8 (at8.mono (by intro p9 h9; repeat (first | exact h9 | apply List.mem_cons_of_mem))))))))
  change wpAny (model PySem.Challenge.pw_nu0340_01 _) (ktrTop _ _ _ _ _ _ _ _ _ _) (execs (_ :: _) (envX _ _ _ _ _ _)) _ _ _; k_dflt (skip);  k_steps
set_option maxHeartbeats 8000000 in
theorem law_A0 {w : World} {loose : List Str} {mean : ExcName → Option Value} {mg mb : Str → Option Value} {dp un : Nat} {gd : Option (List Code)} {a : Addr} {ccd : Value} {cl : List (Str × Addr)} {outer : List Env} {A₀ : Around} {base h₀ : Heap} {L : Addr} {s : Shared} {Q : Flow → Shared → Prop} {E : Value → Shared → Prop} {c1 c2 c3 pl tys fg td : Addr} {i0 m0 c : Int} {u1 u2 t0 : Tok} {np : Nat} {y : Y9} {tyd : Bool} (cx : LawCx w loose mean mg mb dp un outer A₀ base h₀) (l : List (Str × Value)) (R : List (Addr × Obj)) (F : Fr h₀ L s.heap (look l)) (N : News h₀ L s.heap ((pl, poolObj fg i0 m0 u1 u2 np) :: (td, tysDict w.params y (.int c t0)) :: R))
    (tk3 : Tok) (vs : List Value) (ns : List Int) (nf : Nat) (hcl : cl = lawCells c1 c2 c3) (S : LawSt w.params R pl fg td tys y vs ns nf) (hi0 : 0 ≤ i0) (hm0 : 0 ≤ m0) (hm1 : m0 < 1009) (hC : CellsAt R c1 c2 c3 pl tys tyd) (f_many : look l (Str.ofString "many") = some (.int 0 tk3)) (hK : ∀ h1 tk1 sl i1 m1 u3 u4 np1 cc t1 R1, Fr h₀ L h1 (look ((Str.ofString "sides", .ref sl) :: l)) → News h₀ L h1 ((sl, W.listOf #[] 0) :: (pl, poolObj fg i1 m1 u3 u4 np1) :: (td, tysDict w.params y (.int cc t1)) :: R1) → LawSt w.params R1 pl fg td tys y vs ns nf → 0 ≤ i1 → 0 ≤ m1 → m1 < 1009 → @Ne Nat sl pl → @Ne Nat sl td → (∀ q ∈ R1, q.1 ≠ sl) → (∀ q ∈ R, q ∈ R1) → lawWp w dp un gd L a ccd cl outer 11 Q E { s with heap := h1, toks := tk1 }) : lawWp w dp un gd L a ccd cl outer 10 Q E s := by
  obtain ⟨B, X, T, hd, hu⟩ := cx
  subst hcl
  obtain ⟨hT, hf, hI, hn, hl, hp, hq, hne⟩ := id S
  obtain ⟨⟨o1, a1, b1⟩, ⟨o2, a2, b2⟩, ⟨o3, a3, b3⟩⟩ := id hC
  have hown := hT.own
  (k_with "m sides" => (k_here; k_dflt (refine LCg.Assign_ListComp_U (F₀ := by k_asm) (by rfl) (by with_unfolding_all rfl) (by with_unfolding_all rfl) (by decide +kernel) (by rfl) (by decide +kernel) (by rfl) (by rfl) (by rfl) ?_)))
  (k_with "m CompSrc" => (k_here; (k_dflt (refine LCg.CompSrc.range (by rfl) (by k_asm) (by k_asm) (by assumption) (by first | decide | rfl) (by first | rfl | decide) (by first | size_fits | exact Nat.le_of_ble_eq_true rfl) ?_); intro g9; lcg_lit)))
  (k_with "m call ref" => (k_here; (with_reducible show wpAny _ _ (call (Value.ref 392) [_, _, _, _]) _ _ _); k_dflt (apply useSide; k_extra "u5"; (focus first | exact rfl | assumption); (focus assumption); (focus first | assumption | (simp only [LCg.Off3, and_true]; assumption)); (focus assumption); (focus assumption); (focus assumption); k_extra "u9"); intro tp9 nd9 d9 nt9 mo9' i9 m9 u39 u49 np9 c9 t9 h9 tk9 F9 N9 lS9 oN9 st9 ty9 pc9 pd9 pe9; k_dflt (obtain ⟨su1, su2, su3, sm9, so9, ss9, sr9⟩ := id st9); (try dsimp only); (try k_fold)))
  (k_with "m FinA" => ((unfold LCg.FinA); intro D9 h9 tk9 F9 N9 oD9; replace F9 := look_store ▸ F9; (try simp only [List.nil_append, List.cons_append] at N9); (k_dflt (obtain ⟨oa9, ob9, oc9⟩ := oD9)); (try dsimp only)))
  (k_with "m execs cons" => (k_here; (with_reducible show wpAny _ _ (execs (Stmt.If (PySem.Expr.BoolOp _ _ _) _ _ _ :: _) _) _ _ _); first | k_dflt (exact hK _ _ D9 _ _ _ _ _ _ _ _ (by k_asm) (by k_asm) (by assumption) (by assumption) (by assumption) (by assumption) (Ne.symm oa9) (Ne.symm ob9) (off1_mem oc9) (fun q9 h9 => by repeat (first | exact h9 | apply List.mem_append_right)))))
  change wpAny (model PySem.Challenge.pw_nu0340_01 _) (ktrTop _ _ _ _ _ _ _ _ _ _) (execs (_ :: _) (envX _ _ _ _ _ _)) _ _ _; k_dflt (skip);  k_steps
set_option maxHeartbeats 8000000 in
theorem law_A1 {w : World} {loose : List Str} {mean : ExcName → Option Value} {mg mb : Str → Option Value} {dp un : Nat} {gd : Option (List Code)} {a : Addr} {ccd : Value} {cl : List (Str × Addr)} {outer : List Env} {A₀ : Around} {base h₀ : Heap} {L : Addr} {s : Shared} {Q : Flow → Shared → Prop} {E : Value → Shared → Prop} {c1 c2 c3 pl tys fg td : Addr} {i0 m0 c : Int} {u1 u2 t0 : Tok} {np : Nat} {y : Y9} {tyd : Bool} (cx : LawCx w loose mean mg mb dp un outer A₀ base h₀) (l : List (Str × Value)) (R : List (Addr × Obj)) (F : Fr h₀ L s.heap (look l)) (N : News h₀ L s.heap ((pl, poolObj fg i0 m0 u1 u2 np) :: (td, tysDict w.params y (.int c t0)) :: R))
    (tk3 : Tok) (vs : List Value) (ns : List Int) (nf : Nat) (hcl : cl = lawCells c1 c2 c3) (S : LawSt w.params R pl fg td tys y vs ns nf) (hi0 : 0 ≤ i0) (hm0 : 0 ≤ m0) (hm1 : m0 < 1009) (hC : CellsAt R c1 c2 c3 pl tys tyd) (f_many : look l (Str.ofString "many") = some (.int 1 tk3)) (hK : ∀ h1 tk1 sl i1 m1 u3 u4 np1 cc t1 R1 tp1 nd1, Fr h₀ L h1 (look ((Str.ofString "sides", .ref sl) :: l)) → News h₀ L h1 ((sl, W.listOf #[.ref tp1] 1) :: (pl, poolObj fg i1 m1 u3 u4 np1) :: (td, tysDict w.params y (.int cc t1)) :: R1) → LawSt w.params R1 pl fg td tys y vs ns nf → 0 ≤ i1 → 0 ≤ m1 → m1 < 1009 → @Ne Nat sl pl → @Ne Nat sl td → (∀ q ∈ R1, q.1 ≠ sl) → (∀ q ∈ R, q ∈ R1) → SideOk w.params R1 tp1 nd1 20 tyd → lawWp w dp un gd L a ccd cl outer 11 Q E { s with heap := h1, toks := tk1 }) : lawWp w dp un gd L a ccd cl outer 10 Q E s := by
  obtain ⟨B, X, T, hd, hu⟩ := cx
  subst hcl
  obtain ⟨hT, hf, hI, hn, hl, hp, hq, hne⟩ := id S
  obtain ⟨⟨o1, a1, b1⟩, ⟨o2, a2, b2⟩, ⟨o3, a3, b3⟩⟩ := id hC
  have hown := hT.own
  (k_with "m sides" => (k_here; k_dflt (refine LCg.Assign_ListComp_U (F₀ := by k_asm) (by rfl) (by with_unfolding_all rfl) (by with_unfolding_all rfl) (by decide +kernel) (by rfl) (by decide +kernel) (by rfl) (by rfl) (by rfl) ?_)))
  (k_with "m CompSrc" => (k_here; (k_dflt (refine LCg.CompSrc.range (by rfl) (by k_asm) (by k_asm) (by assumption) (by first | decide | rfl) (by first | rfl | decide) (by first | size_fits | exact Nat.le_of_ble_eq_true rfl) ?_); intro g9; lcg_lit)))
  (k_with "m call ref" => (k_here; (with_reducible show wpAny _ _ (call (Value.ref 392) [_, _, _, _]) _ _ _); k_dflt (apply useSide; k_extra "u5"; (focus first | exact rfl | assumption); (focus assumption); (focus first | assumption | (simp only [LCg.Off3, and_true]; assumption)); (focus assumption); (focus assumption); (focus assumption); k_extra "u9"); intro tp9 nd9 d9 nt9 mo9' i9 m9 u39 u49 np9 c9 t9 h9 tk9 F9 N9 lS9 oN9 st9 ty9 pc9 pd9 pe9; k_dflt (obtain ⟨su1, su2, su3, sm9, so9, ss9, sr9⟩ := id st9); (try dsimp only); (try k_fold)))
  (k_with "m FinA" => ((unfold LCg.FinA); intro D9 h9 tk9 F9 N9 oD9; replace F9 := look_store ▸ F9; (try simp only [List.nil_append, List.cons_append] at N9); (k_dflt (obtain ⟨oa9, ob9, oc9⟩ := oD9)); (try dsimp only)))
  (k_with "m execs cons" => (k_here; (with_reducible show wpAny _ _ (execs (Stmt.If (PySem.Expr.BoolOp _ _ _) _ _ _ :: _) _) _ _ _); first | k_dflt (exact hK _ _ D9 _ _ _ _ _ _ _ _ _ _ (by k_asm) (by k_asm) (by assumption) (by assumption) (by assumption) (by assumption) (Ne.symm oa9) (Ne.symm ob9) (off1_mem oc9) (fun q9 h9 => by repeat (first | exact h9 | apply List.mem_append_right)) (SideOk.mono (sideOk_of (by assumption) (by assumption) (by first | rfl | decide) (by intro h9; first | assumption | rfl | decide | exact absurd (h9.symm.trans (by assumption : tyd = true)) (by decide))) (fun q9 h9 => by repeat (first | exact h9 | apply List.mem_append_right))))))
  change wpAny (model PySem.Challenge.pw_nu0340_01 _) (ktrTop _ _ _ _ _ _ _ _ _ _) (execs (_ :: _) (envX _ _ _ _ _ _)) _ _ _; k_dflt (skip);  k_steps
set_option maxHeartbeats 8000000 in
theorem law_A2 {w : World} {loose : List Str} {mean : ExcName → Option Value} {mg mb : Str → Option Value} {dp un : Nat} {gd : Option (List Code)} {a : Addr} {ccd : Value} {cl : List (Str × Addr)} {outer : List Env} {A₀ : Around} {base h₀ : Heap} {L : Addr} {s : Shared} {Q : Flow → Shared → Prop} {E : Value → Shared → Prop} {c1 c2 c3 pl tys fg td : Addr} {i0 m0 c : Int} {u1 u2 t0 : Tok} {np : Nat} {y : Y9} {tyd : Bool} (cx : LawCx w loose mean mg mb dp un outer A₀ base h₀) (l : List (Str × Value)) (R : List (Addr × Obj)) (F : Fr h₀ L s.heap (look l)) (N : News h₀ L s.heap ((pl, poolObj fg i0 m0 u1 u2 np) :: (td, tysDict w.params y (.int c t0)) :: R))
    (tk3 : Tok) (vs : List Value) (ns : List Int) (nf : Nat) (hcl : cl = lawCells c1 c2 c3) (S : LawSt w.params R pl fg td tys y vs ns nf) (hi0 : 0 ≤ i0) (hm0 : 0 ≤ m0) (hm1 : m0 < 1009) (hC : CellsAt R c1 c2 c3 pl tys tyd) (f_many : look l (Str.ofString "many") = some (.int 2 tk3)) (hK : ∀ h1 tk1 sl i1 m1 u3 u4 np1 cc t1 R1 tp1 nd1 tp2 nd2, Fr h₀ L h1 (look ((Str.ofString "sides", .ref sl) :: l)) → News h₀ L h1 ((sl, W.listOf #[.ref tp1, .ref tp2] 2) :: (pl, poolObj fg i1 m1 u3 u4 np1) :: (td, tysDict w.params y (.int cc t1)) :: R1) → LawSt w.params R1 pl fg td tys y vs ns nf → 0 ≤ i1 → 0 ≤ m1 → m1 < 1009 → @Ne Nat sl pl → @Ne Nat sl td → (∀ q ∈ R1, q.1 ≠ sl) → (∀ q ∈ R, q ∈ R1) → SideOk w.params R1 tp1 nd1 20 tyd → SideOk w.params R1 tp2 nd2 30 false → lawWp w dp un gd L a ccd cl outer 11 Q E { s with heap := h1, toks := tk1 }) : lawWp w dp un gd L a ccd cl outer 10 Q E s := by
  obtain ⟨B, X, T, hd, hu⟩ := cx
  subst hcl
  obtain ⟨hT, hf, hI, hn, hl, hp, hq, hne⟩ := id S
  obtain ⟨⟨o1, a1, b1⟩, ⟨o2, a2, b2⟩, ⟨o3, a3, b3⟩⟩ := id hC
  have hown := hT.own
  (k_with "m sides" => (k_here; k_dflt (refine LCg.Assign_ListComp_U (F₀ := by k_asm) (by rfl) (by with_unfolding_all rfl) (by with_unfolding_all rfl) (by decide +kernel) (by rfl) (by decide +kernel) (by rfl) (by rfl) (by rfl) ?_)))
  (k_with "m CompSrc" => (k_here; (k_dflt (refine LCg.CompSrc.range (by rfl) (by k_asm) (by k_asm) (by assumption) (by first | decide | rfl) (by first | rfl | decide) (by first | size_fits | exact Nat.le_of_ble_eq_true rfl) ?_); intro g9; lcg_lit)))
  (k_with "m call ref" => (k_here; (with_reducible show wpAny _ _ (call (Value.ref 392) [_, _, _, _]) _ _ _); k_dflt (apply useSide; k_extra "u5"; (focus first | exact rfl | assumption); (focus assumption); (focus first | assumption | (simp only [LCg.Off3, and_true]; assumption)); (focus assumption); (focus assumption); (focus assumption); k_extra "u9"); intro tp9 nd9 d9 nt9 mo9' i9 m9 u39 u49 np9 c9 t9 h9 tk9 F9 N9 lS9 oN9 st9 ty9 pc9 pd9 pe9; k_dflt (obtain ⟨su1, su2, su3, sm9, so9, ss9, sr9⟩ := id st9); (try dsimp only); (try k_fold)))
  (k_with "m FinA" => ((unfold LCg.FinA); intro D9 h9 tk9 F9 N9 oD9; replace F9 := look_store ▸ F9; (try simp only [List.nil_append, List.cons_append] at N9); (k_dflt (obtain ⟨oa9, ob9, oc9⟩ := oD9)); (try dsimp only)))
  (k_with "m execs cons" => (k_here; (with_reducible show wpAny _ _ (execs (Stmt.If (PySem.Expr.BoolOp _ _ _) _ _ _ :: _) _) _ _ _); first | k_dflt (exact hK _ _ D9 _ _ _ _ _ _ _ _ _ _ _ _ (by k_asm) (by k_asm) (by assumption) (by assumption) (by assumption) (by assumption) (Ne.symm oa9) (Ne.symm ob9) (off1_mem oc9) (fun q9 h9 => by repeat (first | exact h9 | apply List.mem_append_right)) (SideOk.mono (sideOk_of (by assumption) (by assumption) (by first | rfl | decide) (by intro h9; first | assumption | rfl | decide | exact absurd (h9.symm.trans (by assumption : tyd = true)) (by decide))) (fun q9 h9 => by repeat (first | exact h9 | apply List.mem_append_right))) (SideOk.mono (sideOk_of (by assumption) (by assumption) (by first | rfl | decide) (by intro h9; first | assumption | rfl | decide | exact absurd (h9.symm.trans (by assumption : tyd = true)) (by decide))) (fun q9 h9 => by repeat (first | exact h9 | apply List.mem_append_right))))))
  change wpAny (model PySem.Challenge.pw_nu0340_01 _) (ktrTop _ _ _ _ _ _ _ _ _ _) (execs (_ :: _) (envX _ _ _ _ _ _)) _ _ _; k_dflt (skip);  k_steps
set_option maxHeartbeats 8000000 in
theorem law_A3 {w : World} {loose : List Str} {mean : ExcName → Option Value} {mg mb : Str → Option Value} {dp un : Nat} {gd : Option (List Code)} {a : Addr} {ccd : Value} {cl : List (Str × Addr)} {outer : List Env} {A₀ : Around} {base h₀ : Heap} {L : Addr} {s : Shared} {Q : Flow → Shared → Prop} {E : Value → Shared → Prop} {c1 c2 c3 pl tys fg td : Addr} {i0 m0 c : Int} {u1 u2 t0 : Tok} {np : Nat} {y : Y9} {tyd : Bool} (cx : LawCx w loose mean mg mb dp un outer A₀ base h₀) (l : List (Str × Value)) (R : List (Addr × Obj)) (F : Fr h₀ L s.heap (look l)) (N : News h₀ L s.heap ((pl, poolObj fg i0 m0 u1 u2 np) :: (td, tysDict w.params y (.int c t0)) :: R))
    (tk3 : Tok) (vs : List Value) (ns : List Int) (nf : Nat) (hcl : cl = lawCells c1 c2 c3) (S : LawSt w.params R pl fg td tys y vs ns nf) (hi0 : 0 ≤ i0) (hm0 : 0 ≤ m0) (hm1 : m0 < 1009) (hC : CellsAt R c1 c2 c3 pl tys tyd) (f_many : look l (Str.ofString "many") = some (.int 3 tk3)) (hK : ∀ h1 tk1 sl i1 m1 u3 u4 np1 cc t1 R1 tp1 nd1 tp2 nd2 tp3 nd3, Fr h₀ L h1 (look ((Str.ofString "sides", .ref sl) :: l)) → News h₀ L h1 ((sl, W.listOf #[.ref tp1, .ref tp2, .ref tp3] 3) :: (pl, poolObj fg i1 m1 u3 u4 np1) :: (td, tysDict w.params y (.int cc t1)) :: R1) → LawSt w.params R1 pl fg td tys y vs ns nf → 0 ≤ i1 → 0 ≤ m1 → m1 < 1009 → @Ne Nat sl pl → @Ne Nat sl td → (∀ q ∈ R1, q.1 ≠ sl) → (∀ q ∈ R, q ∈ R1) → SideOk w.params R1 tp1 nd1 20 tyd → SideOk w.params R1 tp2 nd2 30 false → SideOk w.params R1 tp3 nd3 40 false → lawWp w dp un gd L a ccd cl outer 11 Q E { s with heap := h1, toks := tk1 }) : lawWp w dp un gd L a ccd cl outer 10 Q E s := by
  obtain ⟨B, X, T, hd, hu⟩ := cx
  subst hcl
  obtain ⟨hT, hf, hI, hn, hl, hp, hq, hne⟩ := id S
  obtain ⟨⟨o1, a1, b1⟩, ⟨o2, a2, b2⟩, ⟨o3, a3, b3⟩⟩ := id hC
  have hown := hT.own
  (k_with "m sides" => (k_here; k_dflt (refine LCg.Assign_ListComp_U (F₀ := by k_asm) (by rfl) (by with_unfolding_all rfl) (by with_unfolding_all rfl) (by decide +kernel) (by rfl) (by decide +kernel) (by rfl) (by rfl) (by rfl) ?_)))
  (k_with "m CompSrc" => (k_here; (k_dflt (refine LCg.CompSrc.range (by rfl) (by k_asm) (by k_asm) (by assumption) (by first | decide | rfl) (by first | rfl | decide) (by first | size_fits | exact Nat.le_of_ble_eq_true rfl) ?_); intro g9; lcg_lit)))
  (k_with "m call ref" => (k_here; (with_reducible show wpAny _ _ (call (Value.ref 392) [_, _, _, _]) _ _ _); k_dflt (apply useSide; k_extra "u5"; (focus first | exact rfl | assumption); (focus assumption); (focus first | assumption | (simp only [LCg.Off3, and_true]; assumption)); (focus assumption); (focus assumption); (focus assumption); k_extra "u9"); intro tp9 nd9 d9 nt9 mo9' i9 m9 u39 u49 np9 c9 t9 h9 tk9 F9 N9 lS9 oN9 st9 ty9 pc9 pd9 pe9; k_dflt (obtain ⟨su1, su2, su3, sm9, so9, ss9, sr9⟩ := id st9); (try dsimp only); (try k_fold)))
  (k_with "m FinA" => ((unfold LCg.FinA); intro D9 h9 tk9 F9 N9 oD9; replace F9 := look_store ▸ F9; (try simp only [List.nil_append, List.cons_append] at N9); (k_dflt (obtain ⟨oa9, ob9, oc9⟩ := oD9)); (try dsimp only)))
  (k_with "m execs cons" => (k_here; (with_reducible show wpAny _ _ (execs (Stmt.If (PySem.Expr.BoolOp _ _ _) _ _ _ :: _) _) _ _ _); first | k_dflt (exact hK _ _ D9 _ _ _ _ _ _ _ _ _ _ _ _ _ _ (by k_asm) (by k_asm) (by assumption) (by assumption) (by assumption) (by assumption) (Ne.symm oa9) (Ne.symm ob9) (off1_mem oc9) (fun q9 h9 => by repeat (first | exact h9 | apply List.mem_append_right)) (SideOk.mono (sideOk_of (by assumption) (by assumption) (by first | rfl | decide) (by intro h9; first | assumption | rfl | decide | exact absurd (h9.symm.trans (by assumption : tyd = true)) (by decide))) (fun q9 h9 => by repeat (first | exact h9 | apply List.mem_append_right))) (SideOk.mono (sideOk_of (by assumption) (by assumption) (by first | rfl | decide) (by intro h9; first | assumption | rfl | decide | exact absurd (h9.symm.trans (by assumption : tyd = true)) (by decide))) (fun q9 h9 => by repeat (first | exact h9 | apply List.mem_append_right))) (SideOk.mono (sideOk_of (by assumption) (by assumption) (by first | rfl | decide) (by intro h9; first | assumption | rfl | decide | exact absurd (h9.symm.trans (by assumption : tyd = true)) (by decide))) (fun q9 h9 => by repeat (first | exact h9 | apply List.mem_append_right))))))
  change wpAny (model PySem.Challenge.pw_nu0340_01 _) (ktrTop _ _ _ _ _ _ _ _ _ _) (execs (_ :: _) (envX _ _ _ _ _ _)) _ _ _; k_dflt (skip);  k_steps
/-- what the law's frame says of its case -/
structure MidFr (l : List (Str × Value)) (n : Str) (st : Bool) (k : Int) (tn tk1 tk2 tk3 : Tok) : Prop where
  name : look l (Str.ofString "name") = some (.str n tn)
  fn : look l (Str.ofString "function") = some (.bool (isF n))
  stm : look l (Str.ofString "as_statement") = some (.bool st)
  lst : look l (Str.ofString "least") = some (.int (leastN n) tk1)
  mst : look l (Str.ofString "most") = some (.int (mostN n) tk2)
  mny : look l (Str.ofString "many") = some (.int k tk3)
theorem MidFr.same {S : List Str} {l l' : List (Str × Value)} {n : Str} {st : Bool} {k : Int} {tn tk1 tk2 tk3 : Tok} (h : MidFr l n st k tn tk1 tk2 tk3) (s : Same S l l')
    (d : ([Str.ofString "name", Str.ofString "function", Str.ofString "as_statement", Str.ofString "least", Str.ofString "most", Str.ofString "many"].all fun y => !(S.any fun x => x == y)) = true) : MidFr l' n st k tn tk1 tk2 tk3 := by
  simp only [List.all_cons, List.all_nil, Bool.and_eq_true, Bool.not_eq_true'] at d
  obtain ⟨d1, d2, d3, d4, d5, d6, _⟩ := d
  exact ⟨s _ _ d1 h.name, s _ _ d2 h.fn, s _ _ d3 h.stm, s _ _ d4 h.lst, s _ _ d5 h.mst, s _ _ d6 h.mny⟩
theorem tysAt_of {P : Params} {R : List (Addr × Obj)} {tys td : Addr} {y : Y9} {c : Int} {t : Tok} (T : TysIs P R tys td y) (h : (td, tysDict P y (.int c t)) ∈ R) : TysAt P R tys y.tb y.tc y.ti :=
  ⟨⟨td, y.k1, y.k2, y.k3, y.k4, y.k5, y.k6, y.k7, y.k8, y.k9, .int c t, y.c2, .ref y.ty, .ref y.tm, y.c5, y.c6⟩, T.own, h⟩
theorem resT_at {P : Params} {R : List (Addr × Obj)} {tys td : Addr} {y : Y9} (n : Str) (T : TysIs P R tys td y) : ∃ sz ln nu, TypeAt P R (resT n y.tb y.tc y.ti) (formN n) sz ln nu := by
  unfold resT formN
  by_cases h1 : (n == Str.ofString "ODD") = true
  · rw [if_pos h1, if_pos h1]; exact ⟨_, _, _, T.hb⟩
  rw [if_neg h1, if_neg h1]
  by_cases h2 : (n == Str.ofString "CHR") = true
  · rw [if_pos h2, if_pos h2]; exact ⟨_, _, _, T.hc⟩
  rw [if_neg h2, if_neg h2]
  exact ⟨_, _, _, T.hi⟩
theorem nodeOf {P : Params} {R : List (Addr × Obj)} {a : Addr} {pl : Int} {d : Sd} (h : SideAt P R a pl d) : ∃ op ty kd v, NodeAt P R a op pl ty kd v := by
  obtain ⟨ty, kids, v, h1, h2, h3⟩ := h
  exact ⟨_, _, _, _, h1⟩
theorem TupAt.mono {P : Params} {R R1 : List (Addr × Obj)} {tp : Addr} {nt : Nt} (h : TupAt P R tp nt) (s : ∀ q ∈ R, q ∈ R1) : TupAt P R1 tp nt := by
  obtain ⟨nd, t1, t2, vv, h1, h2⟩ := h
  exact ⟨nd, t1, t2, vv, s _ h1, h2⟩

theorem fin_E {w : World} {loose : List Str} {mean : ExcName → Option Value} {mg mb : Str → Option Value} {dp un : Nat} {gd : Option (List Code)} {a : Addr} {ccd : Value} {cl : List (Str × Addr)} {outer : List Env} {A₀ : Around} {base h₀ : Heap} {L : Addr} {s : Shared} {Q : Flow → Shared → Prop} {E : Value → Shared → Prop} (cx : LawCx w loose mean mg mb dp un outer A₀ base h₀) (l : List (Str × Value)) (nw : List (Addr × Obj)) (F : Fr h₀ L s.heap (look l)) (N : News h₀ L s.heap nw)
    (rest : List (Addr × Obj)) (x : Value) (er sl : Addr) (n : Str) (st : Bool) (tn tk1 tk2 tk3 : Tok) (hn : n ∈ names16) (ft : look l (Str.ofString "told") = some x) (fe : look l (Str.ofString "errors") = some (.ref er)) (fs : look l (Str.ofString "sides") = some (.ref sl)) (k : Int) (M : MidFr l n st k tn tk1 tk2 tk3) (hc : (useCode n k st == Str.ofString "") = false) (hP : EPost w.params rest er 5 (useCode n k st) st 5 x nw) (ret : LawRet h₀ L Q s) : lawWp w dp un gd L a ccd cl outer 14 Q E s := by
  obtain ⟨x1, ty, kd, v, rfl, sub, hE, hN⟩ := hP
  exact law_dE cx l nw F N x1 er st n k tk1 tk2 tk3 ty kd v hn ft fe M.stm M.fn M.lst M.mst M.mny hN hE hc ret

theorem fin_S1 {w : World} {loose : List Str} {mean : ExcName → Option Value} {mg mb : Str → Option Value} {dp un : Nat} {gd : Option (List Code)} {a : Addr} {ccd : Value} {cl : List (Str × Addr)} {outer : List Env} {A₀ : Around} {base h₀ : Heap} {L : Addr} {s : Shared} {Q : Flow → Shared → Prop} {E : Value → Shared → Prop} (cx : LawCx w loose mean mg mb dp un outer A₀ base h₀) (l : List (Str × Value)) (nw : List (Addr × Obj)) (F : Fr h₀ L s.heap (look l)) (N : News h₀ L s.heap nw)
    (rest : List (Addr × Obj)) (x : Value) (er sl : Addr) (n : Str) (tn tk1 tk2 tk3 : Tok) (hn : n ∈ names16) (ft : look l (Str.ofString "told") = some x) (fe : look l (Str.ofString "errors") = some (.ref er)) (fs : look l (Str.ofString "sides") = some (.ref sl)) (tp1 nd1 : Addr) (n3 : Nat) (d : Sd) (nt : Nt) (m0 : (sl, W.listOf #[.ref tp1] n3) ∈ rest) (sd : SideTup w.params rest tp1 nd1 20 d nt) (M : MidFr l n true 1 tn tk1 tk2 tk3) (hc : (useCode n 1 true == Str.ofString "") = true) (hs : d.sh ≠ .typ) (ti : Addr) (hP : CallS w.params rest er (scode1 n 20 d) n 5 ti [nd1] x nw) (ret : LawRet h₀ L Q s) : lawWp w dp un gd L a ccd cl outer 14 Q E s := by
  obtain ⟨q1, hb, h1, h2⟩ := use_one n hn true hc
  obtain ⟨x1, x2, x3, g1, g2, g3, g4⟩ := id sd
  have e := s1_law g4 hs hn hc
  rw [e] at hP
  rcases hP with ⟨hy, y1, ty, kd, v, rfl, sub, hE, hN⟩ | ⟨hy, hE, y1, k, t, rfl, sub, hN, hK⟩
  · exact law_dR cx l nw F N y1 er sl true n tn 1 tk1 tk2 tk3 (lfirst1 n nt) hb h1 h2 ft fe M.stm M.fn M.lst M.mst M.mny M.name fs (fun R1 h9 => law_first1_ok w R1 n tn sl tp1 n3 nt (h9 _ (sub _ m0)) (TupAt.mono (sd.mono sub).tup h9) q1)
      (fun _ => ⟨hE, _, _, _, hN⟩) (fun h => absurd (h.symm.trans hy) (by decide)) ret
  · refine law_dR cx l nw F N y1 er sl true n tn 1 tk1 tk2 tk3 (lfirst1 n nt) hb h1 h2 ft fe M.stm M.fn M.lst M.mst M.mny M.name fs (fun R1 h9 => law_first1_ok w R1 n tn sl tp1 n3 nt (h9 _ (sub _ m0)) (TupAt.mono (sd.mono sub).tup h9) q1)
      (fun h => absurd (hy.symm.trans h) (by decide)) (fun _ h1 tk9 du n1 l1 R1 F1 N1 sub1 mdu fdu sm => ?_) ret
    have M1 := M.same sm (by decide +kernel)
    have hs2 : ∀ q ∈ rest, q ∈ R1 := fun q hq => sub1 q (sub q hq)
    obtain ⟨op, ty1, kd1, v1, hn1⟩ := nodeOf (g3.mono hs2)
    rcases hK with ⟨hi, nk, c, kc, tc, mk, nc⟩ | ⟨hi, nk, mk⟩
    · exact law_wSi cx l1 R1 F1 N1 y1 du er sl k tp1 nd1 n1 nk n3 tn t tk3 (.str nt.ks x1) x3 (.str nt.fl x2) n op ty1 kd1 v1 (.ref ti) (.ref kc) c tc hi (sm _ _ (by decide +kernel) ft) fdu (sm _ _ (by decide +kernel) fe) (sm _ _ (by decide +kernel) fs) M1.stm M1.name M1.mny (hN.mono sub1) (sub1 _ mk) mdu (ErrAt.mono hE sub1) (hs2 _ m0) (hs2 _ g1) hn1 (nc.mono sub1) ret
    · exact law_wS1 cx l1 R1 F1 N1 y1 du er sl k tp1 nd1 n1 nk n3 tn t tk3 (.str nt.ks x1) x3 (.str nt.fl x2) n op ty1 kd1 v1 hi (sm _ _ (by decide +kernel) ft) fdu (sm _ _ (by decide +kernel) fe) (sm _ _ (by decide +kernel) fs) M1.stm M1.name M1.mny (hN.mono sub1) (sub1 _ mk) mdu (ErrAt.mono hE sub1) (hs2 _ m0) (hs2 _ g1) hn1 ret

theorem fin_S2 {w : World} {loose : List Str} {mean : ExcName → Option Value} {mg mb : Str → Option Value} {dp un : Nat} {gd : Option (List Code)} {a : Addr} {ccd : Value} {cl : List (Str × Addr)} {outer : List Env} {A₀ : Around} {base h₀ : Heap} {L : Addr} {s : Shared} {Q : Flow → Shared → Prop} {E : Value → Shared → Prop} (cx : LawCx w loose mean mg mb dp un outer A₀ base h₀) (l : List (Str × Value)) (nw : List (Addr × Obj)) (F : Fr h₀ L s.heap (look l)) (N : News h₀ L s.heap nw)
    (rest : List (Addr × Obj)) (x : Value) (er sl : Addr) (n : Str) (tn tk1 tk2 tk3 : Tok) (hn : n ∈ names16) (ft : look l (Str.ofString "told") = some x) (fe : look l (Str.ofString "errors") = some (.ref er)) (fs : look l (Str.ofString "sides") = some (.ref sl)) (tp1 nd1 tp2 nd2 : Addr) (n3 : Nat) (d d2 : Sd) (nt nt2 : Nt) (m0 : (sl, W.listOf #[.ref tp1, .ref tp2] n3) ∈ rest) (sd : SideTup w.params rest tp1 nd1 20 d nt) (sd2 : SideTup w.params rest tp2 nd2 30 d2 nt2) (M : MidFr l n true 2 tn tk1 tk2 tk3) (hc : (useCode n 2 true == Str.ofString "") = true) (hs : d.sh ≠ .typ) (hs9 : d2.sh ≠ .typ) (ti : Addr) (hP : CallS w.params rest er (scode2 n 20 30 d d2) n 5 ti [nd1, nd2] x nw) (ret : LawRet h₀ L Q s) : lawWp w dp un gd L a ccd cl outer 14 Q E s := by
  obtain ⟨hb, h1, h2⟩ := use_two n hn true hc
  obtain ⟨_, _, b1, b2, b3, b4, b5⟩ := use_two_st n hn hc
  obtain ⟨x1, x2, x3, g1, g2, g3, g4⟩ := id sd
  obtain ⟨z1, z2, z3, k1, k2, k3, k4⟩ := id sd2
  have e := s2_law (f := Str.ofString "") g4 k4 hs hs9 hn hc
  rcases hP with ⟨hy, y1, ty, kd, v, rfl, sub, hE, hN⟩ | ⟨hy, hE, y1, k, t, rfl, sub, hN, nk, mk⟩
  · rw [e.1] at hy
    exact law_dR cx l nw F N y1 er sl true n tn 2 tk1 tk2 tk3 (lfirst2 n (Str.ofString "") nt nt2) hb h1 h2 ft fe M.stm M.fn M.lst M.mst M.mny M.name fs (fun R1 h9 => law_first2_ok w R1 n tn sl tp1 tp2 n3 nt nt2 (h9 _ (sub _ m0)) (TupAt.mono (sd.mono sub).tup h9) (TupAt.mono (sd2.mono sub).tup h9) b1 b2 b3 b4 b5 (Str.ofString "")) (fun h => ⟨by rw [← e.2 h, ← e.1]; exact hE, _, _, _, hN⟩) (fun h => absurd (h.symm.trans hy) (by decide)) ret
  · rw [e.1] at hy
    refine law_dR cx l nw F N y1 er sl true n tn 2 tk1 tk2 tk3 (lfirst2 n (Str.ofString "") nt nt2) hb h1 h2 ft fe M.stm M.fn M.lst M.mst M.mny M.name fs (fun R1 h9 => law_first2_ok w R1 n tn sl tp1 tp2 n3 nt nt2 (h9 _ (sub _ m0)) (TupAt.mono (sd.mono sub).tup h9) (TupAt.mono (sd2.mono sub).tup h9) b1 b2 b3 b4 b5 (Str.ofString "")) (fun h => absurd (hy.symm.trans h) (by decide)) (fun _ h1 tk9 du n1 l1 R1 F1 N1 sub1 mdu fdu sm => ?_) ret
    have M1 := M.same sm (by decide +kernel)
    have hs2 : ∀ q ∈ rest, q ∈ R1 := fun q hq => sub1 q (sub q hq)
    obtain ⟨op, ty1, kd1, v1, hn1⟩ := nodeOf (g3.mono hs2)
    obtain ⟨op2, ty2, kd2, v2, hn2⟩ := nodeOf (k3.mono hs2)
    exact law_wS2 cx l1 R1 F1 N1 y1 du er sl k tp1 tp2 nd1 nd2 n1 nk n3 tn t tk3 (.str nt.ks x1) x3 (.str nt.fl x2) (.str nt2.ks z1) z3 (.str nt2.fl z2) n op op2 ty1 kd1 v1 ty2 kd2 v2 (sm _ _ (by decide +kernel) ft) fdu (sm _ _ (by decide +kernel) fe) (sm _ _ (by decide +kernel) fs) M1.stm M1.name M1.mny (hN.mono sub1) (sub1 _ mk) mdu (ErrAt.mono hE sub1) (hs2 _ m0) (hs2 _ g1) (hs2 _ k1) hn1 hn2 ret

theorem fin_F1s {w : World} {loose : List Str} {mean : ExcName → Option Value} {mg mb : Str → Option Value} {dp un : Nat} {gd : Option (List Code)} {a : Addr} {ccd : Value} {cl : List (Str × Addr)} {outer : List Env} {A₀ : Around} {base h₀ : Heap} {L : Addr} {s : Shared} {Q : Flow → Shared → Prop} {E : Value → Shared → Prop} (cx : LawCx w loose mean mg mb dp un outer A₀ base h₀) (l : List (Str × Value)) (nw : List (Addr × Obj)) (F : Fr h₀ L s.heap (look l)) (N : News h₀ L s.heap nw)
    (rest : List (Addr × Obj)) (x : Value) (er sl : Addr) (n : Str) (tn tk1 tk2 tk3 : Tok) (hn : n ∈ names16) (ft : look l (Str.ofString "told") = some x) (fe : look l (Str.ofString "errors") = some (.ref er)) (fs : look l (Str.ofString "sides") = some (.ref sl)) (tp1 nd1 : Addr) (n3 : Nat) (d : Sd) (nt : Nt) (m0 : (sl, W.listOf #[.ref tp1] n3) ∈ rest) (sd : SideTup w.params rest tp1 nd1 20 d nt) (M : MidFr l n false 1 tn tk1 tk2 tk3) (hc : (useCode n 1 false == Str.ofString "") = true) (tys td : Addr) (y : Y9) (hT : TysIs w.params rest tys td y) (hS : n = Str.ofString "SIZE") (hP : CallF w.params rest er (fcode1 n 20 d) n 5 (fnode1 n y.tb y.tc y.ti nd1 d) x nw) (ret : LawRet h₀ L Q s) : lawWp w dp un gd L a ccd cl outer 14 Q E s := by
  obtain ⟨q1, hb, h1, h2⟩ := use_one n hn false hc
  obtain ⟨x1, x2, x3, g1, g2, g3, g4⟩ := id sd
  have e : (fcode1 n 20 d).2 = (lfirst1 n nt).2 ∧ (((lfirst1 n nt).2 == Str.ofString "") = false → (fcode1 n 20 d).1 = 20 + 10 * (lfirst1 n nt).1) := by
    rw [hS]; exact size_law g4 (n := n) hn
  rcases hP with ⟨hy, y1, ty, kd, v, rfl, sub, hE, hN⟩ | ⟨hy, y1, rfl, sub, hE, hR⟩
  · rw [e.1] at hy
    exact law_dR cx l nw F N y1 er sl false n tn 1 tk1 tk2 tk3 (lfirst1 n nt) hb h1 h2 ft fe M.stm M.fn M.lst M.mst M.mny M.name fs (fun R1 h9 => law_first1_ok w R1 n tn sl tp1 n3 nt (h9 _ (sub _ m0)) (TupAt.mono (sd.mono sub).tup h9) q1) (fun h => ⟨by rw [← e.2 h, ← e.1]; exact hE, _, _, _, hN⟩) (fun h => absurd (h.symm.trans hy) (by decide)) ret
  · have hy0 := hy
    rw [e.1] at hy
    refine law_dR cx l nw F N y1 er sl false n tn 1 tk1 tk2 tk3 (lfirst1 n nt) hb h1 h2 ft fe M.stm M.fn M.lst M.mst M.mny M.name fs (fun R1 h9 => law_first1_ok w R1 n tn sl tp1 n3 nt (h9 _ (sub _ m0)) (TupAt.mono (sd.mono sub).tup h9) q1) (fun h => absurd (hy.symm.trans h) (by decide)) (fun _ h1 tk9 du n1 l1 R1 F1 N1 sub1 mdu fdu sm => ?_) ret
    have M1 := M.same sm (by decide +kernel)
    have hs2 : ∀ q ∈ rest, q ∈ R1 := fun q hq => sub1 q (sub q hq)
    subst hS
    have ht := size_typ hy0 (by decide)
    obtain ⟨ty, kids, v, hn1, ht1, hv⟩ := g3.mono hs2
    rw [ht] at hv
    obtain rfl : v = .ref ty := hv
    obtain ⟨kk, tt, hNx⟩ := hR
    exact law_wSIZE cx l1 R1 F1 N1 y1 du er sl kk tp1 nd1 n1 0 n3 tn tt tk3 (.str nt.ks x1) x3 (.str nt.fl x2) d.sz d.ln d.nu 4 0 4 y.ti ty d.form d.sh.op 20 (.ref kids) (sm _ _ (by decide +kernel) ft) fdu (sm _ _ (by decide +kernel) fe) (sm _ _ (by decide +kernel) fs) M1.stm M1.name (hNx.mono sub1) ((hT.mono hs2).hi) mdu (ErrAt.mono hE sub1) (hs2 _ m0) (hs2 _ g1) hn1 ht1 ret

theorem fin_F1l {w : World} {loose : List Str} {mean : ExcName → Option Value} {mg mb : Str → Option Value} {dp un : Nat} {gd : Option (List Code)} {a : Addr} {ccd : Value} {cl : List (Str × Addr)} {outer : List Env} {A₀ : Around} {base h₀ : Heap} {L : Addr} {s : Shared} {Q : Flow → Shared → Prop} {E : Value → Shared → Prop} (cx : LawCx w loose mean mg mb dp un outer A₀ base h₀) (l : List (Str × Value)) (nw : List (Addr × Obj)) (F : Fr h₀ L s.heap (look l)) (N : News h₀ L s.heap nw)
    (rest : List (Addr × Obj)) (x : Value) (er sl : Addr) (n : Str) (tn tk1 tk2 tk3 : Tok) (hn : n ∈ names16) (ft : look l (Str.ofString "told") = some x) (fe : look l (Str.ofString "errors") = some (.ref er)) (fs : look l (Str.ofString "sides") = some (.ref sl)) (tp1 nd1 : Addr) (n3 : Nat) (d : Sd) (nt : Nt) (m0 : (sl, W.listOf #[.ref tp1] n3) ∈ rest) (sd : SideTup w.params rest tp1 nd1 20 d nt) (M : MidFr l n false 1 tn tk1 tk2 tk3) (hc : (useCode n 1 false == Str.ofString "") = true) (tys td : Addr) (y : Y9) (hT : TysIs w.params rest tys td y) (hL : n = Str.ofString "LEN") (hs : d.sh ≠ .typ) (hP : CallF w.params rest er (fcode1 n 20 d) n 5 (fnode1 n y.tb y.tc y.ti nd1 d) x nw) (ret : LawRet h₀ L Q s) : lawWp w dp un gd L a ccd cl outer 14 Q E s := by
  obtain ⟨q1, hb, h1, h2⟩ := use_one n hn false hc
  obtain ⟨x1, x2, x3, g1, g2, g3, g4⟩ := id sd
  have e := f1_law g4 hs hn (.inl (by rw [hL]; decide)) hc
  rcases hP with ⟨hy, y1, ty, kd, v, rfl, sub, hE, hN⟩ | ⟨hy, y1, rfl, sub, hE, hR⟩
  · rw [e.1] at hy
    exact law_dR cx l nw F N y1 er sl false n tn 1 tk1 tk2 tk3 (lfirst1 n nt) hb h1 h2 ft fe M.stm M.fn M.lst M.mst M.mny M.name fs (fun R1 h9 => law_first1_ok w R1 n tn sl tp1 n3 nt (h9 _ (sub _ m0)) (TupAt.mono (sd.mono sub).tup h9) q1) (fun h => ⟨by rw [← e.2 h, ← e.1]; exact hE, _, _, _, hN⟩) (fun h => absurd (h.symm.trans hy) (by decide)) ret
  · have hy0 := hy
    rw [e.1] at hy
    refine law_dR cx l nw F N y1 er sl false n tn 1 tk1 tk2 tk3 (lfirst1 n nt) hb h1 h2 ft fe M.stm M.fn M.lst M.mst M.mny M.name fs (fun R1 h9 => law_first1_ok w R1 n tn sl tp1 n3 nt (h9 _ (sub _ m0)) (TupAt.mono (sd.mono sub).tup h9) q1) (fun h => absurd (hy.symm.trans h) (by decide)) (fun _ h1 tk9 du n1 l1 R1 F1 N1 sub1 mdu fdu sm => ?_) ret
    have M1 := M.same sm (by decide +kernel)
    have hs2 : ∀ q ∈ rest, q ∈ R1 := fun q hq => sub1 q (sub q hq)
    subst hL
    have hf : (d.form == Str.ofString "array") = true := by
      by_cases hf : (d.form == Str.ofString "array") = true
      · exact hf
      · have e3 : (fcode1 (Str.ofString "LEN") 20 d).2 = Str.ofString "not_an_array" := by
          unfold fcode1
          rw [if_neg (by decide), if_pos (by decide), if_neg hf]
        rw [e3] at hy0
        exact absurd hy0 (by decide)
    obtain ⟨ty, kids, v, hn1, ht1, hv⟩ := g3.mono hs2
    have e4 : fnode1 (Str.ofString "LEN") y.tb y.tc y.ti nd1 d = if 0 ≤ d.ln then (.const y.ti d.ln, Str.ofString "") else (.std y.ti [nd1], Str.ofString "") := by
      unfold fnode1
      rw [if_neg (by decide), if_pos (by decide)]
    rw [e4] at hE hR
    rcases rel_arr g4 hs hf with h3 | h3
    · rw [h3] at hE hR ht1
      obtain ⟨kk, tt, hNx⟩ := hR
      exact law_wLEN3 cx l1 R1 F1 N1 y1 du er sl kk tp1 nd1 n1 0 n3 tn tt tk3 (.str nt.ks x1) x3 (.str nt.fl x2) d.sz d.nu 4 0 4 y.ti ty d.form d.sh.op 20 (.ref kids) v (sm _ _ (by decide +kernel) ft) fdu (sm _ _ (by decide +kernel) fe) (sm _ _ (by decide +kernel) fs) M1.stm M1.name (hNx.mono sub1) ((hT.mono hs2).hi) mdu (ErrAt.mono hE sub1) (hs2 _ m0) (hs2 _ g1) hn1 ht1 ret
    · rw [h3] at hE hR ht1
      obtain ⟨kk, tt, nn, hNx, _⟩ := hR
      exact law_wLENn cx l1 R1 F1 N1 y1 du er sl kk tp1 nd1 n1 0 n3 tn tt tk3 (.str nt.ks x1) x3 (.str nt.fl x2) d.sz d.nu 4 0 4 y.ti ty d.form d.sh.op 20 (.ref kids) v (sm _ _ (by decide +kernel) ft) fdu (sm _ _ (by decide +kernel) fe) (sm _ _ (by decide +kernel) fs) M1.stm M1.name (hNx.mono sub1) ((hT.mono hs2).hi) mdu (ErrAt.mono hE sub1) (hs2 _ m0) (hs2 _ g1) hn1 ht1 ret

theorem fin_F1x {w : World} {loose : List Str} {mean : ExcName → Option Value} {mg mb : Str → Option Value} {dp un : Nat} {gd : Option (List Code)} {a : Addr} {ccd : Value} {cl : List (Str × Addr)} {outer : List Env} {A₀ : Around} {base h₀ : Heap} {L : Addr} {s : Shared} {Q : Flow → Shared → Prop} {E : Value → Shared → Prop} (cx : LawCx w loose mean mg mb dp un outer A₀ base h₀) (l : List (Str × Value)) (nw : List (Addr × Obj)) (F : Fr h₀ L s.heap (look l)) (N : News h₀ L s.heap nw)
    (rest : List (Addr × Obj)) (x : Value) (er sl : Addr) (n : Str) (tn tk1 tk2 tk3 : Tok) (hn : n ∈ names16) (ft : look l (Str.ofString "told") = some x) (fe : look l (Str.ofString "errors") = some (.ref er)) (fs : look l (Str.ofString "sides") = some (.ref sl)) (tp1 nd1 : Addr) (n3 : Nat) (d : Sd) (nt : Nt) (m0 : (sl, W.listOf #[.ref tp1] n3) ∈ rest) (sd : SideTup w.params rest tp1 nd1 20 d nt) (M : MidFr l n false 1 tn tk1 tk2 tk3) (hc : (useCode n 1 false == Str.ofString "") = true) (tys td : Addr) (y : Y9) (hT : TysIs w.params rest tys td y) (q2 : (n == Str.ofString "SIZE") = false) (q3 : (n == Str.ofString "LEN") = false) (q4 : isVS n = false) (hm : n ∈ [Str.ofString "ABS", Str.ofString "ODD", Str.ofString "ORD", Str.ofString "CHR"]) (hs : d.sh ≠ .typ) (hP : CallF w.params rest er (fcode1 n 20 d) n 5 (fnode1 n y.tb y.tc y.ti nd1 d) x nw) (ret : LawRet h₀ L Q s) : lawWp w dp un gd L a ccd cl outer 14 Q E s := by
  obtain ⟨q1, hb, h1, h2⟩ := use_one n hn false hc
  obtain ⟨x1, x2, x3, g1, g2, g3, g4⟩ := id sd
  have e := f1_law g4 hs hn (.inl q4) hc
  rcases hP with ⟨hy, y1, ty, kd, v, rfl, sub, hE, hN⟩ | ⟨hy, y1, rfl, sub, hE, hR⟩
  · rw [e.1] at hy
    exact law_dR cx l nw F N y1 er sl false n tn 1 tk1 tk2 tk3 (lfirst1 n nt) hb h1 h2 ft fe M.stm M.fn M.lst M.mst M.mny M.name fs (fun R1 h9 => law_first1_ok w R1 n tn sl tp1 n3 nt (h9 _ (sub _ m0)) (TupAt.mono (sd.mono sub).tup h9) q1) (fun h => ⟨by rw [← e.2 h, ← e.1]; exact hE, _, _, _, hN⟩) (fun h => absurd (h.symm.trans hy) (by decide)) ret
  · have hy0 := hy
    rw [e.1] at hy
    refine law_dR cx l nw F N y1 er sl false n tn 1 tk1 tk2 tk3 (lfirst1 n nt) hb h1 h2 ft fe M.stm M.fn M.lst M.mst M.mny M.name fs (fun R1 h9 => law_first1_ok w R1 n tn sl tp1 n3 nt (h9 _ (sub _ m0)) (TupAt.mono (sd.mono sub).tup h9) q1) (fun h => absurd (hy.symm.trans h) (by decide)) (fun _ h1 tk9 du n1 l1 R1 F1 N1 sub1 mdu fdu sm => ?_) ret
    have M1 := M.same sm (by decide +kernel)
    have hs2 : ∀ q ∈ rest, q ∈ R1 := fun q hq => sub1 q (sub q hq)
    obtain ⟨rz, rl, rn, hrt⟩ := resT_at n (hT.mono hs2)
    rcases rel_val g4 with ⟨v, hv, hv2, hd⟩ | ⟨hv, hd⟩
    · rw [fold_of q2 q3 hd] at hE hR
      obtain ⟨kk, tt, hNx⟩ := hR
      rw [hv] at g2
      obtain ⟨t6, rfl⟩ := g2
      have hvc : v ∈ intVals ∨ n = Str.ofString "ORD" := by
        by_cases ho : n = Str.ofString "ORD"
        · exact .inr ho
        · exact .inl (rel_int g4 (code_int hy0 q2 q3 (by simpa using ho)) hv).2
      have e7 := fold1_law n hm v hv2 hvc
      rw [e7.1] at hE
      exact law_wC1 cx l1 R1 F1 N1 y1 du er sl kk tp1 nd1 n1 0 n3 tn tt tk3 (.str nt.ks x1) (.int v t6) (.str nt.fl x2) n q2 q3 q1 v t6 rfl (folded1 n v).1 (lwork1 n v) (.ref kk) rz rl rn (resT n y.tb y.tc y.ti) e7.2 (ErrAt.mono hE sub1) (sm _ _ (by decide +kernel) ft) fdu (sm _ _ (by decide +kernel) fe) (sm _ _ (by decide +kernel) fs) M1.stm M1.name (fun R2 h9 => law_worked1_ok w R2 n tn sl tp1 nd1 n3 nt.ks nt.fl v x1 x2 t6 (h9 _ (hs2 _ m0)) (h9 _ (hs2 _ g1)) hm) (hNx.mono sub1) hrt mdu (hs2 _ m0) (hs2 _ g1) ret
    · have hop : (d.sh.op == Str.ofString "const") = false := by
        rcases hd with hd | ⟨d1, d2, d3⟩
        · exact (text_no hy0 (rel_wf g4) hd q2 q3).elim
        · exact op_nc d1 d2 d3
      rw [fnode1_std q2 q3 hop] at hE hR
      obtain ⟨kk, tt, nn, hNx, hk⟩ := hR
      rw [hv] at g2
      obtain rfl : x3 = .none := g2
      exact law_wN1 cx l1 R1 F1 N1 y1 du er sl kk tp1 nd1 n1 nn n3 tn tt tk3 (.str nt.ks x1) .none (.str nt.fl x2) n q2 q3 q1 rz rl rn (resT n y.tb y.tc y.ti) rfl (sm _ _ (by decide +kernel) ft) fdu (sm _ _ (by decide +kernel) fe) (sm _ _ (by decide +kernel) fs) M1.stm M1.name M1.mny (hNx.mono sub1) hrt (sub1 _ hk) mdu (ErrAt.mono hE sub1) (hs2 _ m0) (hs2 _ g1) ret

theorem fin_F2 {w : World} {loose : List Str} {mean : ExcName → Option Value} {mg mb : Str → Option Value} {dp un : Nat} {gd : Option (List Code)} {a : Addr} {ccd : Value} {cl : List (Str × Addr)} {outer : List Env} {A₀ : Around} {base h₀ : Heap} {L : Addr} {s : Shared} {Q : Flow → Shared → Prop} {E : Value → Shared → Prop} (cx : LawCx w loose mean mg mb dp un outer A₀ base h₀) (l : List (Str × Value)) (nw : List (Addr × Obj)) (F : Fr h₀ L s.heap (look l)) (N : News h₀ L s.heap nw)
    (rest : List (Addr × Obj)) (x : Value) (er sl : Addr) (n : Str) (tn tk1 tk2 tk3 : Tok) (hn : n ∈ names16) (ft : look l (Str.ofString "told") = some x) (fe : look l (Str.ofString "errors") = some (.ref er)) (fs : look l (Str.ofString "sides") = some (.ref sl)) (tp1 nd1 tp2 nd2 : Addr) (n3 : Nat) (d d2 : Sd) (nt nt2 : Nt) (m0 : (sl, W.listOf #[.ref tp1, .ref tp2] n3) ∈ rest) (sd : SideTup w.params rest tp1 nd1 20 d nt) (sd2 : SideTup w.params rest tp2 nd2 30 d2 nt2) (M : MidFr l n false 2 tn tk1 tk2 tk3) (hc : (useCode n 2 false == Str.ofString "") = true) (tys td : Addr) (y : Y9) (hT : TysIs w.params rest tys td y) (hm : n ∈ [Str.ofString "LSL", Str.ofString "ASR", Str.ofString "ROR"]) (i1 : isF n = true) (i2 : isIE n = false) (i3 : isID n = false) (hs : d.sh ≠ .typ) (hs9 : d2.sh ≠ .typ) (hP : CallF w.params rest er (fcode2 n 20 30 d d2) n 5 (fnode2 n y.tb y.tc y.ti nd1 nd2 d d2) x nw) (ret : LawRet h₀ L Q s) : lawWp w dp un gd L a ccd cl outer 14 Q E s := by
  obtain ⟨hb, h1, h2⟩ := use_two n hn false hc
  obtain ⟨b2, b3, b1, c1, c2, b4, c3, b5⟩ := three_names n hm
  obtain ⟨x1, x2, x3, g1, g2, g3, g4⟩ := id sd
  obtain ⟨z1, z2, z3, k1, k2, k3, k4⟩ := id sd2
  have e := f2_law (f := Str.ofString "") g4 k4 hs hs9 hn i1 i2 i3 b1
  rcases hP with ⟨hy, y1, ty, kd, v, rfl, sub, hE, hN⟩ | ⟨hy, y1, rfl, sub, hE, hR⟩
  · rw [e.1] at hy
    exact law_dR cx l nw F N y1 er sl false n tn 2 tk1 tk2 tk3 (lfirst2 n (Str.ofString "") nt nt2) hb h1 h2 ft fe M.stm M.fn M.lst M.mst M.mny M.name fs (fun R1 h9 => law_first2_ok w R1 n tn sl tp1 tp2 n3 nt nt2 (h9 _ (sub _ m0)) (TupAt.mono (sd.mono sub).tup h9) (TupAt.mono (sd2.mono sub).tup h9) b1 b2 b3 b4 b5 (Str.ofString "")) (fun h => ⟨by rw [← e.2 h, ← e.1]; exact hE, _, _, _, hN⟩) (fun h => absurd (h.symm.trans hy) (by decide)) ret
  · have hy0 := hy
    rw [e.1] at hy
    refine law_dR cx l nw F N y1 er sl false n tn 2 tk1 tk2 tk3 (lfirst2 n (Str.ofString "") nt nt2) hb h1 h2 ft fe M.stm M.fn M.lst M.mst M.mny M.name fs (fun R1 h9 => law_first2_ok w R1 n tn sl tp1 tp2 n3 nt nt2 (h9 _ (sub _ m0)) (TupAt.mono (sd.mono sub).tup h9) (TupAt.mono (sd2.mono sub).tup h9) b1 b2 b3 b4 b5 (Str.ofString "")) (fun h => absurd (hy.symm.trans h) (by decide)) (fun _ h1 tk9 du n1 l1 R1 F1 N1 sub1 mdu fdu sm => ?_) ret
    have M1 := M.same sm (by decide +kernel)
    have hs2 : ∀ q ∈ rest, q ∈ R1 := fun q hq => sub1 q (sub q hq)
    obtain ⟨rz, rl, rn, hrt⟩ := resT_at n (hT.mono hs2)
    obtain ⟨f1, f2, f3⟩ := code2_ints b1 hy0
    cases hv : nt.ov with
    | none =>
      rw [hv] at g2
      obtain rfl : x3 = .none := g2
      rw [fnode2_std (.inl (none_int g4 f1 hv))] at hE hR
      obtain ⟨kk, tt, nn, hNx, hk⟩ := hR
      cases hv2 : nt2.ov with
      | none =>
        rw [hv2] at k2
        obtain rfl : z3 = .none := k2
        exact law_wN2a cx l1 R1 F1 N1 y1 du er sl kk tp1 tp2 nd1 nd2 n1 nn n3 tn tt tk3 (.str nt.ks x1) .none (.str nt.fl x2) (.str nt2.ks z1) .none (.str nt2.fl z2) n b2 b3 b1 rz rl rn (resT n y.tb y.tc y.ti) rfl rfl (sm _ _ (by decide +kernel) ft) fdu (sm _ _ (by decide +kernel) fe) (sm _ _ (by decide +kernel) fs) M1.stm M1.name M1.mny (hNx.mono sub1) hrt (sub1 _ hk) mdu (ErrAt.mono hE sub1) (hs2 _ m0) (hs2 _ g1) (hs2 _ k1) ret
      | some j =>
        rw [hv2] at k2
        obtain ⟨t8, rfl⟩ := k2
        exact law_wN2b cx l1 R1 F1 N1 y1 du er sl kk tp1 tp2 nd1 nd2 n1 nn n3 tn tt tk3 (.str nt.ks x1) .none (.str nt.fl x2) (.str nt2.ks z1) (.int j t8) (.str nt2.fl z2) n b2 b3 b1 rz rl rn (resT n y.tb y.tc y.ti) j t8 rfl rfl (sm _ _ (by decide +kernel) ft) fdu (sm _ _ (by decide +kernel) fe) (sm _ _ (by decide +kernel) fs) M1.stm M1.name M1.mny (hNx.mono sub1) hrt (sub1 _ hk) mdu (ErrAt.mono hE sub1) (hs2 _ m0) (hs2 _ g1) (hs2 _ k1) ret
    | some v =>
      rw [hv] at g2
      obtain ⟨t6, rfl⟩ := g2
      have e8 := rel_int g4 f1 hv
      cases hv2 : nt2.ov with
      | none =>
        rw [hv2] at k2
        obtain rfl : z3 = .none := k2
        rw [fnode2_std (.inr (none_int k4 f2 hv2))] at hE hR
        obtain ⟨kk, tt, nn, hNx, hk⟩ := hR
        exact law_wN2c cx l1 R1 F1 N1 y1 du er sl kk tp1 tp2 nd1 nd2 n1 nn n3 tn tt tk3 (.str nt.ks x1) (.int v t6) (.str nt.fl x2) (.str nt2.ks z1) .none (.str nt2.fl z2) n b2 b3 b1 rz rl rn (resT n y.tb y.tc y.ti) v t6 rfl rfl (sm _ _ (by decide +kernel) ft) fdu (sm _ _ (by decide +kernel) fe) (sm _ _ (by decide +kernel) fs) M1.stm M1.name M1.mny (hNx.mono sub1) hrt (sub1 _ hk) mdu (ErrAt.mono hE sub1) (hs2 _ m0) (hs2 _ g1) (hs2 _ k1) ret
      | some j =>
        rw [hv2] at k2
        obtain ⟨t8, rfl⟩ := k2
        have e9 := rel_int k4 f2 hv2
        rw [e9.1] at f3
        have hj := range_in f3
        rw [fnode2_const e8.1 e9.1] at hE hR
        obtain ⟨kk, tt, hNx⟩ := hR
        have e7 := fold2_law n hm v e8.2 j e9.2 hj.1 hj.2
        rw [e7] at hNx
        have e6 : lcode n (lwork2 n v j) = Str.ofString "" := lcode_nil (lcode_three n hm).1 (lcode_three n hm).2
        exact law_wC2 cx l1 R1 F1 N1 y1 du er sl kk tp1 tp2 nd1 nd2 n1 0 n3 tn tt tk3 (.str nt.ks x1) (.int v t6) (.str nt.fl x2) (.str nt2.ks z1) (.int j t8) (.str nt2.fl z2) n b2 b3 b1 v j t6 t8 rfl rfl (lwork2 n v j) (lwork2 n v j) (.ref kk) rz rl rn (resT n y.tb y.tc y.ti) (fun _ => rfl) (by rw [e6]; exact ErrAt.mono hE sub1) (sm _ _ (by decide +kernel) ft) fdu (sm _ _ (by decide +kernel) fe) (sm _ _ (by decide +kernel) fs) M1.stm M1.name (fun R2 h9 => law_worked2_ok w R2 n tn sl tp1 nd1 tp2 nd2 n3 nt.ks nt.fl nt2.ks nt2.fl v j x1 x2 t6 z1 z2 t8 (h9 _ (hs2 _ m0)) (h9 _ (hs2 _ g1)) (h9 _ (hs2 _ k1)) (rel_bound g4 v e8.1) hj hm) (hNx.mono sub1) hrt mdu (hs2 _ m0) (hs2 _ g1) (hs2 _ k1) ret

theorem fin_Vn {w : World} {loose : List Str} {mean : ExcName → Option Value} {mg mb : Str → Option Value} {dp un : Nat} {gd : Option (List Code)} {a : Addr} {ccd : Value} {cl : List (Str × Addr)} {outer : List Env} {A₀ : Around} {base h₀ : Heap} {L : Addr} {s : Shared} {Q : Flow → Shared → Prop} {E : Value → Shared → Prop} (cx : LawCx w loose mean mg mb dp un outer A₀ base h₀) (l : List (Str × Value)) (nw : List (Addr × Obj)) (F : Fr h₀ L s.heap (look l)) (N : News h₀ L s.heap nw)
    (rest : List (Addr × Obj)) (x : Value) (er sl : Addr) (n : Str) (tn tk1 tk2 tk3 : Tok) (hn : n ∈ names16) (ft : look l (Str.ofString "told") = some x) (fe : look l (Str.ofString "errors") = some (.ref er)) (fs : look l (Str.ofString "sides") = some (.ref sl)) (tp1 nd1 tp2 nd2 : Addr) (n3 : Nat) (d d2 : Sd) (nt nt2 : Nt) (m0 : (sl, W.listOf #[.ref tp1, .ref tp2] n3) ∈ rest) (sd : SideTup w.params rest tp1 nd1 20 d nt) (sd2 : SideTup w.params rest tp2 nd2 30 d2 nt2) (M : MidFr l n false 2 tn tk1 tk2 tk3) (hc : (useCode n 2 false == Str.ofString "") = true) (hV : n = Str.ofString "VAL") (hs : d.sh ≠ .typ) (hP : EPost w.params rest er (fcode2 (Str.ofString "VAL") 20 30 d d2).1 (fcode2 (Str.ofString "VAL") 20 30 d d2).2 false 5 x nw) (ret : LawRet h₀ L Q s) : lawWp w dp un gd L a ccd cl outer 14 Q E s := by
  obtain ⟨hb, h1, h2⟩ := use_two n hn false hc
  subst hV
  obtain ⟨x1, x2, x3, g1, g2, g3, g4⟩ := id sd
  have e1 : fcode2 (Str.ofString "VAL") 20 30 d d2 = (20, Str.ofString "not_a_type") := by
    unfold fcode2
    rw [if_pos (by decide), if_pos (op_typ hs)]
  have e2 : lfirst2 (Str.ofString "VAL") d.form nt nt2 = (0, Str.ofString "not_a_type") := by
    unfold lfirst2
    rw [if_pos (by decide), if_pos (rel_ks g4 hs)]
  rw [e1] at hP
  obtain ⟨y1, ty, kd, v, rfl, sub, hE, hN⟩ := hP
  exact law_dR cx l nw F N y1 er sl false (Str.ofString "VAL") tn 2 tk1 tk2 tk3 (lfirst2 (Str.ofString "VAL") d.form nt nt2) hb h1 h2 ft fe M.stm M.fn M.lst M.mst M.mny M.name fs (fun R1 h9 => law_firstV_ok w R1 rest tn sl tp1 tp2 nd1 n3 20 d nt nt2 (h9 _ (sub _ m0)) sd (fun q hq => h9 q (sub q hq)) (TupAt.mono (sd2.mono sub).tup h9)) (fun _ => ⟨by rw [e2]; exact hE, _, _, _, hN⟩) (fun h => by rw [e2] at h; exact absurd h (by decide)) ret

theorem fin_Vt {w : World} {loose : List Str} {mean : ExcName → Option Value} {mg mb : Str → Option Value} {dp un : Nat} {gd : Option (List Code)} {a : Addr} {ccd : Value} {cl : List (Str × Addr)} {outer : List Env} {A₀ : Around} {base h₀ : Heap} {L : Addr} {s : Shared} {Q : Flow → Shared → Prop} {E : Value → Shared → Prop} (cx : LawCx w loose mean mg mb dp un outer A₀ base h₀) (l : List (Str × Value)) (nw : List (Addr × Obj)) (F : Fr h₀ L s.heap (look l)) (N : News h₀ L s.heap nw)
    (rest : List (Addr × Obj)) (x : Value) (er sl : Addr) (n : Str) (tn tk1 tk2 tk3 : Tok) (hn : n ∈ names16) (ft : look l (Str.ofString "told") = some x) (fe : look l (Str.ofString "errors") = some (.ref er)) (fs : look l (Str.ofString "sides") = some (.ref sl)) (tp1 nd1 tp2 nd2 : Addr) (n3 : Nat) (d d2 : Sd) (nt nt2 : Nt) (m0 : (sl, W.listOf #[.ref tp1, .ref tp2] n3) ∈ rest) (sd : SideTup w.params rest tp1 nd1 20 d nt) (sd2 : SideTup w.params rest tp2 nd2 30 d2 nt2) (M : MidFr l n false 2 tn tk1 tk2 tk3) (hc : (useCode n 2 false == Str.ofString "") = true) (hV : n = Str.ofString "VAL") (ht : d.sh = .typ) (hs9 : d2.sh ≠ .typ) (ty1 kd1 : Addr) (s1 : NodeAt w.params rest nd1 (Str.ofString "type") 20 (.ref ty1) (.ref kd1) (.ref ty1)) (hty : TypeAt w.params rest ty1 d.form d.sz d.ln d.nu)
    (hP : VPostF w.params rest er (fcode2 (Str.ofString "VAL") 20 30 ⟨.typ, d.form, d.sz, d.ln, d.nu⟩ d2) 5 (vnode ty1 d.form nd2 d2) x nw) (ret : LawRet h₀ L Q s) : lawWp w dp un gd L a ccd cl outer 14 Q E s := by
  obtain ⟨hb, h1, h2⟩ := use_two n hn false hc
  subst hV
  obtain ⟨x1, x2, x3, g1, g2, g3, g4⟩ := id sd
  obtain ⟨z1, z2, z3, k1, k2, k3, k4⟩ := id sd2
  obtain ⟨hf, hks⟩ := rel_typ g4 ht
  have e1 : fcode2 (Str.ofString "VAL") 20 30 ⟨.typ, d.form, d.sz, d.ln, d.nu⟩ d2 = (30, valCode d.form d2) := by
    unfold fcode2
    rw [if_pos (by decide), if_neg (by show ¬ (Str.ofString "type" != Str.ofString "type") = true; decide)]
  have e2 : lfirst2 (Str.ofString "VAL") d.form nt nt2 = (1, valCode d.form d2) := by
    unfold lfirst2
    rw [if_pos (by decide), hks, if_neg (by decide), val_code_law k4 hs9 hf]
  rw [e1] at hP
  rcases hP with ⟨hy, y1, ty, kd, v, rfl, sub, hE, hN⟩ | ⟨hy, y1, rfl, sub, hE, hR⟩
  · exact law_dR cx l nw F N y1 er sl false (Str.ofString "VAL") tn 2 tk1 tk2 tk3 (lfirst2 (Str.ofString "VAL") d.form nt nt2) hb h1 h2 ft fe M.stm M.fn M.lst M.mst M.mny M.name fs (fun R1 h9 => law_firstV_ok w R1 rest tn sl tp1 tp2 nd1 n3 20 d nt nt2 (h9 _ (sub _ m0)) sd (fun q hq => h9 q (sub q hq)) (TupAt.mono (sd2.mono sub).tup h9)) (fun h => ⟨by rw [e2]; exact hE, _, _, _, hN⟩) (fun h => by rw [e2] at h; exact absurd (h.symm.trans hy) (by decide)) ret
  · refine law_dR cx l nw F N y1 er sl false (Str.ofString "VAL") tn 2 tk1 tk2 tk3 (lfirst2 (Str.ofString "VAL") d.form nt nt2) hb h1 h2 ft fe M.stm M.fn M.lst M.mst M.mny M.name fs (fun R1 h9 => law_firstV_ok w R1 rest tn sl tp1 tp2 nd1 n3 20 d nt nt2 (h9 _ (sub _ m0)) sd (fun q hq => h9 q (sub q hq)) (TupAt.mono (sd2.mono sub).tup h9)) (fun h => by rw [e2] at h; exact absurd (hy.symm.trans h) (by decide)) (fun _ h1 tk9 du n1 l1 R1 F1 N1 sub1 mdu fdu sm => ?_) ret
    have M1 := M.same sm (by decide +kernel)
    have hs2 : ∀ q ∈ rest, q ∈ R1 := fun q hq => sub1 q (sub q hq)
    have hk3 := k3.mono hs2
    rcases rel_val k4 with ⟨v, hv, hv2, hd⟩ | ⟨hv, hd⟩
    · rw [vnode_const hd, val_value_law d.form hf v hv2 (rec_no hy)] at hR
      obtain ⟨kk, tt, hNx⟩ := hR
      rw [hv] at k2
      obtain ⟨t5, rfl⟩ := k2
      exact law_wVALc cx l1 R1 F1 N1 y1 du er sl kk tp1 tp2 nd1 nd2 n1 0 n3 tn tt tk3 (.str nt.ks x1) x3 (.str nt.fl x2) (.str nt2.ks z1) (.int v t5) (.str nt2.fl z2) d.sz d.ln d.nu ty1 d.form (Str.ofString "type") (Str.ofString "type") 20 30 (.ref ty1) (.ref kd1) v t5 rfl (sm _ _ (by decide +kernel) ft) fdu (sm _ _ (by decide +kernel) fe) (sm _ _ (by decide +kernel) fs) M1.stm M1.name (hNx.mono sub1) (hty.mono hs2) mdu (ErrAt.mono hE sub1) (hs2 _ m0) (hs2 _ g1) (hs2 _ k1) (s1.mono hs2) ret
    · rcases hd with hd | ⟨d1, d3, d4⟩
      · exact (val_no_text (rel_wf k4) hy hd).elim
      rw [vnode_std d1 d3] at hR
      obtain ⟨kk, tt, nn, hNx, hk⟩ := hR
      rw [hv] at k2
      obtain rfl : z3 = .none := k2
      obtain ⟨ty2, kd2, v2, hn2, _⟩ := hk3
      exact law_wVALs cx l1 R1 F1 N1 y1 du er sl kk tp1 tp2 nd1 nd2 n1 nn n3 tn tt tk3 (.str nt.ks x1) x3 (.str nt.fl x2) (.str nt2.ks z1) .none (.str nt2.fl z2) d.sz d.ln d.nu ty1 d.form (Str.ofString "type") d2.sh.op 20 30 (.ref ty1) (.ref kd1) (.ref ty2) (.ref kd2) v2 rfl (sm _ _ (by decide +kernel) ft) fdu (sm _ _ (by decide +kernel) fe) (sm _ _ (by decide +kernel) fs) M1.stm M1.name (hNx.mono sub1) (sub1 _ hk) (hty.mono hs2) mdu (ErrAt.mono hE sub1) (hs2 _ m0) (hs2 _ g1) (hs2 _ k1) (s1.mono hs2) hn2 ret
theorem law_mid0 {w : World} {loose : List Str} {mean : ExcName → Option Value} {mg mb : Str → Option Value} {dp un : Nat} {gd : Option (List Code)} {a : Addr} {ccd : Value} {cl : List (Str × Addr)} {c1 c2 c3 pl tys fg td : Addr} {i0 m0 c : Int} {u1 u2 t0 : Tok} {np : Nat} {y : Y9} {outer : List Env} {A₀ : Around} {base h₀ : Heap} {L : Addr} {s : Shared} {Q : Flow → Shared → Prop} {E : Value → Shared → Prop} (cx : LawCx w loose mean mg mb dp un outer A₀ base h₀) (l : List (Str × Value)) (R : List (Addr × Obj)) (F : Fr h₀ L s.heap (look l)) (N : News h₀ L s.heap ((pl, poolObj fg i0 m0 u1 u2 np) :: (td, tysDict w.params y (.int c t0)) :: R))
    (n : Str) (st : Bool) (tn tk1 tk2 tk3 : Tok) (hn : n ∈ names16) (M : MidFr l n st 0 tn tk1 tk2 tk3) (vs : List Value) (ns : List Int) (nf : Nat) (hcl : cl = lawCells c1 c2 c3) (S : LawSt w.params R pl fg td tys y vs ns nf) (hi0 : 0 ≤ i0) (hm0 : 0 ≤ m0) (hm1 : m0 < 1009) (hC : CellsAt R c1 c2 c3 pl tys (isVS n))  (ret : LawRet h₀ L Q s) : lawWp w dp un gd L a ccd cl outer 10 Q E s := by
  refine law_A0 cx l R F N tk3 vs ns nf hcl S hi0 hm0 hm1 hC M.mny ?_
  intro g1 tg1 sl i1 m1 u3 u4 np1 cc t1 R1  F1 N1 S1 p1 p2 p3 ne1 ne2 ne3 sub1 
  have M1 : MidFr ((Str.ofString "sides", .ref sl) :: l) n st 0 tn tk1 tk2 tk3 := M.same (Same.push (S := [Str.ofString "sides"]) (by decide +kernel) Same.refl) (by decide +kernel)
  refine law_B0 (s := { s with heap := g1, toks := tg1 }) cx _ R1 F1 N1 0 hcl vs ns nf S1 p1 p2 p3 (hC.mono sub1) ne1 ne2 ne3 look_hit ?_
  intro g2 tg2 l2 R2 n3 F2 N2 sm2 sub2 msl htd
  have M2 := M1.same sm2 (by decide +kernel)
  have hs2 := sm2 _ _ (by decide +kernel) (look_hit (x := Str.ofString "sides") (v := .ref sl) (l := l))
  obtain ⟨o2, hc2, hd2⟩ := ((hC.mono sub1).mono sub2).h2
  have hT2 := S1.hT.mono sub2
  refine law_T0 (s := { s with heap := g2, toks := tg2 }) cx l2 R2 F2 N2 c1 c2 c3 tys sl n3 o2 n tn st hcl hc2 hd2 hs2 M2.name M2.stm msl ?_
  intro er de r p k1 k2 o rest ar n1 hE subr har
  have hTy := tysAt_of (hT2.mono subr) (subr _ htd)
  refine ⟨_, fun tp => std_callE_ok w rest er de r p k1 k2 o hE tys y.tb y.tc y.ti hTy ar n1 [] har trivial (Nat.le_of_ble_eq_true rfl) n tn st (use_none n hn st) 5 tp, ?_⟩
  intro x nw hP g3 tg3 l3 F3 N3 ft fe sm3
  exact fin_E (s := { s with heap := g3, toks := tg3 }) cx l3 nw F3 N3 rest x er sl n st tn tk1 tk2 tk3 hn ft fe (sm3 _ _ (by decide +kernel) hs2) 0 (M2.same sm3 (by decide +kernel)) (use_none n hn st) hP ret
theorem law_mid3 {w : World} {loose : List Str} {mean : ExcName → Option Value} {mg mb : Str → Option Value} {dp un : Nat} {gd : Option (List Code)} {a : Addr} {ccd : Value} {cl : List (Str × Addr)} {c1 c2 c3 pl tys fg td : Addr} {i0 m0 c : Int} {u1 u2 t0 : Tok} {np : Nat} {y : Y9} {outer : List Env} {A₀ : Around} {base h₀ : Heap} {L : Addr} {s : Shared} {Q : Flow → Shared → Prop} {E : Value → Shared → Prop} (cx : LawCx w loose mean mg mb dp un outer A₀ base h₀) (l : List (Str × Value)) (R : List (Addr × Obj)) (F : Fr h₀ L s.heap (look l)) (N : News h₀ L s.heap ((pl, poolObj fg i0 m0 u1 u2 np) :: (td, tysDict w.params y (.int c t0)) :: R))
    (n : Str) (st : Bool) (tn tk1 tk2 tk3 : Tok) (hn : n ∈ names16) (M : MidFr l n st 3 tn tk1 tk2 tk3) (vs : List Value) (ns : List Int) (nf : Nat) (hcl : cl = lawCells c1 c2 c3) (S : LawSt w.params R pl fg td tys y vs ns nf) (hi0 : 0 ≤ i0) (hm0 : 0 ≤ m0) (hm1 : m0 < 1009) (hC : CellsAt R c1 c2 c3 pl tys (isVS n))  (ret : LawRet h₀ L Q s) : lawWp w dp un gd L a ccd cl outer 10 Q E s := by
  refine law_A3 cx l R F N tk3 vs ns nf hcl S hi0 hm0 hm1 hC M.mny ?_
  intro g1 tg1 sl i1 m1 u3 u4 np1 cc t1 R1 tp1 nd1 tp2 nd2 tp3 nd3 F1 N1 S1 p1 p2 p3 ne1 ne2 ne3 sub1 so1 so2 so3
  have M1 : MidFr ((Str.ofString "sides", .ref sl) :: l) n st 3 tn tk1 tk2 tk3 := M.same (Same.push (S := [Str.ofString "sides"]) (by decide +kernel) Same.refl) (by decide +kernel)
  refine law_B3 (s := { s with heap := g1, toks := tg1 }) cx _ R1 F1 N1 nd1 3 hcl vs ns nf S1 p1 p2 p3 (hC.mono sub1) ne1 ne2 ne3 look_hit so1 ?_
  intro g2 tg2 l2 R2 n3 tpx ndx F2 N2 sm2 sub2 msl htd sx1
  have M2 := M1.same sm2 (by decide +kernel)
  have hs2 := sm2 _ _ (by decide +kernel) (look_hit (x := Str.ofString "sides") (v := .ref sl) (l := l))
  obtain ⟨o2, hc2, hd2⟩ := ((hC.mono sub1).mono sub2).h2
  have hT2 := S1.hT.mono sub2
  obtain ⟨d1, nt1, sd1, hy1⟩ := sx1
  obtain ⟨x1a, x1c, x1b, ma1, mb1, mc1, md1⟩ := id sd1
  obtain ⟨d2, nt2, sd2, hy2⟩ := ((so2.mono sub2))
  obtain ⟨x2a, x2c, x2b, ma2, mb2, mc2, md2⟩ := id sd2
  obtain ⟨d3, nt3, sd3, hy3⟩ := ((so3.mono sub2))
  obtain ⟨x3a, x3c, x3b, ma3, mb3, mc3, md3⟩ := id sd3
  refine law_T3 (s := { s with heap := g2, toks := tg2 }) cx l2 R2 F2 N2 c1 c2 c3 tys sl tpx ndx tp2 nd2 tp3 nd3 n3 o2 n tn st (.str nt1.ks x1a) x1b (.str nt1.fl x1c) (.str nt2.ks x2a) x2b (.str nt2.fl x2c) (.str nt3.ks x3a) x3b (.str nt3.fl x3c) hcl hc2 hd2 hs2 M2.name M2.stm msl ma1 ma2 ma3 ?_
  intro er de r p k1 k2 o rest ar n1 hE subr har
  have hTy := tysAt_of (hT2.mono subr) (subr _ htd)
  refine ⟨_, fun tp => std_callE_ok w rest er de r p k1 k2 o hE tys y.tb y.tc y.ti hTy ar n1 [ndx, nd2, nd3] har (headAt_of (mc1.mono subr)) (Nat.le_of_ble_eq_true rfl) n tn st (use_three n hn st) 5 tp, ?_⟩
  intro x nw hP g3 tg3 l3 F3 N3 ft fe sm3
  exact fin_E (s := { s with heap := g3, toks := tg3 }) cx l3 nw F3 N3 rest x er sl n st tn tk1 tk2 tk3 hn ft fe (sm3 _ _ (by decide +kernel) hs2) 3 (M2.same sm3 (by decide +kernel)) (use_three n hn st) hP ret
theorem law_mid1 {w : World} {loose : List Str} {mean : ExcName → Option Value} {mg mb : Str → Option Value} {dp un : Nat} {gd : Option (List Code)} {a : Addr} {ccd : Value} {cl : List (Str × Addr)} {c1 c2 c3 pl tys fg td : Addr} {i0 m0 c : Int} {u1 u2 t0 : Tok} {np : Nat} {y : Y9} {outer : List Env} {A₀ : Around} {base h₀ : Heap} {L : Addr} {s : Shared} {Q : Flow → Shared → Prop} {E : Value → Shared → Prop} (cx : LawCx w loose mean mg mb dp un outer A₀ base h₀) (l : List (Str × Value)) (R : List (Addr × Obj)) (F : Fr h₀ L s.heap (look l)) (N : News h₀ L s.heap ((pl, poolObj fg i0 m0 u1 u2 np) :: (td, tysDict w.params y (.int c t0)) :: R))
    (n : Str) (st : Bool) (tn tk1 tk2 tk3 : Tok) (hn : n ∈ names16) (M : MidFr l n st 1 tn tk1 tk2 tk3) (vs : List Value) (ns : List Int) (nf : Nat) (hcl : cl = lawCells c1 c2 c3) (S : LawSt w.params R pl fg td tys y vs ns nf) (hi0 : 0 ≤ i0) (hm0 : 0 ≤ m0) (hm1 : m0 < 1009) (hC : CellsAt R c1 c2 c3 pl tys (isVS n))  (ret : LawRet h₀ L Q s) : lawWp w dp un gd L a ccd cl outer 10 Q E s := by
  refine law_A1 cx l R F N tk3 vs ns nf hcl S hi0 hm0 hm1 hC M.mny ?_
  intro g1 tg1 sl i1 m1 u3 u4 np1 cc t1 R1 tp1 nd1 F1 N1 S1 p1 p2 p3 ne1 ne2 ne3 sub1 so1
  have M1 : MidFr ((Str.ofString "sides", .ref sl) :: l) n st 1 tn tk1 tk2 tk3 := M.same (Same.push (S := [Str.ofString "sides"]) (by decide +kernel) Same.refl) (by decide +kernel)
  refine law_B1 (s := { s with heap := g1, toks := tg1 }) cx _ R1 F1 N1 nd1 1 hcl vs ns nf S1 p1 p2 p3 (hC.mono sub1) ne1 ne2 ne3 look_hit so1 ?_
  intro g2 tg2 l2 R2 n3 tpx ndx F2 N2 sm2 sub2 msl htd sx1
  have M2 := M1.same sm2 (by decide +kernel)
  have hs2 := sm2 _ _ (by decide +kernel) (look_hit (x := Str.ofString "sides") (v := .ref sl) (l := l))
  obtain ⟨o2, hc2, hd2⟩ := ((hC.mono sub1).mono sub2).h2
  have hT2 := S1.hT.mono sub2
  obtain ⟨d1, nt1, sd1, hy1⟩ := sx1
  obtain ⟨x1a, x1c, x1b, ma1, mb1, mc1, md1⟩ := id sd1
  refine law_T1 (s := { s with heap := g2, toks := tg2 }) cx l2 R2 F2 N2 c1 c2 c3 tys sl tpx ndx n3 o2 n tn st (.str nt1.ks x1a) x1b (.str nt1.fl x1c) hcl hc2 hd2 hs2 M2.name M2.stm msl ma1 ?_
  intro er de r p k1 k2 o rest ar n1 hE subr har
  have hTy := tysAt_of (hT2.mono subr) (subr _ htd)
  by_cases hc : (useCode n 1 st == Str.ofString "") = true
  · have q1 := (use_one n hn st hc).1
    cases st with
    | true =>
      have hs := hy1 (use_one_st n hn hc).2
      refine ⟨_, fun tp => std_callS1_ok w rest er de r p k1 k2 o hE ar ndx n1 20 d1 har (mc1.mono subr) (rel_wf md1) tys y.tb y.tc y.ti hTy n tn hc 5 tp, ?_⟩
      intro x nw hP g3 tg3 l3 F3 N3 ft fe sm3
      exact fin_S1 (s := { s with heap := g3, toks := tg3 }) cx l3 nw F3 N3 rest x er sl n tn tk1 tk2 tk3 hn ft fe (sm3 _ _ (by decide +kernel) hs2) tpx ndx n3 d1 nt1 (subr _ msl) (sd1.mono subr) (M2.same sm3 (by decide +kernel)) hc hs y.ti hP ret
    | false =>
      have hF1 := fun h9 => std_callF1_ok w rest er de r p k1 k2 o hE ar ndx n1 20 d1 har (mc1.mono subr) (rel_wf md1) tys y.tb y.tc y.ti hTy n tn q1 h9 (rel_bound md1) hc 5
      rcases use_one_fn n hn hc with q | q | ⟨q2, q3, q4, q5⟩
      · refine ⟨_, hF1 (fun _ _ _ a => absurd (q.symm.trans a) (by decide)), ?_⟩
        intro x nw hP g3 tg3 l3 F3 N3 ft fe sm3
        exact fin_F1s (s := { s with heap := g3, toks := tg3 }) cx l3 nw F3 N3 rest x er sl n tn tk1 tk2 tk3 hn ft fe (sm3 _ _ (by decide +kernel) hs2) tpx ndx n3 d1 nt1 (subr _ msl) (sd1.mono subr) (M2.same sm3 (by decide +kernel)) hc tys td y (hT2.mono subr) (eq_of_beq q) hP ret
      · refine ⟨_, hF1 (fun _ _ _ _ a => absurd (q.symm.trans a) (by decide)), ?_⟩
        intro x nw hP g3 tg3 l3 F3 N3 ft fe sm3
        exact fin_F1l (s := { s with heap := g3, toks := tg3 }) cx l3 nw F3 N3 rest x er sl n tn tk1 tk2 tk3 hn ft fe (sm3 _ _ (by decide +kernel) hs2) tpx ndx n3 d1 nt1 (subr _ msl) (sd1.mono subr) (M2.same sm3 (by decide +kernel)) hc tys td y (hT2.mono subr) (eq_of_beq q) (hy1 (by rw [eq_of_beq q]; decide)) hP ret
      · refine ⟨_, hF1 (fun a b c _ _ => (four_names n q5).2.2.2 a b c), ?_⟩
        intro x nw hP g3 tg3 l3 F3 N3 ft fe sm3
        exact fin_F1x (s := { s with heap := g3, toks := tg3 }) cx l3 nw F3 N3 rest x er sl n tn tk1 tk2 tk3 hn ft fe (sm3 _ _ (by decide +kernel) hs2) tpx ndx n3 d1 nt1 (subr _ msl) (sd1.mono subr) (M2.same sm3 (by decide +kernel)) hc tys td y (hT2.mono subr) q2 q3 q4 q5 (hy1 q4) hP ret
  · have hc' : (useCode n 1 st == Str.ofString "") = false := by simpa using hc
    refine ⟨_, fun tp => std_callE_ok w rest er de r p k1 k2 o hE tys y.tb y.tc y.ti hTy ar n1 [ndx] har (headAt_of (mc1.mono subr)) (Nat.le_of_ble_eq_true rfl) n tn st hc' 5 tp, ?_⟩
    intro x nw hP g3 tg3 l3 F3 N3 ft fe sm3
    exact fin_E (s := { s with heap := g3, toks := tg3 }) cx l3 nw F3 N3 rest x er sl n st tn tk1 tk2 tk3 hn ft fe (sm3 _ _ (by decide +kernel) hs2) 1 (M2.same sm3 (by decide +kernel)) hc' hP ret
theorem law_mid2 {w : World} {loose : List Str} {mean : ExcName → Option Value} {mg mb : Str → Option Value} {dp un : Nat} {gd : Option (List Code)} {a : Addr} {ccd : Value} {cl : List (Str × Addr)} {c1 c2 c3 pl tys fg td : Addr} {i0 m0 c : Int} {u1 u2 t0 : Tok} {np : Nat} {y : Y9} {outer : List Env} {A₀ : Around} {base h₀ : Heap} {L : Addr} {s : Shared} {Q : Flow → Shared → Prop} {E : Value → Shared → Prop} (cx : LawCx w loose mean mg mb dp un outer A₀ base h₀) (l : List (Str × Value)) (R : List (Addr × Obj)) (F : Fr h₀ L s.heap (look l)) (N : News h₀ L s.heap ((pl, poolObj fg i0 m0 u1 u2 np) :: (td, tysDict w.params y (.int c t0)) :: R))
    (n : Str) (st : Bool) (tn tk1 tk2 tk3 : Tok) (hn : n ∈ names16) (M : MidFr l n st 2 tn tk1 tk2 tk3) (vs : List Value) (ns : List Int) (nf : Nat) (hcl : cl = lawCells c1 c2 c3) (S : LawSt w.params R pl fg td tys y vs ns nf) (hi0 : 0 ≤ i0) (hm0 : 0 ≤ m0) (hm1 : m0 < 1009) (hC : CellsAt R c1 c2 c3 pl tys (isVS n))  (ret : LawRet h₀ L Q s) : lawWp w dp un gd L a ccd cl outer 10 Q E s := by
  refine law_A2 cx l R F N tk3 vs ns nf hcl S hi0 hm0 hm1 hC M.mny ?_
  intro g1 tg1 sl i1 m1 u3 u4 np1 cc t1 R1 tp1 nd1 tp2 nd2 F1 N1 S1 p1 p2 p3 ne1 ne2 ne3 sub1 so1 so2
  have M1 : MidFr ((Str.ofString "sides", .ref sl) :: l) n st 2 tn tk1 tk2 tk3 := M.same (Same.push (S := [Str.ofString "sides"]) (by decide +kernel) Same.refl) (by decide +kernel)
  refine law_B2 (s := { s with heap := g1, toks := tg1 }) cx _ R1 F1 N1 nd1 2 hcl vs ns nf S1 p1 p2 p3 (hC.mono sub1) ne1 ne2 ne3 look_hit so1 ?_
  intro g2 tg2 l2 R2 n3 tpx ndx F2 N2 sm2 sub2 msl htd sx1
  have M2 := M1.same sm2 (by decide +kernel)
  have hs2 := sm2 _ _ (by decide +kernel) (look_hit (x := Str.ofString "sides") (v := .ref sl) (l := l))
  obtain ⟨o2, hc2, hd2⟩ := ((hC.mono sub1).mono sub2).h2
  have hT2 := S1.hT.mono sub2
  obtain ⟨d1, nt1, sd1, hy1⟩ := sx1
  obtain ⟨x1a, x1c, x1b, ma1, mb1, mc1, md1⟩ := id sd1
  obtain ⟨d2, nt2, sd2, hy2⟩ := ((so2.mono sub2))
  obtain ⟨x2a, x2c, x2b, ma2, mb2, mc2, md2⟩ := id sd2
  refine law_T2 (s := { s with heap := g2, toks := tg2 }) cx l2 R2 F2 N2 c1 c2 c3 tys sl tpx ndx tp2 nd2 n3 o2 n tn st (.str nt1.ks x1a) x1b (.str nt1.fl x1c) (.str nt2.ks x2a) x2b (.str nt2.fl x2c) hcl hc2 hd2 hs2 M2.name M2.stm msl ma1 ma2 ?_
  intro er de r p k1 k2 o rest ar n1 hE subr har
  have hTy := tysAt_of (hT2.mono subr) (subr _ htd)
  have hs2' := hy2 rfl
  by_cases hc : (useCode n 2 st == Str.ofString "") = true
  · cases st with
    | true =>
      have hu := use_two_st n hn hc
      have hs := hy1 hu.2.1
      refine ⟨_, fun tp => std_callS2_ok w rest er de r p k1 k2 o hE ar ndx nd2 n1 20 30 d1 d2 har (mc1.mono subr) (mc2.mono subr) (rel_wf md1) (rel_wf md2) tys y.tb y.tc y.ti hTy n tn hu.2.2.2.2.2.2 hc 5 tp, ?_⟩
      intro x nw hP g3 tg3 l3 F3 N3 ft fe sm3
      exact fin_S2 (s := { s with heap := g3, toks := tg3 }) cx l3 nw F3 N3 rest x er sl n tn tk1 tk2 tk3 hn ft fe (sm3 _ _ (by decide +kernel) hs2) tpx ndx tp2 nd2 n3 d1 d2 nt1 nt2 (subr _ msl) (sd1.mono subr) (sd2.mono subr) (M2.same sm3 (by decide +kernel)) hc hs hs2' y.ti hP ret
    | false =>
      rcases use_two_fn n hn hc with q | ⟨q1, q2, q3, q4, q5⟩
      · have hV := eq_of_beq q
        by_cases ht : d1.sh = .typ
        · obtain ⟨ty1, kd1, v1, s1, hty, hv⟩ := mc1.mono subr
          rw [ht] at s1 hv
          obtain rfl : v1 = .ref ty1 := hv
          subst hV
          refine ⟨_, fun tp => std_callFt_ok w rest er de r p k1 k2 o hE ar ndx nd2 n1 20 30 d2 ty1 kd1 d1.form d1.sz d1.ln d1.nu har s1 hty (mc2.mono subr) (rel_wf md2) tys y.tb y.tc y.ti hTy tn 5 tp, ?_⟩
          intro x nw hP g3 tg3 l3 F3 N3 ft fe sm3
          exact fin_Vt (s := { s with heap := g3, toks := tg3 }) cx l3 nw F3 N3 rest x er sl (Str.ofString "VAL") tn tk1 tk2 tk3 hn ft fe (sm3 _ _ (by decide +kernel) hs2) tpx ndx tp2 nd2 n3 d1 d2 nt1 nt2 (subr _ msl) (sd1.mono subr) (sd2.mono subr) (M2.same sm3 (by decide +kernel)) hc rfl ht hs2' ty1 kd1 s1 hty hP ret
        · subst hV
          have hcf : ((fcode2 (Str.ofString "VAL") 20 30 d1 d2).2 == Str.ofString "") = false := by
            unfold fcode2
            rw [if_pos (by decide), if_pos (op_typ ht)]
            decide
          refine ⟨_, fun tp => std_callFn_ok w rest er de r p k1 k2 o hE ar ndx nd2 n1 20 30 d1 d2 har (mc1.mono subr) (mc2.mono subr) (rel_wf md1) (rel_wf md2) tys y.tb y.tc y.ti hTy tn hcf (by have := op_typ ht; simpa [bne] using this) 5 tp, ?_⟩
          intro x nw hP g3 tg3 l3 F3 N3 ft fe sm3
          exact fin_Vn (s := { s with heap := g3, toks := tg3 }) cx l3 nw F3 N3 rest x er sl (Str.ofString "VAL") tn tk1 tk2 tk3 hn ft fe (sm3 _ _ (by decide +kernel) hs2) tpx ndx tp2 nd2 n3 d1 d2 nt1 nt2 (subr _ msl) (sd1.mono subr) (sd2.mono subr) (M2.same sm3 (by decide +kernel)) hc rfl ht hP ret
      · obtain ⟨b2, b3, b1, c1', c2', b4, c3', b5⟩ := three_names n q5
        refine ⟨_, fun tp => std_callF2_ok w rest er de r p k1 k2 o hE ar ndx nd2 n1 20 30 d1 d2 har (mc1.mono subr) (mc2.mono subr) (rel_wf md1) (rel_wf md2) tys y.tb y.tc y.ti hTy n tn b2 b3 b1 c1' c2' b4 c3' (rel_bound md1) hc 5 tp, ?_⟩
        intro x nw hP g3 tg3 l3 F3 N3 ft fe sm3
        exact fin_F2 (s := { s with heap := g3, toks := tg3 }) cx l3 nw F3 N3 rest x er sl n tn tk1 tk2 tk3 hn ft fe (sm3 _ _ (by decide +kernel) hs2) tpx ndx tp2 nd2 n3 d1 d2 nt1 nt2 (subr _ msl) (sd1.mono subr) (sd2.mono subr) (M2.same sm3 (by decide +kernel)) hc tys td y (hT2.mono subr) q5 q2 q3 q4 (hy1 q1) hs2' hP ret
  · have hc' : (useCode n 2 st == Str.ofString "") = false := by simpa using hc
    refine ⟨_, fun tp => std_callE_ok w rest er de r p k1 k2 o hE tys y.tb y.tc y.ti hTy ar n1 [ndx, nd2] har (headAt_of (mc1.mono subr)) (Nat.le_of_ble_eq_true rfl) n tn st hc' 5 tp, ?_⟩
    intro x nw hP g3 tg3 l3 F3 N3 ft fe sm3
    exact fin_E (s := { s with heap := g3, toks := tg3 }) cx l3 nw F3 N3 rest x er sl n st tn tk1 tk2 tk3 hn ft fe (sm3 _ _ (by decide +kernel) hs2) 2 (M2.same sm3 (by decide +kernel)) hc' hP ret
theorem perm_app {a : Addr × Obj} {l m : List (Addr × Obj)} : ∀ q ∈ a :: (m ++ l), q ∈ a :: l ++ m := fun q hq => by
  rcases List.mem_cons.mp hq with rfl | hq
  · exact .head _
  · exact .tail _ ((List.mem_append.mp hq).elim (fun h => List.mem_append_right _ h) fun h => List.mem_append_left _ h)
theorem hi_all {t a : Addr} {l : List (Addr × Obj)} (f : ∀ q ∈ l, @LT.lt Nat _ t q.1) (h : @LT.lt Nat _ a t) : ∀ p ∈ l, p.1 ≠ a := fun p hp => Nat.ne_of_gt (Nat.lt_trans h (f p hp))
theorem hi_self {t : Addr} {l : List (Addr × Obj)} (f : ∀ q ∈ l, @LT.lt Nat _ t q.1) : ∀ p ∈ l, p.1 ≠ t := fun p hp => Nat.ne_of_gt (f p hp)
theorem words_law : True := by
  k_with "all" => first | exact hi_self (by with_reducible assumption) | (refine hi_all (by with_reducible assumption) ?_; k_extra "lo"; done)
  k_with "m call ref" => (k_here; (with_reducible show wpAny _ _ (call (Value.ref 367) _) _ _ _); k_dflt (show wpAny _ _ (call (Value.ref 367) []) _ _ _; apply useA; k_extra "u5"; (focus first | exact rfl | assumption); (focus (apply types_cls_ok; done)); k_extra "u9"); intro r9 nw9 h9 tk9 F9 N9 ho9; k_dflt (obtain ⟨tys9, td9, y9, c9, t9, mo9, e9, e8, T9, ab9, lt9⟩ := ho9; subst e9; subst e8; replace N9 := cb_drop N9 perm_app; dsimp only [List.cons_append, List.nil_append] at N9); (try k_sweep); (try dsimp only); (try k_fold))
  k_with "u9" => ((focus exact Nat.le_of_ble_eq_true rfl); (focus exact Nat.le_of_ble_eq_true rfl); k_whole)
  k_with "m call ref" => (k_here; (with_reducible show wpAny _ _ (call (Value.ref 378) [_]) _ _ _); k_dflt (apply usePool; k_extra "u5"; (focus first | exact rfl | assumption); (focus k_asm); (focus assumption); (focus assumption); (focus assumption); k_extra "u9"); intro pl fg mix pu1 pu2 np nf pvs pns h9 tk9 F9 N9 pI p0 pL pm0 pm1 pne pnc; k_dflt (obtain ⟨⟨pn1, pn2⟩, pnc⟩ := List.forall_mem_cons.mp pnc; obtain ⟨⟨pn3, pn4⟩, pnc⟩ := List.forall_mem_cons.mp pnc; obtain ⟨⟨pn5, pn6⟩, pnc⟩ := List.forall_mem_cons.mp pnc; clear pnc; dsimp only at pn1 pn2 pn3 pn4 pn5 pn6); (try k_sweep); (try dsimp only); (try k_fold))
  k_with "m eval Name" => (apply nameL; (focus with_reducible assumption); (focus ((repeat (first | with_reducible exact look_hit | (apply look_miss; kernel_rfl))); done)); (focus decide +kernel); k_whole)
  k_with "m storeName" => (apply storeL; (focus with_reducible assumption); (focus with_reducible assumption); (focus decide +kernel); k_whole; intro h' F' N'; (try k_sweep))
  trivial
theorem no_list {o : Obj} {v : Option Value} (h : o.data = .cell v) : ∀ its n, o ≠ W.listOf its n := fun its n e => by
  subst e
  cases h
theorem cells3 {h₀ h : Heap} {L a1 a2 a3 : Addr} {o1 o2 o3 : Obj} {v1 v2 v3 : Option Value} (_N : News h₀ L h [(a1, o1), (a2, o2), (a3, o3)]) (h1 : o1.data = .cell v1) (h2 : o2.data = .cell v2) (h3 : o3.data = .cell v3) :
    ∀ q ∈ [(a1, o1), (a2, o2), (a3, o3)], ∀ its n, q.2 ≠ W.listOf its n :=
  List.forall_mem_cons.mpr ⟨no_list h1, List.forall_mem_cons.mpr ⟨no_list h2, List.forall_mem_cons.mpr ⟨no_list h3, List.forall_mem_nil _⟩⟩⟩
theorem frame1 {h₀ h : Heap} {L sa : Addr} {x : Str} {its : Array Value} {m : Str → Option Value} (_S : h₀.IsList sa its) (F : Fr h₀ L h m) (e : (fun y => if y = x then some (.ref sa) else look [] y) = m) : Fr h₀ L h (look [(x, .ref sa)]) := by
  subst e
  rw [← look_store]
  exact F
theorem below_of {h₀ h x : Heap} {L : Addr} {m : Str → Option Value} (_F : Fr h₀ L h m) (B : Below callerA x [] x) (e : x = h₀) : Below callerA h₀ [] h₀ := e ▸ B
noncomputable def StepV (h₀ : Heap) (L : Addr) (l : List (Str × Value)) (x : Str) (news : List (Addr × Obj)) (V : Value → Prop) (s : Shared) : Flow → Shared → Prop := fun fl s' =>
  fl = .next ∧ ∃ v h' tk, V v ∧ s' = { s with heap := h', toks := tk } ∧ Fr h₀ L h' (look ((x, v) :: l)) ∧ News h₀ L h' news
section
variable {prog : Program} {w : World} {A : Around} {E : Value → Shared → Prop} {s : Shared} {env : Env} {h₀ : Heap} {L k9 : Addr} {l : List (Str × Value)} {news : List (Addr × Obj)} {st : Stmt} {rest : List Stmt} {Q : Flow → Shared → Prop} {n : Str} {tn : Tok}
theorem mergeN (x : Str) (f : Str → Int) (_F : Fr h₀ L s.heap (look l)) (_N : News h₀ L s.heap news) (_hn : look l (Str.ofString "name") = some (.str n tn))
    (h1 : wpAny (model prog w) A (exec st env) (StepV h₀ L l x news (fun v => ∃ t, v = .int (f n) t) s) E s)
    (h2 : ∀ t h' tk, Fr h₀ L h' (look ((x, .int (f n) t) :: l)) → News h₀ L h' news → wpAny (model prog w) A (execs rest env) Q E { s with heap := h', toks := tk }) : wpAny (model prog w) A (execs (st :: rest) env) Q E s := by
  refine wpAny_execs_cons (wpAny_mono h1 ?_ fun _ _ h => h)
  rintro fl s' ⟨rfl, v, h', tk, ⟨t, rfl⟩, rfl, F', N'⟩
  exact h2 t h' tk F' N'
theorem itemStr {its : Array Value} {l : Addr} {m : Nat} {k : Int} {u : Tok} {value slice : PySem.Expr} {Q : Value → Shared → Prop} (S : List Str) (N : News h₀ L s.heap news) (hm : (l, W.listOf its m) ∈ news) (h0 : 0 ≤ k) (h1 : k < (its.size : Nat)) (hsz : its.size ≤ 20) (hall : ∀ v ∈ its.toList, ∃ n t, v = Value.str n t ∧ n ∈ S)
    (h : ∀ n t, n ∈ S → Q (.str n t) s) (hs : subscripted slice false (.ref l) (.int k u) = operate [.ref l, .int k u] (getItem (.ref l) (.int k u)) := by with_unfolding_all rfl) :
    wpAny (model prog w) A (subscriptTail value slice (.ref l) (.int k u)) Q E s :=
  itemAny N hm h0 h1 hsz (fun v hv => by obtain ⟨n, t, rfl, hn⟩ := hall v (List.mem_of_getElem? hv); exact h n t hn) hs
theorem itemInt {its : Array Value} {l : Addr} {m : Nat} {k : Int} {u : Tok} {value slice : PySem.Expr} {Q : Value → Shared → Prop} (N : News h₀ L s.heap news) (hm : (l, W.listOf its m) ∈ news) (h0 : 0 ≤ k) (h1 : k < (its.size : Nat)) (hsz : its.size ≤ 20) (hall : ∀ v ∈ its.toList, ∃ i t, v = Value.int i t ∧ (0 : Int) ≤ i ∧ i ≤ 3)
    (h : ∀ i t, 0 ≤ i → i ≤ 3 → Q (.int i t) s) (hs : subscripted slice false (.ref l) (.int k u) = operate [.ref l, .int k u] (getItem (.ref l) (.int k u)) := by with_unfolding_all rfl) :
    wpAny (model prog w) A (subscriptTail value slice (.ref l) (.int k u)) Q E s :=
  itemAny N hm h0 h1 hsz (fun v hv => by obtain ⟨n, t, rfl, hn, hn'⟩ := hall v (List.mem_of_getElem? hv); exact h n t hn hn') hs
end
theorem words_at_41 : True := by
  k_with "m call type:list" => k_extra "m list"
  trivial
theorem words_at_42 : True := by
  k_with "m getMethod ref" => k_extra "m getMethod"
  trivial
local macro_rules | `(tactic| k_mem) => `(tactic| with_reducible assumption)
theorem upto3 {x : Int} (h0 : 0 ≤ x) (h1 : x ≤ 3) : x = 0 ∨ x = 1 ∨ x = 2 ∨ x = 3 := by omega
theorem keep6 {h₀ h : Heap} {L : Addr} {news mo : List (Addr × Obj)} {o1 o2 o3 o4 o5 o6 : Obj} (pl td fg : Addr) (N : News h₀ L h news) (h1 : (pl, o1) ∈ news) (h2 : (td, o2) ∈ news) (h3 : (fg, o3) ∈ news) (h4 : (L + 1 + 1 + 1, o4) ∈ news) (h5 : (L + 1 + 1, o5) ∈ news) (h6 : (L + 1, o6) ∈ news) (hm : ∀ q ∈ mo, q ∈ news) :
    News h₀ L h ((pl, o1) :: (td, o2) :: (fg, o3) :: (L + 1 + 1 + 1, o4) :: (L + 1 + 1, o5) :: (L + 1, o6) :: mo) :=
  cb_drop N (List.forall_mem_cons.mpr ⟨h1, List.forall_mem_cons.mpr ⟨h2, List.forall_mem_cons.mpr ⟨h3, List.forall_mem_cons.mpr ⟨h4, List.forall_mem_cons.mpr ⟨h5, List.forall_mem_cons.mpr ⟨h6, hm⟩⟩⟩⟩⟩⟩)
structure Kept (p : Prop) : Prop where
  h : p
theorem keep_on {p : Prop} (h : p) : Kept p := ⟨h⟩
theorem keep_off {p : Prop} (h : Kept p) : p := h.h
theorem le_then {p q : Prop} (h : p) (k : p → q) : q := k h
theorem lawSt0 {P : Params} {h₀ h : Heap} {L pl td fg tys c3 c2 c1 : Addr} {y : Y9} {mo : List (Addr × Obj)} {o1 o2 o4 o5 o6 q1 q2 q3 q4 q5 : Obj} {vs : List Value} {ns : List Int} {nf : Nat} (_N : News h₀ L h ((pl, o1) :: (td, o2) :: (fg, W.listOf vs.toArray nf) :: (c3, o4) :: (c2, o5) :: (c1, o6) :: mo))
    (T9 : TysIs P mo tys td y) (ab : ∀ q ∈ mo, @LT.lt Nat _ td q.1) (lt : ∀ q ∈ [(pl, q1), (fg, q2), (c3, q3), (c2, q4), (c1, q5)], @LT.lt Nat _ q.1 td) (n1 : @Ne Nat fg pl) (n2 : @Ne Nat pl c3) (n3 : @Ne Nat pl c2) (n4 : @Ne Nat pl c1) (hI : IntsAre vs ns) (hn : ∀ x ∈ ns, 0 ≤ x) (hl : ns.length ≤ 3000) :
    LawSt P ((fg, W.listOf vs.toArray nf) :: (c3, o4) :: (c2, o5) :: (c1, o6) :: mo) pl fg td tys y vs ns nf := by
  have l1 : @LT.lt Nat _ pl td := lt _ (.head _)
  have l2 : @LT.lt Nat _ fg td := lt _ (.tail _ (.head _))
  have l3 : @LT.lt Nat _ c3 td := lt _ (.tail _ (.tail _ (.head _)))
  have l4 : @LT.lt Nat _ c2 td := lt _ (.tail _ (.tail _ (.tail _ (.head _))))
  have l5 : @LT.lt Nat _ c1 td := lt _ (.tail _ (.tail _ (.tail _ (.tail _ (.head _)))))
  exact ⟨T9.mono fun q h => .tail _ (.tail _ (.tail _ (.tail _ h))), .head _, hI, hn, hl,
    List.forall_mem_cons.mpr ⟨n1, List.forall_mem_cons.mpr ⟨Ne.symm n2, List.forall_mem_cons.mpr ⟨Ne.symm n3, List.forall_mem_cons.mpr ⟨Ne.symm n4, hi_all ab l1⟩⟩⟩⟩,
    List.forall_mem_cons.mpr ⟨Nat.ne_of_lt l2, List.forall_mem_cons.mpr ⟨Nat.ne_of_lt l3, List.forall_mem_cons.mpr ⟨Nat.ne_of_lt l4, List.forall_mem_cons.mpr ⟨Nat.ne_of_lt l5, hi_self ab⟩⟩⟩⟩, Nat.ne_of_lt l1⟩
theorem stepV_end {h₀ h' : Heap} {L : Addr} {l : List (Str × Value)} {x n : Str} {news nw : List (Addr × Obj)} {f : Str → Int} {s : Shared} {i : Int} {t : Tok} {tk : Nat} (F : Fr h₀ L h' (look ((x, .int i t) :: l))) (N : News h₀ L h' nw) (sub : ∀ q ∈ news, q ∈ nw) (e : i = f n) :
    StepV h₀ L l x news (fun v => ∃ t, v = .int (f n) t) s .next { s with heap := h', toks := tk } :=
  ⟨rfl, _, _, _, ⟨t, by rw [e]⟩, rfl, F, cb_drop N sub⟩
theorem law_ret_then {M : Model} {A : Around} {E : Value → Shared → Prop} {s : Shared} {Q : Flow → Shared → Prop} {c : Sem Flow} {h₀ : Heap} {L : Addr} {m : Str → Option Value} (_F : Fr h₀ L s.heap m) (h : LawRet h₀ L Q s) (k : LawRet h₀ L Q s → wpAny M A c Q E s) : wpAny M A c Q E s := k h
theorem words_law2 : True := by
  k_with "ne" => first | exact Ne.symm (by assumption)
  k_with "m getMethod" => (k_here; k_dflt (refine fn_method (by k_asm) (by k_mem) (by assumption) ?_; k_whole))
  k_with "m dict.get" => (k_here; (with_reducible show wpAny _ _ (call (Value.builtin "dict.get") [Value.ref _, Value.str _ _, Value.int _ _]) _ _ _); k_dflt (refine fn_get2 (by k_asm) (by k_mem) (by assumption) ?_); intro u9; k_whole)
  k_with "m list" => (k_here; k_dflt (refine fn_list rfl (by k_asm) (by k_asm) (by k_mem) (by assumption) ?_); intro d9 c9 h9 tk9 lw1 lw2 lw3 lw4 lw5 lw6 lw7 lw8 lw9 lw10 F9 N9 f9; (try k_sweep))
  k_with "m StepV" => (k_dflt (
    refine' stepV_end ?swF ?swN ?swS ?swE
    (case swF => k_asm)
    (case swN => k_asm)
    (case swS => (intro p9 h9; repeat (first | exact h9 | apply List.mem_cons_of_mem)))
    (case swE => (simp [leastN, mostN, isIE, isID, *]; done))))
  k_with "m execs cons Assign cons" => ((with_reducible show wpAny _ _ (execs (Stmt.Assign [PySem.Expr.Name (Str.ofString "least") _] _ _ :: _) _) _ _ _); k_dflt (refine mergeN (Str.ofString "least") leastN (by k_asm) (by k_asm) (by (repeat (first | with_reducible exact look_hit | (apply look_miss; kernel_rfl)))) ?_ ?_); rotate_left; (intro t9 h9 tk9 F9 N9; (try k_fold)); rotate_left)
  k_with "m execs cons Assign cons" => ((with_reducible show wpAny _ _ (execs (Stmt.Assign [PySem.Expr.Name (Str.ofString "most") _] _ _ :: _) _) _ _ _); k_dflt (refine mergeN (Str.ofString "most") mostN (by k_asm) (by k_asm) (by (repeat (first | with_reducible exact look_hit | (apply look_miss; kernel_rfl)))) ?_ ?_); rotate_left; (intro t9 h9 tk9 F9 N9; (try k_fold)); rotate_left)
  k_with "m subscriptTail" => (k_here; k_dflt (refine itemStr names16 (by k_asm) (by k_mem) (by first | omega | exact fmod_lo _ (by decide)) (by (show _ < ((_ : Nat) : Int)); (simp only [List.size_toArray, List.length_cons, List.length_nil]); first | omega | exact fmod_hi _ (by decide)) (Nat.le_of_ble_eq_true rfl) (by repeat (first | exact List.forall_mem_nil _ | refine List.forall_mem_cons.mpr ⟨⟨_, _, rfl, by decide +kernel⟩, ?_⟩)) ?_; k_whole); intro n9 tn9 hn9; (rename News _ _ _ _ => lN'); (replace lN' := cb_drop lN' (fun _ h9 => List.mem_cons_of_mem _ h9)))
  k_with "m item" => (k_here; k_dflt (refine itemInt (by k_asm) (by k_mem) (by first | omega | exact fmod_lo _ (by decide)) (by (show _ < ((_ : Nat) : Int)); (simp only [List.size_toArray, List.length_cons, List.length_nil]); first | omega | exact fmod_hi _ (by decide)) (Nat.le_of_ble_eq_true rfl) (by repeat (first | exact List.forall_mem_nil _ | refine List.forall_mem_cons.mpr ⟨⟨_, _, rfl, by first | exact leastN_in (by assumption) | exact mostN_in (by assumption) | decide⟩, ?_⟩)) ?_; k_whole); intro i9 ti9 ilo9 ihi9; (rename News _ _ _ _ => lN'); (replace lN' := cb_drop lN' (fun _ h9 => List.mem_cons_of_mem _ h9)))
  k_with "m execs cons Assign cons" => ((with_reducible show wpAny _ _ (execs (Stmt.Assign [PySem.Expr.Name (Str.ofString "sides") _] _ _ :: _) _) _ _ _); (rename News _ _ _ _ => lN'); (rename Fr _ _ _ _ => lF'); k_dflt (
    refine law_ret_then lF' ?_ (fun lr9 => ?_)
    rotate_left
    refine le_then (keep_on (keep6 pl td9 fg (mo := mo9) lN' (by k_mem) (by k_mem) (by k_mem) (by k_mem) (by k_mem) (by k_mem) (by intro p9 h9; repeat (first | exact h9 | apply List.mem_cons_of_mem)))) (fun lK9 => ?_)
    replace lK9 := keep_off lK9
    refine le_then (lawSt0 lK9 T9 ab9 lt9 pne pn2 pn4 pn6 pI p0 pL) (fun lS9 => ?_)
    rcases upto3 ilo9 ihi9 with h9 | h9 | h9 | h9 <;> subst h9
    refine' law_mid0 ?lwcx _ _ lF' lK9 n9 _ tn9 _ _ _ hn9 ?lwmf _ _ _ ?lwcl lS9 pc9 pd9 pe9 ?lwce lr9
    (case lwcx => exact ⟨lB, by k_asm, by k_asm, Nat.le_of_ble_eq_true rfl, Nat.le_of_ble_eq_true rfl⟩)
    (case lwmf => exact ⟨(by repeat (first | with_reducible exact look_hit | (apply look_miss; kernel_rfl))), (by repeat (first | with_reducible exact look_hit | (apply look_miss; kernel_rfl))), (by repeat (first | with_reducible exact look_hit | (apply look_miss; kernel_rfl))), (by repeat (first | with_reducible exact look_hit | (apply look_miss; kernel_rfl))), (by repeat (first | with_reducible exact look_hit | (apply look_miss; kernel_rfl))), (by repeat (first | with_reducible exact look_hit | (apply look_miss; kernel_rfl)))⟩)
    (case lwce => exact ⟨⟨_, .tail _ (.tail _ (.tail _ (.head _))), by assumption⟩, ⟨_, .tail _ (.tail _ (.head _)), by assumption⟩, ⟨_, .tail _ (.head _), by assumption⟩⟩)
    (case lwcl => rfl)
    refine' law_mid1 ?lwcx _ _ lF' lK9 n9 _ tn9 _ _ _ hn9 ?lwmf _ _ _ ?lwcl lS9 pc9 pd9 pe9 ?lwce lr9
    (case lwcx => exact ⟨lB, by k_asm, by k_asm, Nat.le_of_ble_eq_true rfl, Nat.le_of_ble_eq_true rfl⟩)
    (case lwmf => exact ⟨(by repeat (first | with_reducible exact look_hit | (apply look_miss; kernel_rfl))), (by repeat (first | with_reducible exact look_hit | (apply look_miss; kernel_rfl))), (by repeat (first | with_reducible exact look_hit | (apply look_miss; kernel_rfl))), (by repeat (first | with_reducible exact look_hit | (apply look_miss; kernel_rfl))), (by repeat (first | with_reducible exact look_hit | (apply look_miss; kernel_rfl))), (by repeat (first | with_reducible exact look_hit | (apply look_miss; kernel_rfl)))⟩)
    (case lwce => exact ⟨⟨_, .tail _ (.tail _ (.tail _ (.head _))), by assumption⟩, ⟨_, .tail _ (.tail _ (.head _)), by assumption⟩, ⟨_, .tail _ (.head _), by assumption⟩⟩)
    (case lwcl => rfl)
    refine' law_mid2 ?lwcx _ _ lF' lK9 n9 _ tn9 _ _ _ hn9 ?lwmf _ _ _ ?lwcl lS9 pc9 pd9 pe9 ?lwce lr9
    (case lwcx => exact ⟨lB, by k_asm, by k_asm, Nat.le_of_ble_eq_true rfl, Nat.le_of_ble_eq_true rfl⟩)
    (case lwmf => exact ⟨(by repeat (first | with_reducible exact look_hit | (apply look_miss; kernel_rfl))), (by repeat (first | with_reducible exact look_hit | (apply look_miss; kernel_rfl))), (by repeat (first | with_reducible exact look_hit | (apply look_miss; kernel_rfl))), (by repeat (first | with_reducible exact look_hit | (apply look_miss; kernel_rfl))), (by repeat (first | with_reducible exact look_hit | (apply look_miss; kernel_rfl))), (by repeat (first | with_reducible exact look_hit | (apply look_miss; kernel_rfl)))⟩)
    (case lwce => exact ⟨⟨_, .tail _ (.tail _ (.tail _ (.head _))), by assumption⟩, ⟨_, .tail _ (.tail _ (.head _)), by assumption⟩, ⟨_, .tail _ (.head _), by assumption⟩⟩)
    (case lwcl => rfl)
    refine' law_mid3 ?lwcx _ _ lF' lK9 n9 _ tn9 _ _ _ hn9 ?lwmf _ _ _ ?lwcl lS9 pc9 pd9 pe9 ?lwce lr9
    (case lwcx => exact ⟨lB, by k_asm, by k_asm, Nat.le_of_ble_eq_true rfl, Nat.le_of_ble_eq_true rfl⟩)
    (case lwmf => exact ⟨(by repeat (first | with_reducible exact look_hit | (apply look_miss; kernel_rfl))), (by repeat (first | with_reducible exact look_hit | (apply look_miss; kernel_rfl))), (by repeat (first | with_reducible exact look_hit | (apply look_miss; kernel_rfl))), (by repeat (first | with_reducible exact look_hit | (apply look_miss; kernel_rfl))), (by repeat (first | with_reducible exact look_hit | (apply look_miss; kernel_rfl))), (by repeat (first | with_reducible exact look_hit | (apply look_miss; kernel_rfl)))⟩)
    (case lwce => exact ⟨⟨_, .tail _ (.tail _ (.tail _ (.head _))), by assumption⟩, ⟨_, .tail _ (.tail _ (.head _)), by assumption⟩, ⟨_, .tail _ (.head _), by assumption⟩⟩)
    (case lwcl => rfl)
    intro h9 tk9 m9' R9 F9 N9
    ))
  trivial
local macro_rules | `(tactic| k_qdec) => `(tactic| decide +kernel)
set_option maxHeartbeats 8000000 in
theorem law_holds : PySem.Challenge.rw_nu0340_01.Holds := by
  apply Mine.hd
  k_go0
  (all_goals try k_fold)
  rename Fr _ _ _ _ => lF
  rename Heap.IsList _ _ _ => lS
  replace lF := frame1 (x := Str.ofString "script") lS lF (by kernel_rfl)
  rename News _ _ _ _ => lN
  obtain hc := cells3 lN (by assumption) (by assumption) (by assumption)
  rename ¬ _ => hl9
  replace hl9 := (fun l : List Int => (fun h : ¬ ((63 : Int) < (l.length : Int)) => (by omega : l.length ≤ 63))) _ hl9
  rename Below _ _ _ _ => lB
  replace lB := below_of lF lB rfl
  rename News _ _ _ _ => lN
  change wpAny (model PySem.Challenge.pw_nu0340_01 _) (ktrTop _ _ _ _ _ _ _ _ _ []) (execs _ (envX _ _ _ _ _ _)) _ _ _
  k_steps
end Mine
theorem PySem.Challenge.cw_nu0340_01_holds : PySem.Challenge.rw_nu0340_01.Holds :=
  Mine.law_holds
