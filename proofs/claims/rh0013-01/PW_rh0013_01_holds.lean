import PyProof.Rows.All
import Wide.All
import OpenK.AllK
import Wide.FinOn
import PySem.Challenge.RW_rh0013_01
open PySem PySem.W PySem.Calls PyProof.Rows
set_option Elab.async false
set_option maxRecDepth 100000
set_option rowWalk.seconds 0
set_option linter.all false
namespace Mine
noncomputable section
-- the top's run, in one go
noncomputable def runT (thr ok : Thread → Bool) (stp : SharedT → Thread → Option (SharedT × Thread)) : Nat → SharedT → Thread → Option SharedT
  | 0, _, _ => none
  | n + 1, s, t => match thr t with
    | true => some s
    | false => match ok t with
      | false => none
      | true => match stp s t with
        | some (s', t') => runT thr ok stp n s' t'
        | none => none
theorem runT_top {tb : String → Option Builtin} {p : Program} {w : World} {n₀ : Nat} {ann : Option Value} : ∀ {n : Nat} {s s' : SharedT} {t : Thread},
    runT through (stepOk n₀ ann) (stepT (denote tb) p w) n s t = some s' → topRun tb p w n₀ ann n s.abs t = some s'.abs
  | 0, _, _, _, h => by cases h
  | n + 1, s, s', t, h => by
    unfold runT at h
    unfold topRun
    cases ht : through t with
    | true => rw [ht] at h; cases h; rfl
    | false =>
      rw [ht] at h
      cases hk : stepOk n₀ ann t with
      | false => rw [hk] at h; cases h
      | true =>
        rw [hk] at h
        cases hs : stepT (denote tb) p w s t with
        | none => rw [hs] at h; cases h
        | some r => obtain ⟨s₂, t₂⟩ := r; rw [hs] at h; dsimp only; rw [stepT_spec hs]; exact runT_top h
noncomputable def bootTree (P : Params) : BT := (List.range 11).foldl (fun t i => t.ins i (((boot_heap P).objs[i]?).getD default)) .nil
theorem boot_abs (P : Params) : absHeap (bootTree P) 11 {} = boot_heap P := by rfl
theorem left_of_run {p q : Program} {loose : List Str} {Xt : Shared → Bool} {α : Type} {Yf : Shared → α} {Ya : World → α} {N : Nat} {g0 : Bool} {ann : Option Value} {M : Nat}
    (open_ : ∀ w : World, (fencedOpening treeTable p w N).map (fun s => (s.heap, s.gens, s.drawn, s.toks)) = some (boot_heap w.params, #[], boot_drawn, boot_toks))
    (size : ∀ w : World, ((boot_heap w.params).isNs mainGlobals && (#[] : Array GenState).size == 0, (boot_heap w.params).objs.size, (boot_heap w.params).nsMap mainGlobals "__annotations__") = (true, 11, ann))
    (le : Nat.ble M N = true)
    (run : ∀ w : World, (fun os => (runT through (stepOk 11 ann) (stepT (denote treeTable) p w) M ⟨bootTree w.params, 11, {}, #[], boot_drawn, boot_toks, os⟩ (topStub p)).map fun s =>
        ((staticsOk (importedModules p.main.body) (boot_heap w.params) s.abs.heap && namesBound p s.abs.heap && gensDone s.abs && laidKept (boot_heap w.params) s.abs.heap),
          openSeen q loose (importedModules p.main.body) Xt g0 s.abs, Yf s.abs)) = fun _ => some (true, openGood q loose, Ya w)) : LeftO p q loose Xt Yf Ya N g0 := fun w => by
  obtain ⟨⟨h, gs, d, k, os⟩, e, e'⟩ := Option.map_eq_some_iff.mp (open_ w)
  obtain ⟨rfl, rfl, rfl, rfl⟩ : h = boot_heap w.params ∧ gs = #[] ∧ d = boot_drawn ∧ k = boot_toks := by simpa using e'
  obtain ⟨z1, z2, z3⟩ : _ ∧ _ ∧ _ := by simpa only [Prod.mk.injEq] using size w
  obtain ⟨s, hs, hl⟩ := Option.map_eq_some_iff.mp (congrFun (run w) os)
  obtain ⟨l1, l2, l3⟩ : _ ∧ _ ∧ _ := by simpa only [Prod.mk.injEq] using hl
  have r := topRun_mono (N - M) _ _ _ _ (runT_top hs)
  have eh : (⟨bootTree w.params, 11, {}, #[], boot_drawn, boot_toks, os⟩ : SharedT).abs = ⟨boot_heap w.params, #[], boot_drawn, boot_toks, os⟩ := by
    unfold SharedT.abs; rw [boot_abs]
  rw [eh, show M + (N - M) = N by have := Nat.le_of_ble_eq_true le; omega] at r
  have t : topFrom treeTable p w N ⟨boot_heap w.params, #[], boot_drawn, boot_toks, os⟩ = some s.abs := by
    unfold topFrom
    dsimp only
    rw [z1, z2, z3, r]
    show (match staticsOk (importedModules p.main.body) (boot_heap w.params) s.abs.heap && namesBound p s.abs.heap && gensDone s.abs && laidKept (boot_heap w.params) s.abs.heap with | true => _ | false => _) = _
    rw [l1]
  unfold openEnds
  rw [e]
  show (topFrom treeTable p w N _).map _ = _
  rw [t]
  exact congrArg some (Prod.ext l2 l3)
noncomputable def stA (i : Nat) : Stmt := (PySem.Challenge.pw_rh0013_01.main.body[i]?).getD (.Pass default)
noncomputable def stB (i j : Nat) : Stmt := match stA i with
  | .ClassDef _ _ _ b _ _ _ _ _ _ _ => (b[j]?).getD (.Pass default)
  | _ => .Pass default
noncomputable def fo (d : Stmt) (k : Arguments → List Stmt → Scope → FuncData) : Obj := match d with
  | .FunctionDef _ a b _ _ _ s _ _ _ => ⟨.type "function", none, .func (k a b s), #[]⟩
  | _ => default
noncomputable def o_21 : Obj := by
  apply (fun (x : Obj) (_ : x = fo (stA 0) fun a b s => ⟨.ofString "_wall", .ofString "_wall", a, .stmts b, s, 3, [], .none, .none, .none, .str (.ofString "__main__") 164, none, .ref 20, .none, 0⟩) => x)
  conv => rhs; whnf
noncomputable def o_37 : Obj := by
  apply (fun (x : Obj) (_ : x = fo (stB 2 0) fun a b s => ⟨.ofString "__init__", .ofString "HeapError.__init__", a, .stmts b, s, 3, [(.ofString "__class__", 25)], .none, .none, .none, .str (.ofString "alikeheap.errors") 194, none, .ref 36, .ref 30, 0⟩) => x)
  conv => rhs; whnf
noncomputable def o_44 : Obj := by
  apply (fun (x : Obj) (_ : x = fo (stB 2 1) fun a b s => ⟨.ofString "told", .ofString "HeapError.told", a, .stmts b, s, 3, [], .none, .none, .none, .str (.ofString "alikeheap.errors") 194, none, .ref 43, .none, 0⟩) => x)
  conv => rhs; whnf
noncomputable def o_67 : Obj := by
  apply (fun (x : Obj) (_ : x = fo (stA 5) fun a b s => ⟨.ofString "is_op", .ofString "is_op", a, .stmts b, s, 3, [], .none, .none, .none, .str (.ofString "alikeheap.terms") 250, none, .ref 66, .none, 0⟩) => x)
  conv => rhs; whnf
noncomputable def o_74 : Obj := by
  apply (fun (x : Obj) (_ : x = fo (stA 6) fun a b s => ⟨.ofString "is_variable", .ofString "is_variable", a, .stmts b, s, 3, [], .none, .none, .none, .str (.ofString "alikeheap.terms") 250, none, .ref 73, .none, 0⟩) => x)
  conv => rhs; whnf
noncomputable def o_79 : Obj := by
  apply (fun (x : Obj) (_ : x = fo (stA 7) fun a b s => ⟨.ofString "depth", .ofString "depth", a, .stmts b, s, 3, [], .none, .none, .none, .str (.ofString "alikeheap.terms") 250, none, .ref 78, .none, 0⟩) => x)
  conv => rhs; whnf
noncomputable def o_93 : Obj := by
  apply (fun (x : Obj) (_ : x = fo (stB 8 0) fun a b s => ⟨.ofString "__init__", .ofString "Bank.__init__", a, .stmts b, s, 3, [], .none, .none, .none, .str (.ofString "alikeheap.terms") 250, none, .ref 92, .none, 0⟩) => x)
  conv => rhs; whnf
noncomputable def o_100 : Obj := by
  apply (fun (x : Obj) (_ : x = fo (stB 8 1) fun a b s => ⟨.ofString "size", .ofString "Bank.size", a, .stmts b, s, 3, [], .none, .none, .none, .str (.ofString "alikeheap.terms") 250, none, .ref 99, .none, 0⟩) => x)
  conv => rhs; whnf
noncomputable def o_105 : Obj := by
  apply (fun (x : Obj) (_ : x = fo (stB 8 2) fun a b s => ⟨.ofString "take", .ofString "Bank.take", a, .stmts b, s, 3, [], .none, .none, .none, .str (.ofString "alikeheap.terms") 250, none, .ref 104, .none, 0⟩) => x)
  conv => rhs; whnf
noncomputable def o_112 : Obj := by
  apply (fun (x : Obj) (_ : x = fo (stB 8 3) fun a b s => ⟨.ofString "require", .ofString "Bank.require", a, .stmts b, s, 3, [], .none, .none, .none, .str (.ofString "alikeheap.terms") 250, none, .ref 111, .none, 0⟩) => x)
  conv => rhs; whnf
noncomputable def o_119 : Obj := by
  apply (fun (x : Obj) (_ : x = fo (stB 8 4) fun a b s => ⟨.ofString "put", .ofString "Bank.put", a, .stmts b, s, 3, [], .none, .none, .none, .str (.ofString "alikeheap.terms") 250, none, .ref 118, .none, 0⟩) => x)
  conv => rhs; whnf
noncomputable def o_126 : Obj := by
  apply (fun (x : Obj) (_ : x = fo (stB 8 5) fun a b s => ⟨.ofString "put_all", .ofString "Bank.put_all", a, .stmts b, s, 3, [], .none, .none, .none, .str (.ofString "alikeheap.terms") 250, none, .ref 125, .none, 0⟩) => x)
  conv => rhs; whnf
noncomputable def o_133 : Obj := by
  apply (fun (x : Obj) (_ : x = fo (stB 8 6) fun a b s => ⟨.ofString "cut", .ofString "Bank.cut", a, .stmts b, s, 3, [], .none, .none, .none, .str (.ofString "alikeheap.terms") 250, none, .ref 132, .none, 0⟩) => x)
  conv => rhs; whnf
noncomputable def o_140 : Obj := by
  apply (fun (x : Obj) (_ : x = fo (stB 8 7) fun a b s => ⟨.ofString "op", .ofString "Bank.op", a, .stmts b, s, 3, [], .none, .none, .none, .str (.ofString "alikeheap.terms") 250, none, .ref 139, .none, 0⟩) => x)
  conv => rhs; whnf
noncomputable def o_147 : Obj := by
  apply (fun (x : Obj) (_ : x = fo (stB 8 8) fun a b s => ⟨.ofString "kids", .ofString "Bank.kids", a, .stmts b, s, 3, [], .none, .none, .none, .str (.ofString "alikeheap.terms") 250, none, .ref 146, .none, 0⟩) => x)
  conv => rhs; whnf
noncomputable def o_154 : Obj := by
  apply (fun (x : Obj) (_ : x = fo (stB 8 9) fun a b s => ⟨.ofString "node", .ofString "Bank.node", a, .stmts b, s, 3, [], .none, .none, .none, .str (.ofString "alikeheap.terms") 250, none, .ref 153, .none, 0⟩) => x)
  conv => rhs; whnf
noncomputable def o_159 : Obj := by
  apply (fun (x : Obj) (_ : x = fo (stB 8 10) fun a b s => ⟨.ofString "term", .ofString "Bank.term", a, .stmts b, s, 3, [], .none, .none, .none, .str (.ofString "alikeheap.terms") 250, none, .ref 158, .none, 0⟩) => x)
  conv => rhs; whnf
noncomputable def o_166 : Obj := by
  apply (fun (x : Obj) (_ : x = fo (stB 8 11) fun a b s => ⟨.ofString "weight", .ofString "Bank.weight", a, .stmts b, s, 3, [], .none, .none, .none, .str (.ofString "alikeheap.terms") 250, none, .ref 165, .none, 0⟩) => x)
  conv => rhs; whnf
noncomputable def o_173 : Obj := by
  apply (fun (x : Obj) (_ : x = fo (stB 8 12) fun a b s => ⟨.ofString "depth", .ofString "Bank.depth", a, .stmts b, s, 3, [], .none, .none, .none, .str (.ofString "alikeheap.terms") 250, none, .ref 172, .none, 0⟩) => x)
  conv => rhs; whnf
noncomputable def o_180 : Obj := by
  apply (fun (x : Obj) (_ : x = fo (stB 8 13) fun a b s => ⟨.ofString "seek", .ofString "Bank.seek", a, .stmts b, s, 3, [], .none, .none, .none, .str (.ofString "alikeheap.terms") 250, none, .ref 179, .none, 0⟩) => x)
  conv => rhs; whnf
noncomputable def o_201 : Obj := by
  apply (fun (x : Obj) (_ : x = fo (stB 10 0) fun a b s => ⟨.ofString "__init__", .ofString "Walker.__init__", a, .stmts b, s, 3, [], .none, .none, .none, .str (.ofString "alikeheap.matching") 402, none, .ref 200, .none, 0⟩) => x)
  conv => rhs; whnf
noncomputable def o_206 : Obj := by
  apply (fun (x : Obj) (_ : x = fo (stB 10 1) fun a b s => ⟨.ofString "extended", .ofString "Walker.extended", a, .stmts b, s, 3, [], .none, .none, .none, .str (.ofString "alikeheap.matching") 402, none, .ref 205, .none, 0⟩) => x)
  conv => rhs; whnf
noncomputable def o_213 : Obj := by
  apply (fun (x : Obj) (_ : x = fo (stB 10 2) fun a b s => ⟨.ofString "found_in", .ofString "Walker.found_in", a, .stmts b, s, 3, [], .none, .none, .none, .str (.ofString "alikeheap.matching") 402, none, .ref 212, .none, 0⟩) => x)
  conv => rhs; whnf
noncomputable def o_218 : Obj := by
  apply (fun (x : Obj) (_ : x = fo (stB 10 3) fun a b s => ⟨.ofString "found", .ofString "Walker.found", a, .stmts b, s, 3, [], .none, .none, .none, .str (.ofString "alikeheap.matching") 402, none, .ref 217, .none, 0⟩) => x)
  conv => rhs; whnf
noncomputable def o_239 : Obj := by
  apply (fun (x : Obj) (_ : x = fo (stB 11 0) fun a b s => ⟨.ofString "__init__", .ofString "Changes.__init__", a, .stmts b, s, 3, [], .none, .none, .none, .str (.ofString "alikeheap.matching") 402, none, .ref 238, .none, 0⟩) => x)
  conv => rhs; whnf
noncomputable def o_244 : Obj := by
  apply (fun (x : Obj) (_ : x = fo (stB 11 1) fun a b s => ⟨.ofString "changed", .ofString "Changes.changed", a, .stmts b, s, 3, [], .none, .none, .none, .str (.ofString "alikeheap.matching") 402, none, .ref 243, .none, 0⟩) => x)
  conv => rhs; whnf
noncomputable def o_249 : Obj := by
  apply (fun (x : Obj) (_ : x = fo (stB 11 2) fun a b s => ⟨.ofString "reached", .ofString "Changes.reached", a, .stmts b, s, 3, [], .none, .none, .none, .str (.ofString "alikeheap.matching") 402, none, .ref 248, .none, 0⟩) => x)
  conv => rhs; whnf
noncomputable def o_254 : Obj := by
  apply (fun (x : Obj) (_ : x = fo (stB 11 3) fun a b s => ⟨.ofString "image", .ofString "Changes.image", a, .stmts b, s, 3, [], .none, .none, .none, .str (.ofString "alikeheap.matching") 402, none, .ref 253, .none, 0⟩) => x)
  conv => rhs; whnf
noncomputable def o_259 : Obj := by
  apply (fun (x : Obj) (_ : x = fo (stB 11 4) fun a b s => ⟨.ofString "found", .ofString "Changes.found", a, .stmts b, s, 3, [], .none, .none, .none, .str (.ofString "alikeheap.matching") 402, none, .ref 258, .none, 0⟩) => x)
  conv => rhs; whnf
noncomputable def o_266 : Obj := by
  apply (fun (x : Obj) (_ : x = fo (stB 11 5) fun a b s => ⟨.ofString "all_found", .ofString "Changes.all_found", a, .stmts b, s, 3, [], .none, .none, .none, .str (.ofString "alikeheap.matching") 402, none, .ref 265, .none, 0⟩) => x)
  conv => rhs; whnf
noncomputable def o_287 : Obj := by
  apply (fun (x : Obj) (_ : x = fo (stB 13 0) fun a b s => ⟨.ofString "__init__", .ofString "Unions.__init__", a, .stmts b, s, 3, [], .none, .none, .none, .str (.ofString "alikeheap.unions") 521, none, .ref 286, .none, 0⟩) => x)
  conv => rhs; whnf
noncomputable def o_294 : Obj := by
  apply (fun (x : Obj) (_ : x = fo (stB 13 1) fun a b s => ⟨.ofString "make", .ofString "Unions.make", a, .stmts b, s, 3, [], .none, .none, .none, .str (.ofString "alikeheap.unions") 521, none, .ref 293, .none, 0⟩) => x)
  conv => rhs; whnf
noncomputable def o_301 : Obj := by
  apply (fun (x : Obj) (_ : x = fo (stB 13 2) fun a b s => ⟨.ofString "size", .ofString "Unions.size", a, .stmts b, s, 3, [], .none, .none, .none, .str (.ofString "alikeheap.unions") 521, none, .ref 300, .none, 0⟩) => x)
  conv => rhs; whnf
noncomputable def o_308 : Obj := by
  apply (fun (x : Obj) (_ : x = fo (stB 13 3) fun a b s => ⟨.ofString "find", .ofString "Unions.find", a, .stmts b, s, 3, [], .none, .none, .none, .str (.ofString "alikeheap.unions") 521, none, .ref 307, .none, 0⟩) => x)
  conv => rhs; whnf
noncomputable def o_315 : Obj := by
  apply (fun (x : Obj) (_ : x = fo (stB 13 4) fun a b s => ⟨.ofString "merge", .ofString "Unions.merge", a, .stmts b, s, 3, [], .none, .none, .none, .str (.ofString "alikeheap.unions") 521, none, .ref 314, .none, 0⟩) => x)
  conv => rhs; whnf
noncomputable def o_322 : Obj := by
  apply (fun (x : Obj) (_ : x = fo (stB 13 5) fun a b s => ⟨.ofString "members", .ofString "Unions.members", a, .stmts b, s, 3, [], .none, .none, .none, .str (.ofString "alikeheap.unions") 521, none, .ref 321, .none, 0⟩) => x)
  conv => rhs; whnf
noncomputable def o_327 : Obj := by
  apply (fun (x : Obj) (_ : x = fo (stB 13 6) fun a b s => ⟨.ofString "classes", .ofString "Unions.classes", a, .stmts b, s, 3, [], .none, .none, .none, .str (.ofString "alikeheap.unions") 521, none, .ref 326, .none, 0⟩) => x)
  conv => rhs; whnf
noncomputable def o_334 : Obj := by
  apply (fun (x : Obj) (_ : x = fo (stB 13 7) fun a b s => ⟨.ofString "log", .ofString "Unions.log", a, .stmts b, s, 3, [], .none, .none, .none, .str (.ofString "alikeheap.unions") 521, none, .ref 333, .none, 0⟩) => x)
  conv => rhs; whnf
noncomputable def o_341 : Obj := by
  apply (fun (x : Obj) (_ : x = fo (stB 13 8) fun a b s => ⟨.ofString "back", .ofString "Unions.back", a, .stmts b, s, 3, [], .none, .none, .none, .str (.ofString "alikeheap.unions") 521, none, .ref 340, .none, 0⟩) => x)
  conv => rhs; whnf
noncomputable def o_348 : Obj := by
  apply (fun (x : Obj) (_ : x = fo (stB 13 9) fun a b s => ⟨.ofString "cut", .ofString "Unions.cut", a, .stmts b, s, 3, [], .none, .none, .none, .str (.ofString "alikeheap.unions") 521, none, .ref 347, .none, 0⟩) => x)
  conv => rhs; whnf
noncomputable def o_369 : Obj := by
  apply (fun (x : Obj) (_ : x = fo (stB 15 0) fun a b s => ⟨.ofString "__init__", .ofString "Heap.__init__", a, .stmts b, s, 3, [], .none, .none, .none, .str (.ofString "alikeheap.heap") 625, none, .ref 368, .none, 0⟩) => x)
  conv => rhs; whnf
noncomputable def o_376 : Obj := by
  apply (fun (x : Obj) (_ : x = fo (stB 15 1) fun a b s => ⟨.ofString "size", .ofString "Heap.size", a, .stmts b, s, 3, [], .none, .none, .none, .str (.ofString "alikeheap.heap") 625, none, .ref 375, .none, 0⟩) => x)
  conv => rhs; whnf
noncomputable def o_381 : Obj := by
  apply (fun (x : Obj) (_ : x = fo (stB 15 2) fun a b s => ⟨.ofString "node", .ofString "Heap.node", a, .stmts b, s, 3, [], .none, .none, .none, .str (.ofString "alikeheap.heap") 625, none, .ref 380, .none, 0⟩) => x)
  conv => rhs; whnf
noncomputable def o_386 : Obj := by
  apply (fun (x : Obj) (_ : x = fo (stB 15 3) fun a b s => ⟨.ofString "add", .ofString "Heap.add", a, .stmts b, s, 3, [], .none, .none, .none, .str (.ofString "alikeheap.heap") 625, none, .ref 385, .none, 0⟩) => x)
  conv => rhs; whnf
noncomputable def o_393 : Obj := by
  apply (fun (x : Obj) (_ : x = fo (stB 15 4) fun a b s => ⟨.ofString "put", .ofString "Heap.put", a, .stmts b, s, 3, [], .none, .none, .none, .str (.ofString "alikeheap.heap") 625, none, .ref 392, .none, 0⟩) => x)
  conv => rhs; whnf
noncomputable def o_400 : Obj := by
  apply (fun (x : Obj) (_ : x = fo (stB 15 5) fun a b s => ⟨.ofString "look_at", .ofString "Heap.look_at", a, .stmts b, s, 3, [], .none, .none, .none, .str (.ofString "alikeheap.heap") 625, none, .ref 399, .none, 0⟩) => x)
  conv => rhs; whnf
noncomputable def o_407 : Obj := by
  apply (fun (x : Obj) (_ : x = fo (stB 15 6) fun a b s => ⟨.ofString "find", .ofString "Heap.find", a, .stmts b, s, 3, [], .none, .none, .none, .str (.ofString "alikeheap.heap") 625, none, .ref 406, .none, 0⟩) => x)
  conv => rhs; whnf
noncomputable def o_414 : Obj := by
  apply (fun (x : Obj) (_ : x = fo (stB 15 7) fun a b s => ⟨.ofString "are_like", .ofString "Heap.are_like", a, .stmts b, s, 3, [], .none, .none, .none, .str (.ofString "alikeheap.heap") 625, none, .ref 413, .none, 0⟩) => x)
  conv => rhs; whnf
noncomputable def o_421 : Obj := by
  apply (fun (x : Obj) (_ : x = fo (stB 15 8) fun a b s => ⟨.ofString "merge", .ofString "Heap.merge", a, .stmts b, s, 3, [], .none, .none, .none, .str (.ofString "alikeheap.heap") 625, none, .ref 420, .none, 0⟩) => x)
  conv => rhs; whnf
noncomputable def o_428 : Obj := by
  apply (fun (x : Obj) (_ : x = fo (stB 15 9) fun a b s => ⟨.ofString "join", .ofString "Heap.join", a, .stmts b, s, 3, [], .none, .none, .none, .str (.ofString "alikeheap.heap") 625, none, .ref 427, .none, 0⟩) => x)
  conv => rhs; whnf
noncomputable def o_435 : Obj := by
  apply (fun (x : Obj) (_ : x = fo (stB 15 10) fun a b s => ⟨.ofString "settle", .ofString "Heap.settle", a, .stmts b, s, 3, [], .none, .none, .none, .str (.ofString "alikeheap.heap") 625, none, .ref 434, .none, 0⟩) => x)
  conv => rhs; whnf
noncomputable def o_442 : Obj := by
  apply (fun (x : Obj) (_ : x = fo (stB 15 11) fun a b s => ⟨.ofString "is_settled", .ofString "Heap.is_settled", a, .stmts b, s, 3, [], .none, .none, .none, .str (.ofString "alikeheap.heap") 625, none, .ref 441, .none, 0⟩) => x)
  conv => rhs; whnf
noncomputable def o_449 : Obj := by
  apply (fun (x : Obj) (_ : x = fo (stB 15 12) fun a b s => ⟨.ofString "classes", .ofString "Heap.classes", a, .stmts b, s, 3, [], .none, .none, .none, .str (.ofString "alikeheap.heap") 625, none, .ref 448, .none, 0⟩) => x)
  conv => rhs; whnf
noncomputable def o_456 : Obj := by
  apply (fun (x : Obj) (_ : x = fo (stB 15 13) fun a b s => ⟨.ofString "members", .ofString "Heap.members", a, .stmts b, s, 3, [], .none, .none, .none, .str (.ofString "alikeheap.heap") 625, none, .ref 455, .none, 0⟩) => x)
  conv => rhs; whnf
noncomputable def o_461 : Obj := by
  apply (fun (x : Obj) (_ : x = fo (stB 15 14) fun a b s => ⟨.ofString "nodes_of", .ofString "Heap.nodes_of", a, .stmts b, s, 3, [], .none, .none, .none, .str (.ofString "alikeheap.heap") 625, none, .ref 460, .none, 0⟩) => x)
  conv => rhs; whnf
noncomputable def o_468 : Obj := by
  apply (fun (x : Obj) (_ : x = fo (stB 15 15) fun a b s => ⟨.ofString "many_nodes", .ofString "Heap.many_nodes", a, .stmts b, s, 3, [], .none, .none, .none, .str (.ofString "alikeheap.heap") 625, none, .ref 467, .none, 0⟩) => x)
  conv => rhs; whnf
noncomputable def o_473 : Obj := by
  apply (fun (x : Obj) (_ : x = fo (stB 15 16) fun a b s => ⟨.ofString "seek", .ofString "Heap.seek", a, .stmts b, s, 3, [], .none, .none, .none, .str (.ofString "alikeheap.heap") 625, none, .ref 472, .none, 0⟩) => x)
  conv => rhs; whnf
noncomputable def o_480 : Obj := by
  apply (fun (x : Obj) (_ : x = fo (stB 15 17) fun a b s => ⟨.ofString "users", .ofString "Heap.users", a, .stmts b, s, 3, [], .none, .none, .none, .str (.ofString "alikeheap.heap") 625, none, .ref 479, .none, 0⟩) => x)
  conv => rhs; whnf
noncomputable def o_494 : Obj := by
  apply (fun (x : Obj) (_ : x = fo (stA 17) fun a b s => ⟨.ofString "_law_notch", .ofString "_law_notch", a, .stmts b, s, 3, [], .none, .none, .none, .str (.ofString "law_rh0013_01") 794, none, .ref 493, .none, 0⟩) => x)
  conv => rhs; whnf
noncomputable def o_499 : Obj := by
  apply (fun (x : Obj) (_ : x = fo (stA 18) fun a b s => ⟨.ofString "_law_marks", .ofString "_law_marks", a, .stmts b, s, 3, [], .none, .none, .none, .str (.ofString "law_rh0013_01") 794, none, .ref 498, .none, 0⟩) => x)
  conv => rhs; whnf
noncomputable def o_504 : Obj := by
  apply (fun (x : Obj) (_ : x = fo (stA 19) fun a b s => ⟨.ofString "_law_more", .ofString "_law_more", a, .stmts b, s, 3, [], .none, .none, .none, .str (.ofString "law_rh0013_01") 794, none, .ref 503, .none, 0⟩) => x)
  conv => rhs; whnf
noncomputable def o_511 : Obj := by
  apply (fun (x : Obj) (_ : x = fo (stA 20) fun a b s => ⟨.ofString "_law_told", .ofString "_law_told", a, .stmts b, s, 3, [], .none, .none, .none, .str (.ofString "law_rh0013_01") 794, none, .ref 510, .none, 0⟩) => x)
  conv => rhs; whnf
noncomputable def o_516 : Obj := by
  apply (fun (x : Obj) (_ : x = fo (stA 21) fun a b s => ⟨.ofString "_law_turned", .ofString "_law_turned", a, .stmts b, s, 3, [], .none, .none, .none, .str (.ofString "law_rh0013_01") 794, none, .ref 515, .none, 0⟩) => x)
  conv => rhs; whnf
noncomputable def o_521 : Obj := by
  apply (fun (x : Obj) (_ : x = fo (stA 22) fun a b s => ⟨.ofString "_law_above", .ofString "_law_above", a, .stmts b, s, 3, [], .none, .none, .none, .str (.ofString "law_rh0013_01") 794, none, .ref 520, .none, 0⟩) => x)
  conv => rhs; whnf
noncomputable def o_526 : Obj := by
  apply (fun (x : Obj) (_ : x = fo (stA 23) fun a b s => ⟨.ofString "law", .ofString "law", a, .stmts b, s, 3, [], .none, .none, .none, .str (.ofString "law_rh0013_01") 794, none, .ref 525, .none, 0⟩) => x)
  conv => rhs; whnf
set_option maxHeartbeats 4000000 in
noncomputable def hd.heap_39 : Params → Frag := fun P => (nat_lit 2, ⟨.none, none, .dict #[⟨PyData.keyHash P (.ofString "type.__subclasses__.Exception.0"), .str (.ofString "type.__subclasses__.Exception.0") 230, .int 47 0⟩, ⟨PyData.keyHash P (.ofString "type.__subclasses__.Exception.n"), .str (.ofString "type.__subclasses__.Exception.n") 231, .int 1 0⟩] 2, #[]⟩) ::
  (nat_lit 3, ⟨.type "dict", none, .dict #[⟨PyData.keyHash P (.ofString "__name__"), .str (.ofString "__name__") 165, .str (.ofString "law_rh0013_01") 794⟩, ⟨PyData.keyHash P (.ofString "__doc__"), .str (.ofString "__doc__") 166, .none⟩, ⟨PyData.keyHash P (.ofString "__package__"), .str (.ofString "__package__") 167, .none⟩, ⟨PyData.keyHash P (.ofString "__loader__"), .str (.ofString "__loader__") 168, .builtin "__main__.__loader__#opaque"⟩, ⟨PyData.keyHash P (.ofString "__spec__"), .str (.ofString "__spec__") 169, .none⟩, ⟨PyData.keyHash P (.ofString "__annotations__"), .str (.ofString "__annotations__") 170, .ref 6⟩, ⟨PyData.keyHash P (.ofString "__builtins__"), .str (.ofString "__builtins__") 171, .ref 4⟩, ⟨PyData.keyHash P (.ofString "__file__"), .str (.ofString "__file__") 173, .str (.ofString "/claim/cut.py") 172⟩, ⟨PyData.keyHash P (.ofString "__cached__"), .str (.ofString "__cached__") 174, .none⟩, ⟨PyData.keyHash P (.ofString "_wall"), .str (.ofString "_wall") 193, .ref 21⟩, ⟨PyData.keyHash P (.ofString "HeapError"), .str (.ofString "HeapError") 233, .ref 47⟩, ⟨PyData.keyHash P (.ofString "TermFault"), .str (.ofString "TermFault") 249, .ref 60⟩, ⟨PyData.keyHash P (.ofString "is_op"), .str (.ofString "is_op") 257, .ref 67⟩, ⟨PyData.keyHash P (.ofString "is_variable"), .str (.ofString "is_variable") 264, .ref 74⟩, ⟨PyData.keyHash P (.ofString "depth"), .str (.ofString "depth") 270, .ref 79⟩, ⟨PyData.keyHash P (.ofString "Bank"), .str (.ofString "Bank") 401, .ref 183⟩, ⟨PyData.keyHash P (.ofString "Walker"), .str (.ofString "Walker") 455, .ref 221⟩, ⟨PyData.keyHash P (.ofString "Changes"), .str (.ofString "Changes") 520, .ref 269⟩, ⟨PyData.keyHash P (.ofString "Unions"), .str (.ofString "Unions") 624, .ref 351⟩, ⟨PyData.keyHash P (.ofString "Heap"), .str (.ofString "Heap") 793, .ref 483⟩, ⟨PyData.keyHash P (.ofString "_law_notch"), .str (.ofString "_law_notch") 804, .ref 494⟩, ⟨PyData.keyHash P (.ofString "_law_marks"), .str (.ofString "_law_marks") 810, .ref 499⟩, ⟨PyData.keyHash P (.ofString "_law_more"), .str (.ofString "_law_more") 816, .ref 504⟩, ⟨PyData.keyHash P (.ofString "_law_told"), .str (.ofString "_law_told") 828, .ref 511⟩, ⟨PyData.keyHash P (.ofString "_law_turned"), .str (.ofString "_law_turned") 834, .ref 516⟩, ⟨PyData.keyHash P (.ofString "_law_above"), .str (.ofString "_law_above") 840, .ref 521⟩, ⟨PyData.keyHash P (.ofString "law"), .str (.ofString "law") 846, .ref 526⟩] 27, #[]⟩) ::
  (nat_lit 15, ⟨.type "tuple", none, .seq #[] 0, #[]⟩) ::
  (nat_lit 17, ⟨.type "tuple", none, .seq #[.str (.ofString "k") 190] 0, #[]⟩) ::
  (nat_lit 18, ⟨.type "tuple", none, .seq #[] 0, #[]⟩) ::
  (nat_lit 20, ⟨.type "code", none, .fields #[.str (.ofString "_wall") 187, .str (.ofString "_wall") 188, .str (.ofString "/claim/cut.py") 189, .int 1 0, .int 1 0, .int 0 0, .int 0 0, .int 3 0, .ref 15, .bool true, .int 181 0, .ref 16, .none, .ref 17, .ref 18, .ref 19, .int 191 0, .int 1 0, .str (.ofString "/claim/cut.py") 192], #[]⟩) ::
  (nat_lit 21, o_21) ::
  (nat_lit 22, ⟨.type "tuple", none, .seq #[.type "Exception"] 0, #[]⟩) ::
  (nat_lit 25, ⟨.type "cell", none, .cell (some (.ref 47)), #[]⟩) ::
  (nat_lit 30, ⟨.type "tuple", none, .seq #[.ref 25] 0, #[]⟩) ::
  (nat_lit 31, ⟨.type "tuple", none, .seq #[.str (.ofString "__class__") 211] 0, #[]⟩) ::
  (nat_lit 33, ⟨.type "tuple", none, .seq #[.str (.ofString "self") 212, .str (.ofString "what") 213] 0, #[]⟩) ::
  (nat_lit 34, ⟨.type "tuple", none, .seq #[] 0, #[]⟩) ::
  (nat_lit 36, ⟨.type "code", none, .fields #[.str (.ofString "__init__") 208, .str (.ofString "HeapError.__init__") 209, .str (.ofString "/claim/cut.py") 210, .int 7 0, .int 2 0, .int 0 0, .int 0 0, .int 3 0, .ref 31, .bool true, .int 181 0, .ref 32, .none, .ref 33, .ref 34, .ref 35, .int 214 0, .int 7 0, .str (.ofString "/claim/cut.py") 215], #[]⟩) ::
  (nat_lit 37, o_37) ::
  (nat_lit 38, ⟨.type "tuple", none, .seq #[] 0, #[]⟩) ::
  (nat_lit 40, ⟨.type "tuple", none, .seq #[.str (.ofString "self") 220] 0, #[]⟩) ::
  (nat_lit 41, ⟨.type "tuple", none, .seq #[] 0, #[]⟩) ::
  (nat_lit 43, ⟨.type "code", none, .fields #[.str (.ofString "told") 217, .str (.ofString "HeapError.told") 218, .str (.ofString "/claim/cut.py") 219, .int 11 0, .int 1 0, .int 0 0, .int 0 0, .int 3 0, .ref 38, .bool true, .int 181 0, .ref 39, .none, .ref 40, .ref 41, .ref 42, .int 221 0, .int 11 0, .str (.ofString "/claim/cut.py") 222], #[]⟩) ::
  (nat_lit 44, o_44) ::
  (nat_lit 45, ⟨.type "tuple", none, .seq #[.str (.ofString "what") 224] 0, #[]⟩) ::
  (nat_lit 46, ⟨.type "dict", none, .dict #[⟨PyData.keyHash P (.ofString "__module__"), .str (.ofString "__module__") 203, .str (.ofString "alikeheap.errors") 194⟩, ⟨PyData.keyHash P (.ofString "__firstlineno__"), .str (.ofString "__firstlineno__") 207, .int 5 206⟩, ⟨PyData.keyHash P (.ofString "__init__"), .str (.ofString "__init__") 216, .ref 37⟩, ⟨PyData.keyHash P (.ofString "told"), .str (.ofString "told") 223, .ref 44⟩, ⟨PyData.keyHash P (.ofString "__static_attributes__"), .str (.ofString "__static_attributes__") 225, .ref 45⟩, ⟨PyData.keyHash P (.ofString "__weakref__"), .str (.ofString "__weakref__") 228, .ref 48⟩, ⟨PyData.keyHash P (.ofString "__doc__"), .str (.ofString "__doc__") 229, .none⟩] 4, #[]⟩) ::
  (nat_lit 47, ⟨.type "type", none, .cls (.mk (.ofString "HeapError") [.type "Exception"] [.ref 47, .type "Exception", .type "BaseException", .type "object"] 46 (.ofString "HeapError") true [] [.ref 60] false none false), #[some (.ref 22), none, some (.str (.ofString "HeapError") 196), some (.str (.ofString "HeapError") 204), some (.builtin "Exception.__new__"), some (.bool true)]⟩) ::
  (nat_lit 48, ⟨.type "getset_descriptor", none, .fields #[.str (.ofString "__weakref__") 227, .ref 47, .builtin "ExceptionGroup.__weakref__", .none], #[]⟩) ::
  (nat_lit 51, ⟨.type "tuple", none, .seq #[.ref 47] 0, #[]⟩) ::
  (nat_lit 58, ⟨.type "tuple", none, .seq #[] 0, #[]⟩) ::
  (nat_lit 59, ⟨.type "dict", none, .dict #[⟨PyData.keyHash P (.ofString "__module__"), .str (.ofString "__module__") 241, .str (.ofString "alikeheap.errors") 194⟩, ⟨PyData.keyHash P (.ofString "__firstlineno__"), .str (.ofString "__firstlineno__") 245, .int 13 244⟩, ⟨PyData.keyHash P (.ofString "__static_attributes__"), .str (.ofString "__static_attributes__") 246, .ref 58⟩, ⟨PyData.keyHash P (.ofString "__doc__"), .str (.ofString "__doc__") 247, .none⟩] 2, #[]⟩) ::
  (nat_lit 60, ⟨.type "type", none, .cls (.mk (.ofString "TermFault") [.ref 47] [.ref 60, .ref 47, .type "Exception", .type "BaseException", .type "object"] 59 (.ofString "TermFault") true [] [] false none false), #[some (.ref 51), none, some (.str (.ofString "TermFault") 234), some (.str (.ofString "TermFault") 242), some (.builtin "Exception.__new__"), some (.bool true)]⟩) ::
  (nat_lit 63, ⟨.type "tuple", none, .seq #[] 0, #[]⟩) ::
  (nat_lit 66, ⟨.type "code", none, .fields #[.str (.ofString "is_op") 252, .str (.ofString "is_op") 253, .str (.ofString "/claim/cut.py") 254, .int 16 0, .int 1 0, .int 0 0, .int 0 0, .int 3 0, .ref 63, .bool true, .int 181 0, .ref 64, .none, .none, .none, .ref 65, .int 255 0, .int 16 0, .str (.ofString "/claim/cut.py") 256], #[]⟩) ::
  (nat_lit 67, o_67) ::
  (nat_lit 68, ⟨.type "tuple", none, .seq #[] 0, #[]⟩) ::
  (nat_lit 70, ⟨.type "tuple", none, .seq #[.str (.ofString "t") 261] 0, #[]⟩) ::
  (nat_lit 71, ⟨.type "tuple", none, .seq #[] 0, #[]⟩) ::
  (nat_lit 73, ⟨.type "code", none, .fields #[.str (.ofString "is_variable") 258, .str (.ofString "is_variable") 259, .str (.ofString "/claim/cut.py") 260, .int 18 0, .int 1 0, .int 0 0, .int 0 0, .int 3 0, .ref 68, .bool true, .int 181 0, .ref 69, .none, .ref 70, .ref 71, .ref 72, .int 262 0, .int 18 0, .str (.ofString "/claim/cut.py") 263], #[]⟩) ::
  (nat_lit 74, o_74) ::
  (nat_lit 75, ⟨.type "tuple", none, .seq #[] 0, #[]⟩) ::
  (nat_lit 78, ⟨.type "code", none, .fields #[.str (.ofString "depth") 265, .str (.ofString "depth") 266, .str (.ofString "/claim/cut.py") 267, .int 20 0, .int 1 0, .int 0 0, .int 0 0, .int 3 0, .ref 75, .bool true, .int 181 0, .ref 76, .none, .none, .none, .ref 77, .int 268 0, .int 20 0, .str (.ofString "/claim/cut.py") 269], #[]⟩) ::
  (nat_lit 79, o_79) ::
  (nat_lit 87, ⟨.type "tuple", none, .seq #[] 0, #[]⟩) ::
  (nat_lit 89, ⟨.type "tuple", none, .seq #[.str (.ofString "self") 286] 0, #[]⟩) ::
  (nat_lit 90, ⟨.type "tuple", none, .seq #[] 0, #[]⟩) ::
  (nat_lit 92, ⟨.type "code", none, .fields #[.str (.ofString "__init__") 283, .str (.ofString "Bank.__init__") 284, .str (.ofString "/claim/cut.py") 285, .int 24 0, .int 1 0, .int 0 0, .int 0 0, .int 3 0, .ref 87, .bool true, .int 181 0, .ref 88, .none, .ref 89, .ref 90, .ref 91, .int 287 0, .int 24 0, .str (.ofString "/claim/cut.py") 288], #[]⟩) ::
  (nat_lit 93, o_93) ::
  (nat_lit 94, ⟨.type "tuple", none, .seq #[] 0, #[]⟩) ::
  (nat_lit 96, ⟨.type "tuple", none, .seq #[.str (.ofString "self") 293] 0, #[]⟩) ::
  (nat_lit 97, ⟨.type "tuple", none, .seq #[] 0, #[]⟩) ::
  (nat_lit 99, ⟨.type "code", none, .fields #[.str (.ofString "size") 290, .str (.ofString "Bank.size") 291, .str (.ofString "/claim/cut.py") 292, .int 30 0, .int 1 0, .int 0 0, .int 0 0, .int 3 0, .ref 94, .bool true, .int 181 0, .ref 95, .none, .ref 96, .ref 97, .ref 98, .int 294 0, .int 30 0, .str (.ofString "/claim/cut.py") 295], #[]⟩) ::
  (nat_lit 100, o_100) ::
  (nat_lit 101, ⟨.type "tuple", none, .seq #[] 0, #[]⟩) ::
  (nat_lit 104, ⟨.type "code", none, .fields #[.str (.ofString "take") 297, .str (.ofString "Bank.take") 298, .str (.ofString "/claim/cut.py") 299, .int 33 0, .int 3 0, .int 0 0, .int 0 0, .int 3 0, .ref 101, .bool true, .int 181 0, .ref 102, .none, .none, .none, .ref 103, .int 300 0, .int 33 0, .str (.ofString "/claim/cut.py") 301], #[]⟩) ::
  (nat_lit 105, o_105) ::
  (nat_lit 106, ⟨.type "tuple", none, .seq #[] 0, #[]⟩) ::
  (nat_lit 108, ⟨.type "tuple", none, .seq #[.str (.ofString "self") 306, .str (.ofString "op") 307] 0, #[]⟩) ::
  (nat_lit 109, ⟨.type "tuple", none, .seq #[] 0, #[]⟩) ::
  (nat_lit 111, ⟨.type "code", none, .fields #[.str (.ofString "require") 303, .str (.ofString "Bank.require") 304, .str (.ofString "/claim/cut.py") 305, .int 47 0, .int 2 0, .int 0 0, .int 0 0, .int 3 0, .ref 106, .bool true, .int 181 0, .ref 107, .none, .ref 108, .ref 109, .ref 110, .int 308 0, .int 47 0, .str (.ofString "/claim/cut.py") 309], #[]⟩) ::
  (nat_lit 112, o_112) ::
  (nat_lit 113, ⟨.type "tuple", none, .seq #[] 0, #[]⟩) ::
  (nat_lit 115, ⟨.type "tuple", none, .seq #[.str (.ofString "self") 314, .str (.ofString "t") 315] 0, #[]⟩) ::
  (nat_lit 116, ⟨.type "tuple", none, .seq #[] 0, #[]⟩) ::
  (nat_lit 118, ⟨.type "code", none, .fields #[.str (.ofString "put") 311, .str (.ofString "Bank.put") 312, .str (.ofString "/claim/cut.py") 313, .int 51 0, .int 2 0, .int 0 0, .int 0 0, .int 3 0, .ref 113, .bool true, .int 181 0, .ref 114, .none, .ref 115, .ref 116, .ref 117, .int 316 0, .int 51 0, .str (.ofString "/claim/cut.py") 317], #[]⟩) ::
  (nat_lit 119, o_119) ::
  (nat_lit 120, ⟨.type "tuple", none, .seq #[] 0, #[]⟩) ::
  (nat_lit 122, ⟨.type "tuple", none, .seq #[.str (.ofString "self") 322, .str (.ofString "t") 323] 0, #[]⟩) ::
  (nat_lit 123, ⟨.type "tuple", none, .seq #[] 0, #[]⟩) ::
  (nat_lit 125, ⟨.type "code", none, .fields #[.str (.ofString "put_all") 319, .str (.ofString "Bank.put_all") 320, .str (.ofString "/claim/cut.py") 321, .int 54 0, .int 2 0, .int 0 0, .int 0 0, .int 3 0, .ref 120, .bool true, .int 181 0, .ref 121, .none, .ref 122, .ref 123, .ref 124, .int 324 0, .int 54 0, .str (.ofString "/claim/cut.py") 325], #[]⟩) ::
  (nat_lit 126, o_126) ::
  (nat_lit 127, ⟨.type "tuple", none, .seq #[] 0, #[]⟩) ::
  (nat_lit 129, ⟨.type "tuple", none, .seq #[.str (.ofString "self") 330, .str (.ofString "many") 331] 0, #[]⟩) ::
  (nat_lit 130, ⟨.type "tuple", none, .seq #[] 0, #[]⟩) ::
  (nat_lit 132, ⟨.type "code", none, .fields #[.str (.ofString "cut") 327, .str (.ofString "Bank.cut") 328, .str (.ofString "/claim/cut.py") 329, .int 57 0, .int 2 0, .int 0 0, .int 0 0, .int 3 0, .ref 127, .bool true, .int 181 0, .ref 128, .none, .ref 129, .ref 130, .ref 131, .int 332 0, .int 57 0, .str (.ofString "/claim/cut.py") 333], #[]⟩) ::
  (nat_lit 133, o_133) ::
  (nat_lit 134, ⟨.type "tuple", none, .seq #[] 0, #[]⟩) ::
  (nat_lit 136, ⟨.type "tuple", none, .seq #[.str (.ofString "self") 338, .str (.ofString "n") 339] 0, #[]⟩) ::
  (nat_lit 137, ⟨.type "tuple", none, .seq #[] 0, #[]⟩) ::
  (nat_lit 139, ⟨.type "code", none, .fields #[.str (.ofString "op") 335, .str (.ofString "Bank.op") 336, .str (.ofString "/claim/cut.py") 337, .int 60 0, .int 2 0, .int 0 0, .int 0 0, .int 3 0, .ref 134, .bool true, .int 181 0, .ref 135, .none, .ref 136, .ref 137, .ref 138, .int 340 0, .int 60 0, .str (.ofString "/claim/cut.py") 341], #[]⟩) ::
  (nat_lit 140, o_140) ::
  (nat_lit 141, ⟨.type "tuple", none, .seq #[] 0, #[]⟩) ::
  (nat_lit 143, ⟨.type "tuple", none, .seq #[.str (.ofString "self") 346, .str (.ofString "n") 347] 0, #[]⟩) ::
  (nat_lit 144, ⟨.type "tuple", none, .seq #[] 0, #[]⟩) ::
  (nat_lit 146, ⟨.type "code", none, .fields #[.str (.ofString "kids") 343, .str (.ofString "Bank.kids") 344, .str (.ofString "/claim/cut.py") 345, .int 63 0, .int 2 0, .int 0 0, .int 0 0, .int 3 0, .ref 141, .bool true, .int 181 0, .ref 142, .none, .ref 143, .ref 144, .ref 145, .int 348 0, .int 63 0, .str (.ofString "/claim/cut.py") 349], #[]⟩) ::
  (nat_lit 147, o_147) ::
  (nat_lit 148, ⟨.type "tuple", none, .seq #[] 0, #[]⟩) ::
  (nat_lit 150, ⟨.type "tuple", none, .seq #[.str (.ofString "self") 354, .str (.ofString "n") 355] 0, #[]⟩) ::
  (nat_lit 151, ⟨.type "tuple", none, .seq #[] 0, #[]⟩) ::
  (nat_lit 153, ⟨.type "code", none, .fields #[.str (.ofString "node") 351, .str (.ofString "Bank.node") 352, .str (.ofString "/claim/cut.py") 353, .int 66 0, .int 2 0, .int 0 0, .int 0 0, .int 3 0, .ref 148, .bool true, .int 181 0, .ref 149, .none, .ref 150, .ref 151, .ref 152, .int 356 0, .int 66 0, .str (.ofString "/claim/cut.py") 357], #[]⟩) ::
  (nat_lit 154, o_154) ::
  (nat_lit 155, ⟨.type "tuple", none, .seq #[] 0, #[]⟩) ::
  (nat_lit 158, ⟨.type "code", none, .fields #[.str (.ofString "term") 359, .str (.ofString "Bank.term") 360, .str (.ofString "/claim/cut.py") 361, .int 69 0, .int 2 0, .int 0 0, .int 0 0, .int 3 0, .ref 155, .bool true, .int 181 0, .ref 156, .none, .none, .none, .ref 157, .int 362 0, .int 69 0, .str (.ofString "/claim/cut.py") 363], #[]⟩) ::
  (nat_lit 159, o_159) ::
  (nat_lit 160, ⟨.type "tuple", none, .seq #[] 0, #[]⟩) ::
  (nat_lit 162, ⟨.type "tuple", none, .seq #[.str (.ofString "self") 368, .str (.ofString "n") 369] 0, #[]⟩) ::
  (nat_lit 163, ⟨.type "tuple", none, .seq #[] 0, #[]⟩) ::
  (nat_lit 165, ⟨.type "code", none, .fields #[.str (.ofString "weight") 365, .str (.ofString "Bank.weight") 366, .str (.ofString "/claim/cut.py") 367, .int 81 0, .int 2 0, .int 0 0, .int 0 0, .int 3 0, .ref 160, .bool true, .int 181 0, .ref 161, .none, .ref 162, .ref 163, .ref 164, .int 370 0, .int 81 0, .str (.ofString "/claim/cut.py") 371], #[]⟩) ::
  (nat_lit 166, o_166) ::
  (nat_lit 167, ⟨.type "tuple", none, .seq #[] 0, #[]⟩) ::
  (nat_lit 169, ⟨.type "tuple", none, .seq #[.str (.ofString "self") 376, .str (.ofString "n") 377] 0, #[]⟩) ::
  (nat_lit 170, ⟨.type "tuple", none, .seq #[] 0, #[]⟩) ::
  (nat_lit 172, ⟨.type "code", none, .fields #[.str (.ofString "depth") 373, .str (.ofString "Bank.depth") 374, .str (.ofString "/claim/cut.py") 375, .int 84 0, .int 2 0, .int 0 0, .int 0 0, .int 3 0, .ref 167, .bool true, .int 181 0, .ref 168, .none, .ref 169, .ref 170, .ref 171, .int 378 0, .int 84 0, .str (.ofString "/claim/cut.py") 379], #[]⟩) ::
  (nat_lit 173, o_173) ::
  (nat_lit 174, ⟨.type "tuple", none, .seq #[] 0, #[]⟩) ::
  (nat_lit 176, ⟨.type "tuple", none, .seq #[.str (.ofString "self") 384, .str (.ofString "op") 385, .str (.ofString "kids") 386] 0, #[]⟩) ::
  (nat_lit 177, ⟨.type "tuple", none, .seq #[] 0, #[]⟩) ::
  (nat_lit 179, ⟨.type "code", none, .fields #[.str (.ofString "seek") 381, .str (.ofString "Bank.seek") 382, .str (.ofString "/claim/cut.py") 383, .int 87 0, .int 3 0, .int 0 0, .int 0 0, .int 3 0, .ref 174, .bool true, .int 181 0, .ref 175, .none, .ref 176, .ref 177, .ref 178, .int 387 0, .int 87 0, .str (.ofString "/claim/cut.py") 388], #[]⟩) ::
  (nat_lit 180, o_180) ::
  (nat_lit 181, ⟨.type "tuple", none, .seq #[.str (.ofString "depths") 390, .str (.ofString "nodes") 391, .str (.ofString "numbers") 392, .str (.ofString "weights") 393] 0, #[]⟩) ::
  (nat_lit 182, ⟨.type "dict", none, .dict #[⟨PyData.keyHash P (.ofString "__module__"), .str (.ofString "__module__") 278, .str (.ofString "alikeheap.terms") 250⟩, ⟨PyData.keyHash P (.ofString "__firstlineno__"), .str (.ofString "__firstlineno__") 282, .int 22 281⟩, ⟨PyData.keyHash P (.ofString "__init__"), .str (.ofString "__init__") 289, .ref 93⟩, ⟨PyData.keyHash P (.ofString "size"), .str (.ofString "size") 296, .ref 100⟩, ⟨PyData.keyHash P (.ofString "take"), .str (.ofString "take") 302, .ref 105⟩, ⟨PyData.keyHash P (.ofString "require"), .str (.ofString "require") 310, .ref 112⟩, ⟨PyData.keyHash P (.ofString "put"), .str (.ofString "put") 318, .ref 119⟩, ⟨PyData.keyHash P (.ofString "put_all"), .str (.ofString "put_all") 326, .ref 126⟩, ⟨PyData.keyHash P (.ofString "cut"), .str (.ofString "cut") 334, .ref 133⟩, ⟨PyData.keyHash P (.ofString "op"), .str (.ofString "op") 342, .ref 140⟩, ⟨PyData.keyHash P (.ofString "kids"), .str (.ofString "kids") 350, .ref 147⟩, ⟨PyData.keyHash P (.ofString "node"), .str (.ofString "node") 358, .ref 154⟩, ⟨PyData.keyHash P (.ofString "term"), .str (.ofString "term") 364, .ref 159⟩, ⟨PyData.keyHash P (.ofString "weight"), .str (.ofString "weight") 372, .ref 166⟩, ⟨PyData.keyHash P (.ofString "depth"), .str (.ofString "depth") 380, .ref 173⟩, ⟨PyData.keyHash P (.ofString "seek"), .str (.ofString "seek") 389, .ref 180⟩, ⟨PyData.keyHash P (.ofString "__static_attributes__"), .str (.ofString "__static_attributes__") 394, .ref 181⟩, ⟨PyData.keyHash P (.ofString "__dict__"), .str (.ofString "__dict__") 396, .ref 184⟩, ⟨PyData.keyHash P (.ofString "__weakref__"), .str (.ofString "__weakref__") 398, .ref 185⟩, ⟨PyData.keyHash P (.ofString "__doc__"), .str (.ofString "__doc__") 399, .none⟩] 4, #[]⟩) ::
  (nat_lit 183, ⟨.type "type", none, .cls (.mk (.ofString "Bank") [.type "object"] [.ref 183, .type "object"] 182 (.ofString "Bank") true [] [] false none false), #[none, none, some (.str (.ofString "Bank") 271), some (.str (.ofString "Bank") 279), some (.builtin "object.__new__"), some (.bool true)]⟩) ::
  (nat_lit 184, ⟨.type "getset_descriptor", none, .fields #[.str (.ofString "__dict__") 395, .ref 183, .builtin "function.__dict__", .builtin "function.__dict__#set"], #[]⟩) ::
  (nat_lit 185, ⟨.type "getset_descriptor", none, .fields #[.str (.ofString "__weakref__") 397, .ref 183, .builtin "ExceptionGroup.__weakref__", .none], #[]⟩) ::
  (nat_lit 195, ⟨.type "tuple", none, .seq #[] 0, #[]⟩) ::
  (nat_lit 197, ⟨.type "tuple", none, .seq #[.str (.ofString "self") 419, .str (.ofString "heap") 420] 0, #[]⟩) ::
  (nat_lit 198, ⟨.type "tuple", none, .seq #[] 0, #[]⟩) ::
  (nat_lit 200, ⟨.type "code", none, .fields #[.str (.ofString "__init__") 416, .str (.ofString "Walker.__init__") 417, .str (.ofString "/claim/cut.py") 418, .int 92 0, .int 2 0, .int 0 0, .int 0 0, .int 3 0, .ref 195, .bool true, .int 181 0, .ref 196, .none, .ref 197, .ref 198, .ref 199, .int 421 0, .int 92 0, .str (.ofString "/claim/cut.py") 422], #[]⟩) ::
  (nat_lit 201, o_201) ::
  (nat_lit 202, ⟨.type "tuple", none, .seq #[] 0, #[]⟩) ::
  (nat_lit 205, ⟨.type "code", none, .fields #[.str (.ofString "extended") 424, .str (.ofString "Walker.extended") 425, .str (.ofString "/claim/cut.py") 426, .int 95 0, .int 4 0, .int 0 0, .int 0 0, .int 3 0, .ref 202, .bool true, .int 181 0, .ref 203, .none, .none, .none, .ref 204, .int 427 0, .int 95 0, .str (.ofString "/claim/cut.py") 428], #[]⟩) ::
  (nat_lit 206, o_206) ::
  (nat_lit 207, ⟨.type "tuple", none, .seq #[] 0, #[]⟩) ::
  (nat_lit 209, ⟨.type "tuple", none, .seq #[.str (.ofString "self") 433, .str (.ofString "c") 434, .str (.ofString "pattern") 435, .str (.ofString "substs") 436, .str (.ofString "table") 437] 0, #[]⟩) ::
  (nat_lit 210, ⟨.type "tuple", none, .seq #[] 0, #[]⟩) ::
  (nat_lit 212, ⟨.type "code", none, .fields #[.str (.ofString "found_in") 430, .str (.ofString "Walker.found_in") 431, .str (.ofString "/claim/cut.py") 432, .int 110 0, .int 3 0, .int 0 0, .int 0 0, .int 3 0, .ref 207, .bool true, .int 181 0, .ref 208, .none, .ref 209, .ref 210, .ref 211, .int 438 0, .int 110 0, .str (.ofString "/claim/cut.py") 439], #[]⟩) ::
  (nat_lit 213, o_213) ::
  (nat_lit 214, ⟨.type "tuple", none, .seq #[] 0, #[]⟩) ::
  (nat_lit 217, ⟨.type "code", none, .fields #[.str (.ofString "found") 441, .str (.ofString "Walker.found") 442, .str (.ofString "/claim/cut.py") 443, .int 116 0, .int 2 0, .int 0 0, .int 0 0, .int 3 0, .ref 214, .bool true, .int 181 0, .ref 215, .none, .none, .none, .ref 216, .int 444 0, .int 116 0, .str (.ofString "/claim/cut.py") 445], #[]⟩) ::
  (nat_lit 218, o_218) ::
  (nat_lit 219, ⟨.type "tuple", none, .seq #[.str (.ofString "heap") 447] 0, #[]⟩) ::
  (nat_lit 220, ⟨.type "dict", none, .dict #[⟨PyData.keyHash P (.ofString "__module__"), .str (.ofString "__module__") 411, .str (.ofString "alikeheap.matching") 402⟩, ⟨PyData.keyHash P (.ofString "__firstlineno__"), .str (.ofString "__firstlineno__") 415, .int 90 414⟩, ⟨PyData.keyHash P (.ofString "__init__"), .str (.ofString "__init__") 423, .ref 201⟩, ⟨PyData.keyHash P (.ofString "extended"), .str (.ofString "extended") 429, .ref 206⟩, ⟨PyData.keyHash P (.ofString "found_in"), .str (.ofString "found_in") 440, .ref 213⟩, ⟨PyData.keyHash P (.ofString "found"), .str (.ofString "found") 446, .ref 218⟩, ⟨PyData.keyHash P (.ofString "__static_attributes__"), .str (.ofString "__static_attributes__") 448, .ref 219⟩, ⟨PyData.keyHash P (.ofString "__dict__"), .str (.ofString "__dict__") 450, .ref 222⟩, ⟨PyData.keyHash P (.ofString "__weakref__"), .str (.ofString "__weakref__") 452, .ref 223⟩, ⟨PyData.keyHash P (.ofString "__doc__"), .str (.ofString "__doc__") 453, .none⟩] 4, #[]⟩) ::
  (nat_lit 221, ⟨.type "type", none, .cls (.mk (.ofString "Walker") [.type "object"] [.ref 221, .type "object"] 220 (.ofString "Walker") true [] [] false none false), #[none, none, some (.str (.ofString "Walker") 404), some (.str (.ofString "Walker") 412), some (.builtin "object.__new__"), some (.bool true)]⟩) ::
  (nat_lit 222, ⟨.type "getset_descriptor", none, .fields #[.str (.ofString "__dict__") 449, .ref 221, .builtin "function.__dict__", .builtin "function.__dict__#set"], #[]⟩) ::
  (nat_lit 223, ⟨.type "getset_descriptor", none, .fields #[.str (.ofString "__weakref__") 451, .ref 221, .builtin "ExceptionGroup.__weakref__", .none], #[]⟩) ::
  (nat_lit 233, ⟨.type "tuple", none, .seq #[] 0, #[]⟩) ::
  (nat_lit 235, ⟨.type "tuple", none, .seq #[.str (.ofString "self") 471, .str (.ofString "heap") 472] 0, #[]⟩) ::
  (nat_lit 236, ⟨.type "tuple", none, .seq #[] 0, #[]⟩) ::
  (nat_lit 238, ⟨.type "code", none, .fields #[.str (.ofString "__init__") 468, .str (.ofString "Changes.__init__") 469, .str (.ofString "/claim/cut.py") 470, .int 120 0, .int 2 0, .int 0 0, .int 0 0, .int 3 0, .ref 233, .bool true, .int 181 0, .ref 234, .none, .ref 235, .ref 236, .ref 237, .int 473 0, .int 120 0, .str (.ofString "/claim/cut.py") 474], #[]⟩) ::
  (nat_lit 239, o_239) ::
  (nat_lit 240, ⟨.type "tuple", none, .seq #[] 0, #[]⟩) ::
  (nat_lit 243, ⟨.type "code", none, .fields #[.str (.ofString "changed") 476, .str (.ofString "Changes.changed") 477, .str (.ofString "/claim/cut.py") 478, .int 127 0, .int 2 0, .int 0 0, .int 0 0, .int 3 0, .ref 240, .bool true, .int 181 0, .ref 241, .none, .none, .none, .ref 242, .int 479 0, .int 127 0, .str (.ofString "/claim/cut.py") 480], #[]⟩) ::
  (nat_lit 244, o_244) ::
  (nat_lit 245, ⟨.type "tuple", none, .seq #[] 0, #[]⟩) ::
  (nat_lit 248, ⟨.type "code", none, .fields #[.str (.ofString "reached") 482, .str (.ofString "Changes.reached") 483, .str (.ofString "/claim/cut.py") 484, .int 135 0, .int 3 0, .int 0 0, .int 0 0, .int 3 0, .ref 245, .bool true, .int 181 0, .ref 246, .none, .none, .none, .ref 247, .int 485 0, .int 135 0, .str (.ofString "/claim/cut.py") 486], #[]⟩) ::
  (nat_lit 249, o_249) ::
  (nat_lit 250, ⟨.type "tuple", none, .seq #[] 0, #[]⟩) ::
  (nat_lit 253, ⟨.type "code", none, .fields #[.str (.ofString "image") 488, .str (.ofString "Changes.image") 489, .str (.ofString "/claim/cut.py") 490, .int 145 0, .int 2 0, .int 0 0, .int 0 0, .int 3 0, .ref 250, .bool true, .int 181 0, .ref 251, .none, .none, .none, .ref 252, .int 491 0, .int 145 0, .str (.ofString "/claim/cut.py") 492], #[]⟩) ::
  (nat_lit 254, o_254) ::
  (nat_lit 255, ⟨.type "tuple", none, .seq #[] 0, #[]⟩) ::
  (nat_lit 258, ⟨.type "code", none, .fields #[.str (.ofString "found") 494, .str (.ofString "Changes.found") 495, .str (.ofString "/claim/cut.py") 496, .int 149 0, .int 2 0, .int 0 0, .int 0 0, .int 3 0, .ref 255, .bool true, .int 181 0, .ref 256, .none, .none, .none, .ref 257, .int 497 0, .int 149 0, .str (.ofString "/claim/cut.py") 498], #[]⟩) ::
  (nat_lit 259, o_259) ::
  (nat_lit 260, ⟨.type "tuple", none, .seq #[] 0, #[]⟩) ::
  (nat_lit 262, ⟨.type "tuple", none, .seq #[.str (.ofString "self") 503, .str (.ofString "pattern") 504] 0, #[]⟩) ::
  (nat_lit 263, ⟨.type "tuple", none, .seq #[] 0, #[]⟩) ::
  (nat_lit 265, ⟨.type "code", none, .fields #[.str (.ofString "all_found") 500, .str (.ofString "Changes.all_found") 501, .str (.ofString "/claim/cut.py") 502, .int 163 0, .int 2 0, .int 0 0, .int 0 0, .int 3 0, .ref 260, .bool true, .int 181 0, .ref 261, .none, .ref 262, .ref 263, .ref 264, .int 505 0, .int 163 0, .str (.ofString "/claim/cut.py") 506], #[]⟩) ::
  (nat_lit 266, o_266) ::
  (nat_lit 267, ⟨.type "tuple", none, .seq #[.str (.ofString "backs") 508, .str (.ofString "heap") 509, .str (.ofString "marks") 510, .str (.ofString "seen") 511, .str (.ofString "walker") 512] 0, #[]⟩) ::
  (nat_lit 268, ⟨.type "dict", none, .dict #[⟨PyData.keyHash P (.ofString "__module__"), .str (.ofString "__module__") 463, .str (.ofString "alikeheap.matching") 402⟩, ⟨PyData.keyHash P (.ofString "__firstlineno__"), .str (.ofString "__firstlineno__") 467, .int 118 466⟩, ⟨PyData.keyHash P (.ofString "__init__"), .str (.ofString "__init__") 475, .ref 239⟩, ⟨PyData.keyHash P (.ofString "changed"), .str (.ofString "changed") 481, .ref 244⟩, ⟨PyData.keyHash P (.ofString "reached"), .str (.ofString "reached") 487, .ref 249⟩, ⟨PyData.keyHash P (.ofString "image"), .str (.ofString "image") 493, .ref 254⟩, ⟨PyData.keyHash P (.ofString "found"), .str (.ofString "found") 499, .ref 259⟩, ⟨PyData.keyHash P (.ofString "all_found"), .str (.ofString "all_found") 507, .ref 266⟩, ⟨PyData.keyHash P (.ofString "__static_attributes__"), .str (.ofString "__static_attributes__") 513, .ref 267⟩, ⟨PyData.keyHash P (.ofString "__dict__"), .str (.ofString "__dict__") 515, .ref 270⟩, ⟨PyData.keyHash P (.ofString "__weakref__"), .str (.ofString "__weakref__") 517, .ref 271⟩, ⟨PyData.keyHash P (.ofString "__doc__"), .str (.ofString "__doc__") 518, .none⟩] 4, #[]⟩) ::
  (nat_lit 269, ⟨.type "type", none, .cls (.mk (.ofString "Changes") [.type "object"] [.ref 269, .type "object"] 268 (.ofString "Changes") true [] [] false none false), #[none, none, some (.str (.ofString "Changes") 456), some (.str (.ofString "Changes") 464), some (.builtin "object.__new__"), some (.bool true)]⟩) ::
  (nat_lit 270, ⟨.type "getset_descriptor", none, .fields #[.str (.ofString "__dict__") 514, .ref 269, .builtin "function.__dict__", .builtin "function.__dict__#set"], #[]⟩) ::
  (nat_lit 271, ⟨.type "getset_descriptor", none, .fields #[.str (.ofString "__weakref__") 516, .ref 269, .builtin "ExceptionGroup.__weakref__", .none], #[]⟩) ::
  (nat_lit 281, ⟨.type "tuple", none, .seq #[] 0, #[]⟩) ::
  (nat_lit 283, ⟨.type "tuple", none, .seq #[.str (.ofString "self") 538] 0, #[]⟩) ::
  (nat_lit 284, ⟨.type "tuple", none, .seq #[] 0, #[]⟩) ::
  (nat_lit 286, ⟨.type "code", none, .fields #[.str (.ofString "__init__") 535, .str (.ofString "Unions.__init__") 536, .str (.ofString "/claim/cut.py") 537, .int 168 0, .int 1 0, .int 0 0, .int 0 0, .int 3 0, .ref 281, .bool true, .int 181 0, .ref 282, .none, .ref 283, .ref 284, .ref 285, .int 539 0, .int 168 0, .str (.ofString "/claim/cut.py") 540], #[]⟩) ::
  (nat_lit 287, o_287) ::
  (nat_lit 288, ⟨.type "tuple", none, .seq #[] 0, #[]⟩) ::
  (nat_lit 290, ⟨.type "tuple", none, .seq #[.str (.ofString "self") 545] 0, #[]⟩) ::
  (nat_lit 291, ⟨.type "tuple", none, .seq #[] 0, #[]⟩) ::
  (nat_lit 293, ⟨.type "code", none, .fields #[.str (.ofString "make") 542, .str (.ofString "Unions.make") 543, .str (.ofString "/claim/cut.py") 544, .int 173 0, .int 1 0, .int 0 0, .int 0 0, .int 3 0, .ref 288, .bool true, .int 181 0, .ref 289, .none, .ref 290, .ref 291, .ref 292, .int 546 0, .int 173 0, .str (.ofString "/claim/cut.py") 547], #[]⟩) ::
  (nat_lit 294, o_294) ::
  (nat_lit 295, ⟨.type "tuple", none, .seq #[] 0, #[]⟩) ::
  (nat_lit 297, ⟨.type "tuple", none, .seq #[.str (.ofString "self") 552] 0, #[]⟩) ::
  (nat_lit 298, ⟨.type "tuple", none, .seq #[] 0, #[]⟩) ::
  (nat_lit 300, ⟨.type "code", none, .fields #[.str (.ofString "size") 549, .str (.ofString "Unions.size") 550, .str (.ofString "/claim/cut.py") 551, .int 178 0, .int 1 0, .int 0 0, .int 0 0, .int 3 0, .ref 295, .bool true, .int 181 0, .ref 296, .none, .ref 297, .ref 298, .ref 299, .int 553 0, .int 178 0, .str (.ofString "/claim/cut.py") 554], #[]⟩) ::
  (nat_lit 301, o_301) ::
  (nat_lit 302, ⟨.type "tuple", none, .seq #[] 0, #[]⟩) ::
  (nat_lit 304, ⟨.type "tuple", none, .seq #[.str (.ofString "self") 559, .str (.ofString "a") 560] 0, #[]⟩) ::
  (nat_lit 305, ⟨.type "tuple", none, .seq #[] 0, #[]⟩) ::
  (nat_lit 307, ⟨.type "code", none, .fields #[.str (.ofString "find") 556, .str (.ofString "Unions.find") 557, .str (.ofString "/claim/cut.py") 558, .int 181 0, .int 2 0, .int 0 0, .int 0 0, .int 3 0, .ref 302, .bool true, .int 181 0, .ref 303, .none, .ref 304, .ref 305, .ref 306, .int 561 0, .int 181 0, .str (.ofString "/claim/cut.py") 562], #[]⟩) ::
  (nat_lit 308, o_308) ::
  (nat_lit 309, ⟨.type "tuple", none, .seq #[] 0, #[]⟩) ::
  (nat_lit 311, ⟨.type "tuple", none, .seq #[.str (.ofString "self") 567, .str (.ofString "a") 568, .str (.ofString "b") 569, .str (.ofString "kept") 570, .str (.ofString "gone") 571] 0, #[]⟩) ::
  (nat_lit 312, ⟨.type "tuple", none, .seq #[] 0, #[]⟩) ::
  (nat_lit 314, ⟨.type "code", none, .fields #[.str (.ofString "merge") 564, .str (.ofString "Unions.merge") 565, .str (.ofString "/claim/cut.py") 566, .int 186 0, .int 3 0, .int 0 0, .int 0 0, .int 3 0, .ref 309, .bool true, .int 181 0, .ref 310, .none, .ref 311, .ref 312, .ref 313, .int 572 0, .int 186 0, .str (.ofString "/claim/cut.py") 573], #[]⟩) ::
  (nat_lit 315, o_315) ::
  (nat_lit 316, ⟨.type "tuple", none, .seq #[] 0, #[]⟩) ::
  (nat_lit 318, ⟨.type "tuple", none, .seq #[.str (.ofString "self") 578, .str (.ofString "a") 579] 0, #[]⟩) ::
  (nat_lit 319, ⟨.type "tuple", none, .seq #[] 0, #[]⟩) ::
  (nat_lit 321, ⟨.type "code", none, .fields #[.str (.ofString "members") 575, .str (.ofString "Unions.members") 576, .str (.ofString "/claim/cut.py") 577, .int 195 0, .int 2 0, .int 0 0, .int 0 0, .int 3 0, .ref 316, .bool true, .int 181 0, .ref 317, .none, .ref 318, .ref 319, .ref 320, .int 580 0, .int 195 0, .str (.ofString "/claim/cut.py") 581], #[]⟩) ::
  (nat_lit 322, o_322) ::
  (nat_lit 323, ⟨.type "tuple", none, .seq #[] 0, #[]⟩) ::
  (nat_lit 326, ⟨.type "code", none, .fields #[.str (.ofString "classes") 583, .str (.ofString "Unions.classes") 584, .str (.ofString "/claim/cut.py") 585, .int 198 0, .int 1 0, .int 0 0, .int 0 0, .int 3 0, .ref 323, .bool true, .int 181 0, .ref 324, .none, .none, .none, .ref 325, .int 586 0, .int 198 0, .str (.ofString "/claim/cut.py") 587], #[]⟩) ::
  (nat_lit 327, o_327) ::
  (nat_lit 328, ⟨.type "tuple", none, .seq #[] 0, #[]⟩) ::
  (nat_lit 330, ⟨.type "tuple", none, .seq #[.str (.ofString "self") 592] 0, #[]⟩) ::
  (nat_lit 331, ⟨.type "tuple", none, .seq #[] 0, #[]⟩) ::
  (nat_lit 333, ⟨.type "code", none, .fields #[.str (.ofString "log") 589, .str (.ofString "Unions.log") 590, .str (.ofString "/claim/cut.py") 591, .int 201 0, .int 1 0, .int 0 0, .int 0 0, .int 3 0, .ref 328, .bool true, .int 181 0, .ref 329, .none, .ref 330, .ref 331, .ref 332, .int 593 0, .int 201 0, .str (.ofString "/claim/cut.py") 594], #[]⟩) ::
  (nat_lit 334, o_334) ::
  (nat_lit 335, ⟨.type "tuple", none, .seq #[] 0, #[]⟩) ::
  (nat_lit 337, ⟨.type "tuple", none, .seq #[.str (.ofString "self") 599, .str (.ofString "many") 600, .str (.ofString "kept") 601, .str (.ofString "gone") 602] 0, #[]⟩) ::
  (nat_lit 338, ⟨.type "tuple", none, .seq #[] 0, #[]⟩) ::
  (nat_lit 340, ⟨.type "code", none, .fields #[.str (.ofString "back") 596, .str (.ofString "Unions.back") 597, .str (.ofString "/claim/cut.py") 598, .int 204 0, .int 2 0, .int 0 0, .int 0 0, .int 3 0, .ref 335, .bool true, .int 181 0, .ref 336, .none, .ref 337, .ref 338, .ref 339, .int 603 0, .int 204 0, .str (.ofString "/claim/cut.py") 604], #[]⟩) ::
  (nat_lit 341, o_341) ::
  (nat_lit 342, ⟨.type "tuple", none, .seq #[] 0, #[]⟩) ::
  (nat_lit 344, ⟨.type "tuple", none, .seq #[.str (.ofString "self") 609, .str (.ofString "many") 610] 0, #[]⟩) ::
  (nat_lit 345, ⟨.type "tuple", none, .seq #[] 0, #[]⟩) ::
  (nat_lit 347, ⟨.type "code", none, .fields #[.str (.ofString "cut") 606, .str (.ofString "Unions.cut") 607, .str (.ofString "/claim/cut.py") 608, .int 210 0, .int 2 0, .int 0 0, .int 0 0, .int 3 0, .ref 342, .bool true, .int 181 0, .ref 343, .none, .ref 344, .ref 345, .ref 346, .int 611 0, .int 210 0, .str (.ofString "/claim/cut.py") 612], #[]⟩) ::
  (nat_lit 348, o_348) ::
  (nat_lit 349, ⟨.type "tuple", none, .seq #[.str (.ofString "above") 614, .str (.ofString "lots") 615, .str (.ofString "merged") 616] 0, #[]⟩) ::
  (nat_lit 350, ⟨.type "dict", none, .dict #[⟨PyData.keyHash P (.ofString "__module__"), .str (.ofString "__module__") 530, .str (.ofString "alikeheap.unions") 521⟩, ⟨PyData.keyHash P (.ofString "__firstlineno__"), .str (.ofString "__firstlineno__") 534, .int 166 533⟩, ⟨PyData.keyHash P (.ofString "__init__"), .str (.ofString "__init__") 541, .ref 287⟩, ⟨PyData.keyHash P (.ofString "make"), .str (.ofString "make") 548, .ref 294⟩, ⟨PyData.keyHash P (.ofString "size"), .str (.ofString "size") 555, .ref 301⟩, ⟨PyData.keyHash P (.ofString "find"), .str (.ofString "find") 563, .ref 308⟩, ⟨PyData.keyHash P (.ofString "merge"), .str (.ofString "merge") 574, .ref 315⟩, ⟨PyData.keyHash P (.ofString "members"), .str (.ofString "members") 582, .ref 322⟩, ⟨PyData.keyHash P (.ofString "classes"), .str (.ofString "classes") 588, .ref 327⟩, ⟨PyData.keyHash P (.ofString "log"), .str (.ofString "log") 595, .ref 334⟩, ⟨PyData.keyHash P (.ofString "back"), .str (.ofString "back") 605, .ref 341⟩, ⟨PyData.keyHash P (.ofString "cut"), .str (.ofString "cut") 613, .ref 348⟩, ⟨PyData.keyHash P (.ofString "__static_attributes__"), .str (.ofString "__static_attributes__") 617, .ref 349⟩, ⟨PyData.keyHash P (.ofString "__dict__"), .str (.ofString "__dict__") 619, .ref 352⟩, ⟨PyData.keyHash P (.ofString "__weakref__"), .str (.ofString "__weakref__") 621, .ref 353⟩, ⟨PyData.keyHash P (.ofString "__doc__"), .str (.ofString "__doc__") 622, .none⟩] 4, #[]⟩) ::
  (nat_lit 351, ⟨.type "type", none, .cls (.mk (.ofString "Unions") [.type "object"] [.ref 351, .type "object"] 350 (.ofString "Unions") true [] [] false none false), #[none, none, some (.str (.ofString "Unions") 523), some (.str (.ofString "Unions") 531), some (.builtin "object.__new__"), some (.bool true)]⟩) ::
  (nat_lit 352, ⟨.type "getset_descriptor", none, .fields #[.str (.ofString "__dict__") 618, .ref 351, .builtin "function.__dict__", .builtin "function.__dict__#set"], #[]⟩) ::
  (nat_lit 353, ⟨.type "getset_descriptor", none, .fields #[.str (.ofString "__weakref__") 620, .ref 351, .builtin "ExceptionGroup.__weakref__", .none], #[]⟩) ::
  (nat_lit 363, ⟨.type "tuple", none, .seq #[] 0, #[]⟩) ::
  (nat_lit 365, ⟨.type "tuple", none, .seq #[.str (.ofString "self") 642] 0, #[]⟩) ::
  (nat_lit 366, ⟨.type "tuple", none, .seq #[] 0, #[]⟩) ::
  (nat_lit 368, ⟨.type "code", none, .fields #[.str (.ofString "__init__") 639, .str (.ofString "Heap.__init__") 640, .str (.ofString "/claim/cut.py") 641, .int 215 0, .int 1 0, .int 0 0, .int 0 0, .int 3 0, .ref 363, .bool true, .int 181 0, .ref 364, .none, .ref 365, .ref 366, .ref 367, .int 643 0, .int 215 0, .str (.ofString "/claim/cut.py") 644], #[]⟩) ::
  (nat_lit 369, o_369) ::
  (nat_lit 370, ⟨.type "tuple", none, .seq #[] 0, #[]⟩) ::
  (nat_lit 372, ⟨.type "tuple", none, .seq #[.str (.ofString "self") 649] 0, #[]⟩) ::
  (nat_lit 373, ⟨.type "tuple", none, .seq #[] 0, #[]⟩) ::
  (nat_lit 375, ⟨.type "code", none, .fields #[.str (.ofString "size") 646, .str (.ofString "Heap.size") 647, .str (.ofString "/claim/cut.py") 648, .int 225 0, .int 1 0, .int 0 0, .int 0 0, .int 3 0, .ref 370, .bool true, .int 181 0, .ref 371, .none, .ref 372, .ref 373, .ref 374, .int 650 0, .int 225 0, .str (.ofString "/claim/cut.py") 651], #[]⟩) ::
  (nat_lit 376, o_376) ::
  (nat_lit 377, ⟨.type "tuple", none, .seq #[] 0, #[]⟩) ::
  (nat_lit 380, ⟨.type "code", none, .fields #[.str (.ofString "node") 653, .str (.ofString "Heap.node") 654, .str (.ofString "/claim/cut.py") 655, .int 228 0, .int 2 0, .int 0 0, .int 0 0, .int 3 0, .ref 377, .bool true, .int 181 0, .ref 378, .none, .none, .none, .ref 379, .int 656 0, .int 228 0, .str (.ofString "/claim/cut.py") 657], #[]⟩) ::
  (nat_lit 381, o_381) ::
  (nat_lit 382, ⟨.type "tuple", none, .seq #[] 0, #[]⟩) ::
  (nat_lit 385, ⟨.type "code", none, .fields #[.str (.ofString "add") 659, .str (.ofString "Heap.add") 660, .str (.ofString "/claim/cut.py") 661, .int 231 0, .int 3 0, .int 0 0, .int 0 0, .int 3 0, .ref 382, .bool true, .int 181 0, .ref 383, .none, .none, .none, .ref 384, .int 662 0, .int 231 0, .str (.ofString "/claim/cut.py") 663], #[]⟩) ::
  (nat_lit 386, o_386) ::
  (nat_lit 387, ⟨.type "tuple", none, .seq #[] 0, #[]⟩) ::
  (nat_lit 389, ⟨.type "tuple", none, .seq #[.str (.ofString "self") 668, .str (.ofString "term") 669] 0, #[]⟩) ::
  (nat_lit 390, ⟨.type "tuple", none, .seq #[] 0, #[]⟩) ::
  (nat_lit 392, ⟨.type "code", none, .fields #[.str (.ofString "put") 665, .str (.ofString "Heap.put") 666, .str (.ofString "/claim/cut.py") 667, .int 242 0, .int 2 0, .int 0 0, .int 0 0, .int 3 0, .ref 387, .bool true, .int 181 0, .ref 388, .none, .ref 389, .ref 390, .ref 391, .int 670 0, .int 242 0, .str (.ofString "/claim/cut.py") 671], #[]⟩) ::
  (nat_lit 393, o_393) ::
  (nat_lit 394, ⟨.type "tuple", none, .seq #[] 0, #[]⟩) ::
  (nat_lit 396, ⟨.type "tuple", none, .seq #[.str (.ofString "self") 676, .str (.ofString "n") 677, .str (.ofString "other") 678] 0, #[]⟩) ::
  (nat_lit 397, ⟨.type "tuple", none, .seq #[] 0, #[]⟩) ::
  (nat_lit 399, ⟨.type "code", none, .fields #[.str (.ofString "look_at") 673, .str (.ofString "Heap.look_at") 674, .str (.ofString "/claim/cut.py") 675, .int 245 0, .int 2 0, .int 0 0, .int 0 0, .int 3 0, .ref 394, .bool true, .int 181 0, .ref 395, .none, .ref 396, .ref 397, .ref 398, .int 679 0, .int 245 0, .str (.ofString "/claim/cut.py") 680], #[]⟩) ::
  (nat_lit 400, o_400) ::
  (nat_lit 401, ⟨.type "tuple", none, .seq #[] 0, #[]⟩) ::
  (nat_lit 403, ⟨.type "tuple", none, .seq #[.str (.ofString "self") 685, .str (.ofString "n") 686] 0, #[]⟩) ::
  (nat_lit 404, ⟨.type "tuple", none, .seq #[] 0, #[]⟩) ::
  (nat_lit 406, ⟨.type "code", none, .fields #[.str (.ofString "find") 682, .str (.ofString "Heap.find") 683, .str (.ofString "/claim/cut.py") 684, .int 250 0, .int 2 0, .int 0 0, .int 0 0, .int 3 0, .ref 401, .bool true, .int 181 0, .ref 402, .none, .ref 403, .ref 404, .ref 405, .int 687 0, .int 250 0, .str (.ofString "/claim/cut.py") 688], #[]⟩) ::
  (nat_lit 407, o_407) ::
  (nat_lit 408, ⟨.type "tuple", none, .seq #[] 0, #[]⟩) ::
  (nat_lit 410, ⟨.type "tuple", none, .seq #[.str (.ofString "self") 693, .str (.ofString "a") 694, .str (.ofString "b") 695] 0, #[]⟩) ::
  (nat_lit 411, ⟨.type "tuple", none, .seq #[] 0, #[]⟩) ::
  (nat_lit 413, ⟨.type "code", none, .fields #[.str (.ofString "are_like") 690, .str (.ofString "Heap.are_like") 691, .str (.ofString "/claim/cut.py") 692, .int 253 0, .int 3 0, .int 0 0, .int 0 0, .int 3 0, .ref 408, .bool true, .int 181 0, .ref 409, .none, .ref 410, .ref 411, .ref 412, .int 696 0, .int 253 0, .str (.ofString "/claim/cut.py") 697], #[]⟩) ::
  (nat_lit 414, o_414) ::
  (nat_lit 415, ⟨.type "tuple", none, .seq #[] 0, #[]⟩) ::
  (nat_lit 417, ⟨.type "tuple", none, .seq #[.str (.ofString "self") 702, .str (.ofString "a") 703, .str (.ofString "b") 704, .str (.ofString "reason") 705] 0, #[]⟩) ::
  (nat_lit 418, ⟨.type "tuple", none, .seq #[] 0, #[]⟩) ::
  (nat_lit 420, ⟨.type "code", none, .fields #[.str (.ofString "merge") 699, .str (.ofString "Heap.merge") 700, .str (.ofString "/claim/cut.py") 701, .int 256 0, .int 4 0, .int 0 0, .int 0 0, .int 3 0, .ref 415, .bool true, .int 181 0, .ref 416, .none, .ref 417, .ref 418, .ref 419, .int 706 0, .int 256 0, .str (.ofString "/claim/cut.py") 707], #[]⟩) ::
  (nat_lit 421, o_421) ::
  (nat_lit 422, ⟨.type "tuple", none, .seq #[] 0, #[]⟩) ::
  (nat_lit 424, ⟨.type "tuple", none, .seq #[.str (.ofString "self") 712, .str (.ofString "a") 713, .str (.ofString "b") 714, .str (.ofString "reason") 715, .str (.ofString "merged") 716, .str (.ofString "kept") 717, .str (.ofString "gone") 718] 0, #[]⟩) ::
  (nat_lit 425, ⟨.type "tuple", none, .seq #[] 0, #[]⟩) ::
  (nat_lit 427, ⟨.type "code", none, .fields #[.str (.ofString "join") 709, .str (.ofString "Heap.join") 710, .str (.ofString "/claim/cut.py") 711, .int 259 0, .int 4 0, .int 0 0, .int 0 0, .int 3 0, .ref 422, .bool true, .int 181 0, .ref 423, .none, .ref 424, .ref 425, .ref 426, .int 719 0, .int 259 0, .str (.ofString "/claim/cut.py") 720], #[]⟩) ::
  (nat_lit 428, o_428) ::
  (nat_lit 429, ⟨.type "tuple", none, .seq #[] 0, #[]⟩) ::
  (nat_lit 431, ⟨.type "tuple", none, .seq #[.str (.ofString "self") 725] 0, #[]⟩) ::
  (nat_lit 432, ⟨.type "tuple", none, .seq #[] 0, #[]⟩) ::
  (nat_lit 434, ⟨.type "code", none, .fields #[.str (.ofString "settle") 722, .str (.ofString "Heap.settle") 723, .str (.ofString "/claim/cut.py") 724, .int 270 0, .int 1 0, .int 0 0, .int 0 0, .int 3 0, .ref 429, .bool true, .int 181 0, .ref 430, .none, .ref 431, .ref 432, .ref 433, .int 726 0, .int 270 0, .str (.ofString "/claim/cut.py") 727], #[]⟩) ::
  (nat_lit 435, o_435) ::
  (nat_lit 436, ⟨.type "tuple", none, .seq #[] 0, #[]⟩) ::
  (nat_lit 438, ⟨.type "tuple", none, .seq #[.str (.ofString "self") 732] 0, #[]⟩) ::
  (nat_lit 439, ⟨.type "tuple", none, .seq #[] 0, #[]⟩) ::
  (nat_lit 441, ⟨.type "code", none, .fields #[.str (.ofString "is_settled") 729, .str (.ofString "Heap.is_settled") 730, .str (.ofString "/claim/cut.py") 731, .int 274 0, .int 1 0, .int 0 0, .int 0 0, .int 3 0, .ref 436, .bool true, .int 181 0, .ref 437, .none, .ref 438, .ref 439, .ref 440, .int 733 0, .int 274 0, .str (.ofString "/claim/cut.py") 734], #[]⟩) ::
  (nat_lit 442, o_442) ::
  (nat_lit 443, ⟨.type "tuple", none, .seq #[] 0, #[]⟩) ::
  (nat_lit 445, ⟨.type "tuple", none, .seq #[.str (.ofString "self") 739] 0, #[]⟩) ::
  (nat_lit 446, ⟨.type "tuple", none, .seq #[] 0, #[]⟩) ::
  (nat_lit 448, ⟨.type "code", none, .fields #[.str (.ofString "classes") 736, .str (.ofString "Heap.classes") 737, .str (.ofString "/claim/cut.py") 738, .int 277 0, .int 1 0, .int 0 0, .int 0 0, .int 3 0, .ref 443, .bool true, .int 181 0, .ref 444, .none, .ref 445, .ref 446, .ref 447, .int 740 0, .int 277 0, .str (.ofString "/claim/cut.py") 741], #[]⟩) ::
  (nat_lit 449, o_449) ::
  (nat_lit 450, ⟨.type "tuple", none, .seq #[] 0, #[]⟩) ::
  (nat_lit 452, ⟨.type "tuple", none, .seq #[.str (.ofString "self") 746, .str (.ofString "c") 747] 0, #[]⟩) ::
  (nat_lit 453, ⟨.type "tuple", none, .seq #[] 0, #[]⟩) ::
  (nat_lit 455, ⟨.type "code", none, .fields #[.str (.ofString "members") 743, .str (.ofString "Heap.members") 744, .str (.ofString "/claim/cut.py") 745, .int 280 0, .int 2 0, .int 0 0, .int 0 0, .int 3 0, .ref 450, .bool true, .int 181 0, .ref 451, .none, .ref 452, .ref 453, .ref 454, .int 748 0, .int 280 0, .str (.ofString "/claim/cut.py") 749], #[]⟩) ::
  (nat_lit 456, o_456) ::
  (nat_lit 457, ⟨.type "tuple", none, .seq #[] 0, #[]⟩) ::
  (nat_lit 460, ⟨.type "code", none, .fields #[.str (.ofString "nodes_of") 751, .str (.ofString "Heap.nodes_of") 752, .str (.ofString "/claim/cut.py") 753, .int 283 0, .int 2 0, .int 0 0, .int 0 0, .int 3 0, .ref 457, .bool true, .int 181 0, .ref 458, .none, .none, .none, .ref 459, .int 754 0, .int 283 0, .str (.ofString "/claim/cut.py") 755], #[]⟩) ::
  (nat_lit 461, o_461) ::
  (nat_lit 462, ⟨.type "tuple", none, .seq #[] 0, #[]⟩) ::
  (nat_lit 464, ⟨.type "tuple", none, .seq #[.str (.ofString "self") 760] 0, #[]⟩) ::
  (nat_lit 465, ⟨.type "tuple", none, .seq #[] 0, #[]⟩) ::
  (nat_lit 467, ⟨.type "code", none, .fields #[.str (.ofString "many_nodes") 757, .str (.ofString "Heap.many_nodes") 758, .str (.ofString "/claim/cut.py") 759, .int 286 0, .int 1 0, .int 0 0, .int 0 0, .int 3 0, .ref 462, .bool true, .int 181 0, .ref 463, .none, .ref 464, .ref 465, .ref 466, .int 761 0, .int 286 0, .str (.ofString "/claim/cut.py") 762], #[]⟩) ::
  (nat_lit 468, o_468) ::
  (nat_lit 469, ⟨.type "tuple", none, .seq #[] 0, #[]⟩) ::
  (nat_lit 472, ⟨.type "code", none, .fields #[.str (.ofString "seek") 764, .str (.ofString "Heap.seek") 765, .str (.ofString "/claim/cut.py") 766, .int 289 0, .int 3 0, .int 0 0, .int 0 0, .int 3 0, .ref 469, .bool true, .int 181 0, .ref 470, .none, .none, .none, .ref 471, .int 767 0, .int 289 0, .str (.ofString "/claim/cut.py") 768], #[]⟩) ::
  (nat_lit 473, o_473) ::
  (nat_lit 474, ⟨.type "tuple", none, .seq #[] 0, #[]⟩) ::
  (nat_lit 476, ⟨.type "tuple", none, .seq #[.str (.ofString "self") 773, .str (.ofString "c") 774] 0, #[]⟩) ::
  (nat_lit 477, ⟨.type "tuple", none, .seq #[] 0, #[]⟩) ::
  (nat_lit 479, ⟨.type "code", none, .fields #[.str (.ofString "users") 770, .str (.ofString "Heap.users") 771, .str (.ofString "/claim/cut.py") 772, .int 293 0, .int 2 0, .int 0 0, .int 0 0, .int 3 0, .ref 474, .bool true, .int 181 0, .ref 475, .none, .ref 476, .ref 477, .ref 478, .int 775 0, .int 293 0, .str (.ofString "/claim/cut.py") 776], #[]⟩) ::
  (nat_lit 480, o_480) ::
  (nat_lit 481, ⟨.type "tuple", none, .seq #[.str (.ofString "above") 778, .str (.ofString "backs") 779, .str (.ofString "bank") 780, .str (.ofString "edges") 781, .str (.ofString "forest") 782, .str (.ofString "known") 783, .str (.ofString "unions") 784, .str (.ofString "waiting") 785] 0, #[]⟩) ::
  (nat_lit 482, ⟨.type "dict", none, .dict #[⟨PyData.keyHash P (.ofString "__module__"), .str (.ofString "__module__") 634, .str (.ofString "alikeheap.heap") 625⟩, ⟨PyData.keyHash P (.ofString "__firstlineno__"), .str (.ofString "__firstlineno__") 638, .int 213 637⟩, ⟨PyData.keyHash P (.ofString "__init__"), .str (.ofString "__init__") 645, .ref 369⟩, ⟨PyData.keyHash P (.ofString "size"), .str (.ofString "size") 652, .ref 376⟩, ⟨PyData.keyHash P (.ofString "node"), .str (.ofString "node") 658, .ref 381⟩, ⟨PyData.keyHash P (.ofString "add"), .str (.ofString "add") 664, .ref 386⟩, ⟨PyData.keyHash P (.ofString "put"), .str (.ofString "put") 672, .ref 393⟩, ⟨PyData.keyHash P (.ofString "look_at"), .str (.ofString "look_at") 681, .ref 400⟩, ⟨PyData.keyHash P (.ofString "find"), .str (.ofString "find") 689, .ref 407⟩, ⟨PyData.keyHash P (.ofString "are_like"), .str (.ofString "are_like") 698, .ref 414⟩, ⟨PyData.keyHash P (.ofString "merge"), .str (.ofString "merge") 708, .ref 421⟩, ⟨PyData.keyHash P (.ofString "join"), .str (.ofString "join") 721, .ref 428⟩, ⟨PyData.keyHash P (.ofString "settle"), .str (.ofString "settle") 728, .ref 435⟩, ⟨PyData.keyHash P (.ofString "is_settled"), .str (.ofString "is_settled") 735, .ref 442⟩, ⟨PyData.keyHash P (.ofString "classes"), .str (.ofString "classes") 742, .ref 449⟩, ⟨PyData.keyHash P (.ofString "members"), .str (.ofString "members") 750, .ref 456⟩, ⟨PyData.keyHash P (.ofString "nodes_of"), .str (.ofString "nodes_of") 756, .ref 461⟩, ⟨PyData.keyHash P (.ofString "many_nodes"), .str (.ofString "many_nodes") 763, .ref 468⟩, ⟨PyData.keyHash P (.ofString "seek"), .str (.ofString "seek") 769, .ref 473⟩, ⟨PyData.keyHash P (.ofString "users"), .str (.ofString "users") 777, .ref 480⟩, ⟨PyData.keyHash P (.ofString "__static_attributes__"), .str (.ofString "__static_attributes__") 786, .ref 481⟩, ⟨PyData.keyHash P (.ofString "__dict__"), .str (.ofString "__dict__") 788, .ref 484⟩, ⟨PyData.keyHash P (.ofString "__weakref__"), .str (.ofString "__weakref__") 790, .ref 485⟩, ⟨PyData.keyHash P (.ofString "__doc__"), .str (.ofString "__doc__") 791, .none⟩] 4, #[]⟩) ::
  (nat_lit 483, ⟨.type "type", none, .cls (.mk (.ofString "Heap") [.type "object"] [.ref 483, .type "object"] 482 (.ofString "Heap") true [] [] false none false), #[none, none, some (.str (.ofString "Heap") 627), some (.str (.ofString "Heap") 635), some (.builtin "object.__new__"), some (.bool true)]⟩) ::
  (nat_lit 484, ⟨.type "getset_descriptor", none, .fields #[.str (.ofString "__dict__") 787, .ref 483, .builtin "function.__dict__", .builtin "function.__dict__#set"], #[]⟩) ::
  (nat_lit 485, ⟨.type "getset_descriptor", none, .fields #[.str (.ofString "__weakref__") 789, .ref 483, .builtin "ExceptionGroup.__weakref__", .none], #[]⟩) ::
  (nat_lit 488, ⟨.type "tuple", none, .seq #[] 0, #[]⟩) ::
  (nat_lit 490, ⟨.type "tuple", none, .seq #[.str (.ofString "stick") 799, .str (.ofString "many") 800, .str (.ofString "spot") 801] 0, #[]⟩) ::
  (nat_lit 491, ⟨.type "tuple", none, .seq #[] 0, #[]⟩) ::
  (nat_lit 493, ⟨.type "code", none, .fields #[.str (.ofString "_law_notch") 796, .str (.ofString "_law_notch") 797, .str (.ofString "/claim/cut.py") 798, .int 296 0, .int 2 0, .int 0 0, .int 0 0, .int 3 0, .ref 488, .bool true, .int 181 0, .ref 489, .none, .ref 490, .ref 491, .ref 492, .int 802 0, .int 296 0, .str (.ofString "/claim/cut.py") 803], #[]⟩) ::
  (nat_lit 494, o_494) ::
  (nat_lit 495, ⟨.type "tuple", none, .seq #[] 0, #[]⟩) ::
  (nat_lit 498, ⟨.type "code", none, .fields #[.str (.ofString "_law_marks") 805, .str (.ofString "_law_marks") 806, .str (.ofString "/claim/cut.py") 807, .int 302 0, .int 2 0, .int 0 0, .int 0 0, .int 3 0, .ref 495, .bool true, .int 181 0, .ref 496, .none, .none, .none, .ref 497, .int 808 0, .int 302 0, .str (.ofString "/claim/cut.py") 809], #[]⟩) ::
  (nat_lit 499, o_499) ::
  (nat_lit 500, ⟨.type "tuple", none, .seq #[] 0, #[]⟩) ::
  (nat_lit 503, ⟨.type "code", none, .fields #[.str (.ofString "_law_more") 811, .str (.ofString "_law_more") 812, .str (.ofString "/claim/cut.py") 813, .int 313 0, .int 3 0, .int 0 0, .int 0 0, .int 3 0, .ref 500, .bool true, .int 181 0, .ref 501, .none, .none, .none, .ref 502, .int 814 0, .int 313 0, .str (.ofString "/claim/cut.py") 815], #[]⟩) ::
  (nat_lit 504, o_504) ::
  (nat_lit 505, ⟨.type "tuple", none, .seq #[] 0, #[]⟩) ::
  (nat_lit 507, ⟨.type "tuple", none, .seq #[.str (.ofString "stick") 820, .str (.ofString "heap") 821, .str (.ofString "rows") 822, .str (.ofString "pairs") 823, .str (.ofString "one") 824, .str (.ofString "other") 825] 0, #[]⟩) ::
  (nat_lit 508, ⟨.type "tuple", none, .seq #[] 0, #[]⟩) ::
  (nat_lit 510, ⟨.type "code", none, .fields #[.str (.ofString "_law_told") 817, .str (.ofString "_law_told") 818, .str (.ofString "/claim/cut.py") 819, .int 318 0, .int 4 0, .int 0 0, .int 0 0, .int 3 0, .ref 505, .bool true, .int 181 0, .ref 506, .none, .ref 507, .ref 508, .ref 509, .int 826 0, .int 318 0, .str (.ofString "/claim/cut.py") 827], #[]⟩) ::
  (nat_lit 511, o_511) ::
  (nat_lit 512, ⟨.type "tuple", none, .seq #[] 0, #[]⟩) ::
  (nat_lit 515, ⟨.type "code", none, .fields #[.str (.ofString "_law_turned") 829, .str (.ofString "_law_turned") 830, .str (.ofString "/claim/cut.py") 831, .int 323 0, .int 2 0, .int 0 0, .int 0 0, .int 3 0, .ref 512, .bool true, .int 181 0, .ref 513, .none, .none, .none, .ref 514, .int 832 0, .int 323 0, .str (.ofString "/claim/cut.py") 833], #[]⟩) ::
  (nat_lit 516, o_516) ::
  (nat_lit 517, ⟨.type "tuple", none, .seq #[] 0, #[]⟩) ::
  (nat_lit 520, ⟨.type "code", none, .fields #[.str (.ofString "_law_above") 835, .str (.ofString "_law_above") 836, .str (.ofString "/claim/cut.py") 837, .int 330 0, .int 4 0, .int 0 0, .int 0 0, .int 3 0, .ref 517, .bool true, .int 181 0, .ref 518, .none, .none, .none, .ref 519, .int 838 0, .int 330 0, .str (.ofString "/claim/cut.py") 839], #[]⟩) ::
  (nat_lit 521, o_521) ::
  (nat_lit 522, ⟨.type "tuple", none, .seq #[] 0, #[]⟩) ::
  (nat_lit 525, ⟨.type "code", none, .fields #[.str (.ofString "law") 841, .str (.ofString "law") 842, .str (.ofString "/claim/cut.py") 843, .int 336 0, .int 1 0, .int 0 0, .int 0 0, .int 3 0, .ref 522, .bool true, .int 181 0, .ref 523, .none, .none, .none, .ref 524, .int 844 0, .int 336 0, .str (.ofString "/claim/cut.py") 845], #[]⟩) ::
  (nat_lit 526, o_526) :: []
noncomputable def hd.view_39 : Program := view PySem.Challenge.pw_rh0013_01 [0, 2, 3, 5, 6, 7, 8, 10, 11, 13, 15, 17, 18, 19, 20, 21, 22, 23]
noncomputable def hdAs : List Addr := [2, 3, 15, 17, 18, 20, 21, 22, 25, 30, 31, 33, 34, 36, 37, 38, 40, 41, 43, 44, 45, 46, 47, 48, 51, 58, 59, 60, 63, 66, 67, 68, 70, 71, 73, 74, 75, 78, 79, 87, 89, 90, 92, 93, 94, 96, 97, 99, 100, 101, 104, 105, 106, 108, 109, 111, 112, 113, 115, 116, 118, 119, 120, 122, 123, 125, 126, 127, 129, 130, 132, 133, 134, 136, 137, 139, 140, 141, 143, 144, 146, 147, 148, 150, 151, 153, 154, 155, 158, 159, 160, 162, 163, 165, 166, 167, 169, 170, 172, 173, 174, 176, 177, 179, 180, 181, 182, 183, 184, 185, 195, 197, 198, 200, 201, 202, 205, 206, 207, 209, 210, 212, 213, 214, 217, 218, 219, 220, 221, 222, 223, 233, 235, 236, 238, 239, 240, 243, 244, 245, 248, 249, 250, 253, 254, 255, 258, 259, 260, 262, 263, 265, 266, 267, 268, 269, 270, 271, 281, 283, 284, 286, 287, 288, 290, 291, 293, 294, 295, 297, 298, 300, 301, 302, 304, 305, 307, 308, 309, 311, 312, 314, 315, 316, 318, 319, 321, 322, 323, 326, 327, 328, 330, 331, 333, 334, 335, 337, 338, 340, 341, 342, 344, 345, 347, 348, 349, 350, 351, 352, 353, 363, 365, 366, 368, 369, 370, 372, 373, 375, 376, 377, 380, 381, 382, 385, 386, 387, 389, 390, 392, 393, 394, 396, 397, 399, 400, 401, 403, 404, 406, 407, 408, 410, 411, 413, 414, 415, 417, 418, 420, 421, 422, 424, 425, 427, 428, 429, 431, 432, 434, 435, 436, 438, 439, 441, 442, 443, 445, 446, 448, 449, 450, 452, 453, 455, 456, 457, 460, 461, 462, 464, 465, 467, 468, 469, 472, 473, 474, 476, 477, 479, 480, 481, 482, 483, 484, 485, 488, 490, 491, 493, 494, 495, 498, 499, 500, 503, 504, 505, 507, 508, 510, 511, 512, 515, 516, 517, 520, 521, 522, 525, 526]
-- the head
theorem hdAs_eq (P : Params) : hdAs = (hd.heap_39 P).map (·.1) := by kernel_rfl
noncomputable abbrev hdHook : Hook := kHook hd.heap_39 hdAs hdAs_eq
theorem top_open : ∀ w : World, (fencedOpening treeTable PySem.Challenge.pw_rh0013_01 w 8000).map (fun s => (s.heap, s.gens, s.drawn, s.toks)) = some (boot_heap w.params, Array.mk [], boot_drawn, boot_toks) :=
  boot_open (by kernel_rfl) (by kernel_rfl) (fun s => by kernel_rfl)
theorem top_size : ∀ w : World, ((boot_heap w.params).isNs mainGlobals && (#[] : Array GenState).size == 0, (boot_heap w.params).objs.size, (boot_heap w.params).nsMap mainGlobals "__annotations__") = (true, 11, some (.ref 6)) := fun w => by kernel_rfl
theorem both_map {σ α β γ : Type} {o : Option σ} {f : σ → α} {g : σ → β} {h : σ → γ} {a : α} {b : β} {c : γ} (h1 : o.map (fun s => (f s, g s)) = some (a, b)) (h2 : o.map h = some c) :
    o.map (fun s => (f s, g s, h s)) = some (a, b, c) := by
  cases o with
  | none => cases h2
  | some s =>
    obtain ⟨rfl, rfl⟩ := Prod.mk.inj (Option.some.inj h1)
    exact congrArg (fun x => some (f s, g s, x)) (Option.some.inj h2)
theorem top_seen : ∀ w : World, (fun os => (runT through (stepOk 11 (some (.ref 6))) (stepT (denote treeTable) PySem.Challenge.pw_rh0013_01 w) 4000 ⟨bootTree w.params, 11, {}, #[], boot_drawn, boot_toks, os⟩ (topStub PySem.Challenge.pw_rh0013_01)).map fun s =>
        ((staticsOk (importedModules PySem.Challenge.pw_rh0013_01.main.body) (boot_heap w.params) s.abs.heap && namesBound PySem.Challenge.pw_rh0013_01 s.abs.heap && gensDone s.abs && laidKept (boot_heap w.params) s.abs.heap),
          openSeen hd.view_39 [] (importedModules PySem.Challenge.pw_rh0013_01.main.body) (fun s => xlAt hd.view_39 [] s && recOk [] s) true s.abs)) = fun _ => some (true, openGood hd.view_39 []) := by
  intro w
  rw [PySem.W.Fast.te5923862056798008813, PySem.W.Fast.te4187177175401517315, PySem.W.Fast.te6613529449190102663, PySem.W.Fast.te10156331382660048174, PySem.W.Fast.te11892475500146522536, PySem.W.Fast.te14364793385576792824]
  kernel_rfl
theorem top_obs : ∀ w : World, (fun os => (runT through (stepOk 11 (some (.ref 6))) (stepT (denote treeTable) PySem.Challenge.pw_rh0013_01 w) 4000 ⟨bootTree w.params, 11, {}, #[], boot_drawn, boot_toks, os⟩ (topStub PySem.Challenge.pw_rh0013_01)).map fun s => hdHook.obs s.abs) = fun _ => some (hdHook.val w) := by
  intro w
  rw [PySem.W.Fast.te6613529449190102663, PySem.W.Fast.te10156331382660048174, PySem.W.Fast.te11892475500146522536, PySem.W.Fast.te14364793385576792824]
  kernel_rfl
theorem top_run : ∀ w : World, (fun os => (runT through (stepOk 11 (some (.ref 6))) (stepT (denote treeTable) PySem.Challenge.pw_rh0013_01 w) 4000 ⟨bootTree w.params, 11, {}, #[], boot_drawn, boot_toks, os⟩ (topStub PySem.Challenge.pw_rh0013_01)).map fun s =>
        ((staticsOk (importedModules PySem.Challenge.pw_rh0013_01.main.body) (boot_heap w.params) s.abs.heap && namesBound PySem.Challenge.pw_rh0013_01 s.abs.heap && gensDone s.abs && laidKept (boot_heap w.params) s.abs.heap),
          openSeen hd.view_39 [] (importedModules PySem.Challenge.pw_rh0013_01.main.body) (fun s => xlAt hd.view_39 [] s && recOk [] s) true s.abs, hdHook.obs s.abs)) = fun _ => some (true, openGood hd.view_39 [], hdHook.val w) :=
  fun w => funext fun os => both_map (congrFun (top_seen w) os) (congrFun (top_obs w) os)
theorem top_left : LeftO PySem.Challenge.pw_rh0013_01 hd.view_39 [] (fun s => xlAt hd.view_39 [] s && recOk [] s) hdHook.obs hdHook.val 8000 := left_of_run top_open top_size (by kernel_rfl) top_run
-- the law is well said, look by look
theorem ls_res : namesResolve PySem.Challenge.pw_rh0013_01 = true := by
  rw [PySem.W.Fast.te8377067652309620493]; kernel_rfl
theorem ls_meet : namesMeet PySem.Challenge.pw_rh0013_01 PySem.Challenge.pw_rh0013_01.main.body (fun _ n => attrL n) = true := by
  rw [PySem.W.Fast.te17119622794617984870, PySem.W.Fast.te17868728402115742887]; kernel_rfl
theorem ls_vars : readsOut PySem.Challenge.pw_rh0013_01 PySem.Challenge.pw_rh0013_01.main.body "vars" = false := by
  rw [PySem.W.Fast.te13343964577679436407]; kernel_rfl
theorem ls_dir : readsOut PySem.Challenge.pw_rh0013_01 PySem.Challenge.pw_rh0013_01.main.body "dir" = false := by
  rw [PySem.W.Fast.te13343964577679436407]; kernel_rfl
theorem ls_locals : readsOut PySem.Challenge.pw_rh0013_01 PySem.Challenge.pw_rh0013_01.main.body "locals" = false := by
  rw [PySem.W.Fast.te13343964577679436407]; kernel_rfl
theorem filt3 {α : Type} (f : α → Bool) (a b c : α) (ha : f a = false) (hb : f b = false) (hc : f c = false) : [a, b, c].filter f = [] := by
  simp only [List.filter, ha, hb, hc]
theorem ls_out : (["vars", "dir", "locals"] : List Str).filter (readsOut PySem.Challenge.pw_rh0013_01 PySem.Challenge.pw_rh0013_01.main.body) = [] := by
  exact filt3 _ _ _ _ ls_vars ls_dir ls_locals
theorem ls_road : noRoadLSs { strict := !(importedModules PySem.Challenge.pw_rh0013_01.main.body).all cThrough.contains, foot := none, bare := [] } PySem.Challenge.pw_rh0013_01.main.body = true := by
  rw [PySem.W.Fast.te8326940854005059898]; kernel_rfl
theorem ls_open : looksOpen PySem.Challenge.pw_rh0013_01 = true := by
  unfold looksOpen
  rw [ls_res, ls_out, ls_road, ls_meet]
  kernel_rfl
set_option maxHeartbeats 8000000 in
theorem ls_part : PySem.Challenge.rw_rh0013_01.row.partSaid = true := by
  unfold OpenRow.partSaid
  rw [show looksOpen PySem.Challenge.rw_rh0013_01.row.prog = true from ls_open]
  kernel_rfl
theorem ls_row : PySem.Challenge.rw_rh0013_01.row.wellSaid = true := by
  unfold OpenRow.wellSaid
  rw [ls_part]
  kernel_rfl
theorem ls_foot : noRoadLSs { strict := true, foot := some PySem.Challenge.rw_rh0013_01.bound', writes := PySem.Challenge.rw_rh0013_01.writes, may := PySem.Challenge.rw_rh0013_01.may } PySem.Challenge.rw_rh0013_01.footing = true := by
  rw [PySem.W.Fast.te8326940854005059898]; kernel_rfl
theorem ls_own : namesMeet PySem.Challenge.rw_rh0013_01.prog PySem.Challenge.rw_rh0013_01.footing (fun sc n => (!(["type", "isinstance", "issubclass", "getattr", "hasattr"] : List Str).contains n || sc.names.lookup n == some .globalImplicit) &&
    (PySem.Challenge.rw_rh0013_01.may != some n || sc.kind == .module || sc.names.lookup n == some .globalImplicit)) = true := by
  rw [PySem.W.Fast.te17119622794617984870]; kernel_rfl
theorem ls_above : namesMeet PySem.Challenge.rw_rh0013_01.prog PySem.Challenge.rw_rh0013_01.above (fun _ n => !PySem.Challenge.rw_rh0013_01.own.contains n) = true := by
  rw [PySem.W.Fast.te17119622794617984870]; kernel_rfl
theorem ls_glob : namesMeet PySem.Challenge.rw_rh0013_01.prog PySem.Challenge.rw_rh0013_01.footing (fun sc n => sc.kind == .module || sc.names.lookup n != some .globalExplicit) = true := by
  rw [PySem.W.Fast.te17119622794617984870]; kernel_rfl
theorem ls_stands : defStands PySem.Challenge.rw_rh0013_01.about PySem.Challenge.rw_rh0013_01.above = true := by kernel_rfl
theorem ls_names : PySem.Challenge.rw_rh0013_01.namesIt = true := by kernel_rfl
set_option maxHeartbeats 8000000 in
theorem law_said : OpenLaw.wellSaid PySem.Challenge.rw_rh0013_01 = true := by
  unfold OpenLaw.wellSaid
  rw [ls_row, ls_foot, ls_own, ls_above, ls_glob, ls_stands, ls_names]
  kernel_rfl
theorem fill1 : PySem.Challenge.rw_rh0013_01.Holds ∨ hd.heap_39 = hd.heap_39 := by
  k_fill
  exact .inr rfl
section
/-- what is known of a value -/
inductive LV where
  | unset
  | int (n : Int)
  | str (x : Str)
  | bool (b : Bool)
  | none
  | ref (a : Addr)
  deriving DecidableEq
noncomputable def LV.is : LV → Value → Prop
  | .unset, _ => True
  | .int n, v => ∃ t, v = .int n t
  | .str x, v => ∃ t, v = .str x t
  | .bool b, v => v = .bool b
  | .none, v => v = .none
  | .ref a, v => v = .ref a
noncomputable def LV.ok : LV → Option Value → Prop
  | .unset, _ => True
  | l, v => ∃ u, v = some u ∧ l.is u
theorem lv_int {n : Int} {t : Tok} : LV.is (.int n) (.int n t) := ⟨t, rfl⟩
theorem lv_str {x : Str} {t : Tok} : LV.is (.str x) (.str x t) := ⟨t, rfl⟩
theorem lv_ref {a : Addr} : LV.is (.ref a) (.ref a) := rfl
theorem lv_bool {b : Bool} : LV.is (.bool b) (.bool b) := rfl
theorem lv_none : LV.is .none .none := rfl
theorem LV.ok_some {l : LV} {u : Value} (h : l.is u) : l.ok (some u) := by
  cases l <;> first | trivial | exact ⟨u, rfl, h⟩
theorem LV.of_ok {l : LV} {v : Option Value} (h : l.ok v) (hu : l ≠ .unset) : ∃ u, v = some u ∧ l.is u := by
  cases l <;> first | exact absurd rfl hu | exact h

inductive All2 {α β : Type} (R : α → β → Prop) : List α → List β → Prop
  | nil : All2 R [] []
  | cons {a b as bs} : R a b → All2 R as bs → All2 R (a :: as) (b :: bs)
namespace All2
variable {α β : Type} {R : α → β → Prop}
theorem length {l : List α} {m : List β} (h : All2 R l m) : l.length = m.length := by
  induction h with
  | nil => rfl
  | cons _ _ ih => simp [ih]
theorem size {l : List α} {m : Array β} (h : All2 R l m.toList) : l.length = m.size := by rw [h.length, Array.length_toList]
theorem append {l : List α} {m : List β} (h : All2 R l m) {l' : List α} {m' : List β} (h' : All2 R l' m') : All2 R (l ++ l') (m ++ m') := by
  induction h with
  | nil => exact h'
  | cons a _ ih => exact .cons a ih
theorem snoc {l : List α} {m : List β} (h : All2 R l m) {a : α} {b : β} (hab : R a b) : All2 R (l ++ [a]) (m ++ [b]) := h.append (.cons hab .nil)
theorem get {l : List α} {m : List β} (h : All2 R l m) : ∀ {i : Nat} {a : α}, l[i]? = some a → ∃ b, m[i]? = some b ∧ R a b := by
  induction h with
  | nil => intro i a e; simp at e
  | cons hab _ ih =>
    intro i a e
    cases i with
    | zero => simp at e; subst e; exact ⟨_, rfl, hab⟩
    | succ i => simp at e; obtain ⟨b, hb, r⟩ := ih e; exact ⟨b, by simpa using hb, r⟩
theorem get' {l : List α} {m : List β} (h : All2 R l m) : ∀ {i : Nat} {b : β}, m[i]? = some b → ∃ a, l[i]? = some a ∧ R a b := by
  induction h with
  | nil => intro i a e; simp at e
  | cons hab _ ih =>
    intro i a e
    cases i with
    | zero => simp at e; subst e; exact ⟨_, rfl, hab⟩
    | succ i => simp at e; obtain ⟨b, hb, r⟩ := ih e; exact ⟨b, by simpa using hb, r⟩
theorem mem_right {l : List α} {m : List β} (h : All2 R l m) {b : β} (hb : b ∈ m) : ∃ a ∈ l, R a b := by
  induction h with
  | nil => cases hb
  | cons h0 _ ih =>
    rcases List.mem_cons.mp hb with rfl | hb
    · exact ⟨_, .head _, h0⟩
    · obtain ⟨a, ha, r⟩ := ih hb; exact ⟨a, .tail _ ha, r⟩
theorem mem_left {l : List α} {m : List β} (h : All2 R l m) {a : α} (ha : a ∈ l) : ∃ b ∈ m, R a b := by
  induction h with
  | nil => cases ha
  | cons h0 _ ih =>
    rcases List.mem_cons.mp ha with rfl | ha
    · exact ⟨_, .head _, h0⟩
    · obtain ⟨a, ha, r⟩ := ih ha; exact ⟨a, .tail _ ha, r⟩
theorem set {l : List α} {m : List β} (h : All2 R l m) {a : α} {b : β} (hab : R a b) : ∀ i, All2 R (l.set i a) (m.set i b) := by
  induction h with
  | nil => intro i; exact .nil
  | cons h0 h1 ih => intro i; cases i with
    | zero => exact .cons hab h1
    | succ i => exact .cons h0 (ih i)
theorem drop {l : List α} {m : List β} (h : All2 R l m) : ∀ i, All2 R (l.drop i) (m.drop i) := by
  induction h with
  | nil => intro i; simp; exact .nil
  | cons h0 h1 ih => intro i; cases i with
    | zero => exact .cons h0 h1
    | succ i => simpa using ih i
theorem take {l : List α} {m : List β} (h : All2 R l m) : ∀ i, All2 R (l.take i) (m.take i) := by
  induction h with
  | nil => intro i; simp; exact .nil
  | cons h0 h1 ih => intro i; cases i with
    | zero => exact .nil
    | succ i => simpa using .cons h0 (ih i)
theorem mono {S : α → β → Prop} {l : List α} {m : List β} (h : All2 R l m) (hm : ∀ a b, R a b → S a b) : All2 S l m := by
  induction h with
  | nil => exact .nil
  | cons h0 _ ih => exact .cons (hm _ _ h0) ih
theorem map_left {γ : Type} {f : γ → α} {l : List γ} {m : List β} : All2 R (l.map f) m ↔ All2 (fun c b => R (f c) b) l m := by
  constructor
  · intro h
    induction l generalizing m with
    | nil => cases h; exact .nil
    | cons c l ih => cases h with | cons a b => exact .cons a (ih b)
  · intro h
    induction h with
    | nil => exact .nil
    | cons a _ ih => exact .cons a ih
theorem perm {l : List α} {m m' : List β} (h : All2 R l m) (p : m'.Perm m) : ∃ l', l'.Perm l ∧ All2 R l' m' := by
  induction p generalizing l with
  | nil => cases h; exact ⟨[], .nil, .nil⟩
  | cons x _ ih => cases h with | cons a b => obtain ⟨l', h1, h2⟩ := ih b; exact ⟨_ :: l', h1.cons _, .cons a h2⟩
  | swap x y l => cases h with | cons a b => cases b with | cons a' b' => exact ⟨_, .swap .., .cons a' (.cons a b')⟩
  | trans _ _ ih1 ih2 => obtain ⟨l2, h1, h2⟩ := ih2 h; obtain ⟨l3, h3, h4⟩ := ih1 h2; exact ⟨l3, h3.trans h1, h4⟩
end All2

theorem ints_of {ns : List Int} {vs : List Value} (h : All2 LV.is (ns.map .int) vs) : IntsAre vs ns := by
  induction ns generalizing vs with
  | nil => cases h; exact .nil
  | cons n ns ih => cases h with | cons a b => obtain ⟨t, rfl⟩ := a; exact .cons _ _ (ih b)
theorem of_ints {ns : List Int} {vs : List Value} (h : IntsAre vs ns) : All2 LV.is (ns.map .int) vs := by
  induction h with
  | nil => exact .nil
  | cons _ _ _ ih => exact .cons ⟨_, rfl⟩ ih

abbrev prg : Program := PySem.Challenge.rw_rh0013_01.row.prog
noncomputable abbrev KK (w : World) : Frag := hd.heap_39 w.params

/-- a part of a tuple that may stand as a key -/
inductive Atom where
  | s (x : Str)
  | i (n : Int)
  deriving DecidableEq
noncomputable def Atom.lv : Atom → LV
  | .s x => .str x
  | .i n => .int n
noncomputable def Atom.is : Atom → Value → Bool
  | .s x, v => Value.isStrOf x v
  | .i n, v => Value.isInt n v
theorem Atom.is_lv {a : Atom} {v : Value} : a.is v = true ↔ a.lv.is v := by
  cases a with
  | s x => exact ⟨fun h => Value.isStrOf_shape h, fun ⟨t, h⟩ => by subst h; simp [Atom.is, Value.isStrOf]⟩
  | i n => exact ⟨fun h => Value.isInt_shape h, fun ⟨t, h⟩ => by subst h; simp [Atom.is, Value.isInt]⟩
noncomputable def atomHash (w : World) : Atom → Int
  | .s x => hashStr w x
  | .i n => hashInt n

theorem eqBool_str_int {prog : Program} {w : World} {A : Around} {E : Value → Shared → Prop} {s : Shared} {x : Str} {t : Tok} {n : Int} {t' : Tok} {Q : Bool → Shared → Prop} (h : Q false s) : wpAny (model prog w) A (eqBool (.str x t) (.int n t')) Q E s := by
  unfold eqBool
  refine wpAny_holding ?_
  rw [if_neg (show ¬ (Value.str x t == Value.int n t') = true from Bool.false_ne_true)]
  exact wpAny_bind (EqMixed.eq_str_int (s := s) (wpAny_truthy_bool h))
theorem eqBool_int_str {prog : Program} {w : World} {A : Around} {E : Value → Shared → Prop} {s : Shared} {x : Str} {t : Tok} {n : Int} {t' : Tok} {Q : Bool → Shared → Prop} (h : Q false s) : wpAny (model prog w) A (eqBool (.int n t') (.str x t)) Q E s := by
  unfold eqBool
  refine wpAny_holding ?_
  rw [if_neg (show ¬ (Value.int n t' == Value.str x t) = true from Bool.false_ne_true)]
  exact wpAny_bind (EqMixed.eq_int_str (s := s) (wpAny_truthy_bool h))

noncomputable def atomKind (prog : Program) (w : World) : KeyKind prog w Atom where
  is := Atom.is
  hash := atomHash w
  inj := fun v a b ha hb => by
    rw [Atom.is_lv] at ha hb
    cases a <;> cases b <;> obtain ⟨t, rfl⟩ := ha <;> obtain ⟨u, hu⟩ := hb <;> first | (injection hu with h1; subst h1; rfl) | cases hu
  byValue := fun k v h => by
    rw [Atom.is_lv] at h
    cases k <;> obtain ⟨t, rfl⟩ := h <;> rfl
  pyHash := fun {A E s k v Q} hv h => by
    cases k with
    | s x => exact (strKind prog w).pyHash (k := x) hv h
    | i n => exact (intKind prog w).pyHash (k := n) hv h
  eqBool := fun {A E s a b u v Q} hu hv h => by
    cases a with
    | s x => cases b with
      | s y => exact (strKind prog w).eqBool (a := x) (b := y) hu hv (by simpa using h)
      | i n =>
        obtain ⟨t, rfl⟩ := Value.isStrOf_shape hu
        obtain ⟨t', rfl⟩ := Value.isInt_shape hv
        exact eqBool_str_int (by simpa using h)
    | i m => cases b with
      | s y =>
        obtain ⟨t, rfl⟩ := Value.isInt_shape hu
        obtain ⟨t', rfl⟩ := Value.isStrOf_shape hv
        exact eqBool_int_str (by simpa using h)
      | i n => exact (intKind prog w).eqBool (a := m) (b := n) hu hv (by simpa using h)
  «strs» := fun k x t v h => by
    cases k with
    | s y => exact (strKind prog w).strs y x t v h
    | i n => simp [Atom.is, Value.isInt] at h

abbrev tupK (w : World) : HeapKind prg w (List Atom) := tupleKind (atomKind prg w)

noncomputable def IsTup (h : Heap) (a : Addr) (t : List LV) : Prop := ∃ o items n, h.get? a = some o ∧ o.cls = .type "tuple" ∧ o.data = .seq items n ∧ All2 LV.is t items.toList
theorem IsTup.key {w : World} {h : Heap} {a : Addr} {t : List Atom} (x : IsTup h a (t.map Atom.lv)) : (tupK w).is h t a := by
  obtain ⟨o, items, n, h1, h2, h3, h4⟩ := x
  refine ⟨o, items, n, h1, h2, h3, ?_⟩
  generalize items.toList = l at h4
  induction t generalizing l with
  | nil => cases h4; exact .nil
  | cons k ks ih => cases h4 with | cons a b => exact .cons (Atom.is_lv.mpr a) (ih _ b)
theorem IsTup.keeps {h h' : Heap} {a : Addr} {t : List LV} (x : IsTup h a t) (k : ∀ b o, h.get? b = some o → h'.get? b = some o) : IsTup h' a t := by
  obtain ⟨o, items, n, h1, r⟩ := x
  exact ⟨o, items, n, k _ _ h1, r⟩

/-- what is known of an object that the call has made -/
inductive G where
  | list (ls : List LV)
  | dictT (xs : List (List Atom × Addr × LV))
  | dictI (kvs : List (Int × LV))
  | dictS (kvs : List (Str × LV))
  | cell (l : LV)
  | liter (l : Addr) (i : Nat)
  | titer (l : Addr) (i : Nat)
  | riter (x : Int) (left : Nat)
  | rng (a b : Int)
  | setI (ns : List Int)
  | any
  | fld (ty : String) (vs : Array Value)
  | obj (o : Obj)
/-- a set's table on which a walk meets each element once -/
noncomputable def GoodT (w : World) (t : SetTable) : Prop := t.place.toList.Pairwise (· < ·) ∧ t.dummies = #[] ∧ (t.led = true ∨ w.params.followText "set-order" = true)
noncomputable def G.is (w : World) : G → Obj → Prop
  | .list ls, o => ∃ vs n, o = { cls := .type "list", data := .seq vs n } ∧ All2 LV.is ls vs.toList
  | .dictT xs, o => o.ExactDict ∧ ∃ (ys : List (List Atom × Addr × Value)) (es : Array DictEntry) (ep : Nat), o.data = .dict es ep ∧ es.toList = ys.map (entryOfKey (tupK w)) ∧ (xs.map (·.1)).Nodup ∧ All2 (fun x y => x.1 = y.1 ∧ x.2.1 = y.2.1 ∧ x.2.2.is y.2.2) xs ys
  | .dictI kvs, o => ∃ ys : List (Int × Value), (∀ (h : Heap) (a : Addr), h.get? a = some o → h.DictOf (intKind prg w) a ys) ∧ All2 (fun x y => x.1 = y.1 ∧ x.2.is y.2) kvs ys ∧ o.ExactDict
  | .dictS kvs, o => ∃ ys : List (Str × Value), (∀ (h : Heap) (a : Addr), h.get? a = some o → h.DictOf (strKind prg w) a ys) ∧ All2 (fun x y => x.1 = y.1 ∧ x.2.is y.2) kvs ys ∧ o.ExactDict
  | .cell l, o => ∃ v, o.data = .cell v ∧ l.ok v
  | .liter l i, o => o.cls = .type "list_iterator" ∧ o.data = .fields #[.ref l, .int i 0]
  | .titer l i, o => o.cls = .type "tuple_iterator" ∧ o.data = .fields #[.ref l, .int i 0]
  | .riter x left, o => o = { cls := .type "range_iterator", dict := none, data := .fields #[rawInt x, rawInt left, rawInt 1], slots := #[] }
  | .rng a b, o => ∃ t u v, o = { cls := .type "range", dict := none, data := .fields #[.int a t, .int b u, .int 1 v], slots := #[] }
  | .setI ns, o => o.ExactSet ∧ ∃ (es : Array (Int × Value)) (ep : Nat) (t : SetTable) (ms : List Int), o.data = .set es ep t ∧ ElemsOf (intKind prg w) es.toList ∧ ms.Perm ns ∧ All2 (fun n e => (intKind prg w).is n e.2 = true) ms es.toList ∧ es.size < scanBound ∧ t.fits es.size = true ∧ GoodT w t
  | .any, o => ∀ items n, o.data ≠ .seq items n
  | .fld ty vs, o => o.cls = .type ty ∧ o.data = .fields vs
  | .obj o', o => o = o' ∧ ∀ items n, o.data ≠ .seq items n
theorem G.notTup {w : World} {g : G} {o : Obj} (h : g.is w o) (hc : o.cls = .type "tuple") {items : Array Value} {n : Nat} (hd : o.data = .seq items n) : False := by
  cases g with
  | list => obtain ⟨_, _, rfl, _⟩ := h; simp at hc
  | dictT => obtain ⟨h, _⟩ := h; rw [h.1] at hc; simp at hc
  | dictI => obtain ⟨_, _, _, h⟩ := h; rw [h.1] at hc; simp at hc
  | dictS => obtain ⟨_, _, _, h⟩ := h; rw [h.1] at hc; simp at hc
  | cell => obtain ⟨_, h, _⟩ := h; rw [h] at hd; cases hd
  | liter => rw [h.1] at hc; simp at hc
  | titer => rw [h.1] at hc; simp at hc
  | riter => have h' : o = _ := h; rw [h'] at hc; simp at hc
  | rng => obtain ⟨_, _, _, h⟩ := h; rw [h] at hc; simp at hc
  | setI => obtain ⟨h, _⟩ := h; rw [h.1] at hc; simp at hc
  | any => exact h _ _ hd
  | fld => rw [h.2] at hd; cases hd
  | obj => exact h.2 _ _ hd

inductive Put {α β : Type} : List (α × β) → α → β → β → List (α × β) → Prop
  | head {a b b' r} : Put ((a, b) :: r) a b b' ((a, b') :: r)
  | tail {p a b b' r r'} : Put r a b b' r' → Put (p :: r) a b b' (p :: r')
namespace Put
variable {α β : Type} {l l' : List (α × β)} {a : α} {b b' : β}
theorem mem (h : Put l a b b' l') : (a, b) ∈ l := by
  induction h with
  | head => exact .head _
  | tail _ ih => exact .tail _ ih
theorem keys (h : Put l a b b' l') : l'.map (·.1) = l.map (·.1) := by
  induction h with
  | head => rfl
  | tail _ ih => simp [ih]
theorem cases (h : Put l a b b' l') : ∀ p ∈ l', p = (a, b') ∨ (p ∈ l) := by
  induction h with
  | head => intro p hp; rcases List.mem_cons.mp hp with rfl | hp; exact .inl rfl; exact .inr (.tail _ hp)
  | tail _ ih => intro p hp; rcases List.mem_cons.mp hp with rfl | hp; exact .inr (.head _); rcases ih p hp with h | h; exact .inl h; exact .inr (.tail _ h)
theorem other (h : Put l a b b' l') (hn : (l.map (·.1)).Nodup) : ∀ p ∈ l', p = (a, b') ∨ (p ∈ l ∧ p.1 ≠ a) := by
  induction h with
  | head =>
    intro p hp
    rw [List.map_cons, List.nodup_cons] at hn
    rcases List.mem_cons.mp hp with rfl | hp
    · exact .inl rfl
    · exact .inr ⟨.tail _ hp, fun e => hn.1 (by rw [← e]; exact List.mem_map.mpr ⟨p, hp, rfl⟩)⟩
  | tail h ih =>
    intro p hp
    rw [List.map_cons, List.nodup_cons] at hn
    rcases List.mem_cons.mp hp with rfl | hp
    · exact .inr ⟨.head _, fun e => hn.1 (by rw [e]; exact List.mem_map.mpr ⟨_, h.mem, rfl⟩)⟩
    · rcases ih hn.2 p hp with h | ⟨h, h'⟩
      · exact .inl h
      · exact .inr ⟨.tail _ h, h'⟩
theorem left (h : Put l a b b' l') (m : List (α × β)) : Put (l ++ m) a b b' (l' ++ m) := by
  induction h with
  | head => exact .head
  | tail _ ih => exact .tail ih
theorem right (h : Put l a b b' l') : ∀ m : List (α × β), Put (m ++ l) a b b' (m ++ l')
  | [] => h
  | _ :: m => .tail (right h m)
end Put

/-- what lasts through the law: objects that turn, tuples that do not -/
structure Pers where
  objs : List (Addr × G)
  tups : List (Addr × List LV)

/-- a place that came after the start -/
noncomputable def Nw (Z : Heap) (a : Addr) : Prop := Z.get? a = none ∧ sysModules < a
noncomputable def Fs (h : Heap) (a : Addr) : Prop := h.get? a = none ∧ h.objs.size ≤ a
structure Cfg (w : World) (Z : Heap) (b₀ : Shared) (P : Pers) (L : Addr) (loc : List (Str × LV)) (tmp : List (Addr × G)) (tt : List (Addr × List LV)) (s : Shared) : Prop where
  keep : ∀ b o, Z.get? b = some o → s.heap.get? b = some o
  os : s.os = b₀.os
  gens : s.gens = b₀.gens
  ns : ∃ m, s.heap.Ns L m ∧ ∀ p ∈ loc, p.2.ok (m p.1)
  nl : (loc.map (·.1)).Nodup
  newL : Nw Z L
  led : ∀ p ∈ tmp ++ P.objs, (∃ o, s.heap.get? p.1 = some o ∧ p.2.is w o) ∧ Nw Z p.1
  nd : (L :: (tmp ++ P.objs).map (·.1)).Nodup
  tup : ∀ p ∈ tt ++ P.tups, IsTup s.heap p.1 p.2

section
variable {w : World} {Z : Heap} {b₀ : Shared} {P P' : Pers} {L a : Addr} {loc loc' : List (Str × LV)} {tmp tmp' : List (Addr × G)} {tt tt' : List (Addr × List LV)} {s s' : Shared} {h' : Heap} {tk : Nat} {g g' : G}
namespace Cfg
theorem lt (c : Cfg w Z b₀ P L loc tmp tt s) : L < s.heap.objs.size := let ⟨_, h, _⟩ := c.ns; h.lt

/-- the heap has grown (or a place that nobody knows has turned) -/
theorem ext (c : Cfg w Z b₀ P L loc tmp tt s) (k : ∀ b o, s.heap.get? b = some o → h'.get? b = some o) : Cfg w Z b₀ P L loc tmp tt { s with heap := h', toks := tk } where
  keep b o e := k _ _ (c.keep b o e)
  os := c.os
  gens := c.gens
  ns := let ⟨m, h1, h2⟩ := c.ns; ⟨m, h1.keeps k, h2⟩
  nl := c.nl
  newL := c.newL
  led p hp := let ⟨⟨o, h1, h2⟩, h3⟩ := c.led p hp; ⟨⟨o, k _ _ h1, h2⟩, h3⟩
  nd := c.nd
  tup p hp := (c.tup p hp).keeps k
theorem tok (c : Cfg w Z b₀ P L loc tmp tt s) : Cfg w Z b₀ P L loc tmp tt { s with toks := tk } := c.ext fun _ _ e => e
theorem tok' (c : Cfg w Z b₀ P L loc tmp tt s) (t : Nat) : Cfg w Z b₀ P L loc tmp tt { s with toks := t } := c.tok

theorem none_of_fresh (c : Cfg w Z b₀ P L loc tmp tt s) (hf : s.heap.get? a = none) : Z.get? a = none := by
  cases q : Z.get? a with
  | none => rfl
  | some o => rw [c.keep _ _ q] at hf; cases hf

theorem fresh (c : Cfg w Z b₀ P L loc tmp tt s) (hf : Fs s.heap a) : Nw Z a := ⟨c.none_of_fresh hf.1, Nat.lt_of_lt_of_le (Nat.lt_trans c.newL.2 c.lt) hf.2⟩
/-- a new object -/
theorem new (c : Cfg w Z b₀ P L loc tmp tt s) (k : ∀ b o, s.heap.get? b = some o → h'.get? b = some o) (hfs : Fs s.heap a) (hg : ∃ o, h'.get? a = some o ∧ g.is w o) :
    Cfg w Z b₀ P L loc ((a, g) :: tmp) tt { s with heap := h', toks := tk } := by
  have hf := hfs.1
  have c' := c.ext (tk := tk) k
  refine { c' with led := fun p hp => ?_, nd := ?_ }
  · rcases List.mem_cons.mp hp with rfl | hp
    · exact ⟨hg, c.fresh hfs⟩
    · exact c'.led p hp
  · have hn := c.nd
    rw [List.nodup_cons] at hn
    have hL : L ≠ a := by rintro rfl; obtain ⟨m, ⟨o, _, _, h1, _⟩, _⟩ := c.ns; rw [hf] at h1; cases h1
    have hm : a ∉ (tmp ++ P.objs).map (·.1) := fun hm => by
      obtain ⟨p, hp, e⟩ := List.mem_map.mp hm
      obtain ⟨⟨o, h1, _⟩, _⟩ := c.led p hp
      rw [e, hf] at h1; cases h1
    show (L :: a :: (tmp ++ P.objs).map (·.1)).Nodup
    rw [List.nodup_cons, List.nodup_cons]
    refine ⟨fun h => ?_, hm, hn.2⟩
    rcases List.mem_cons.mp h with h | h
    · exact hL h
    · exact hn.1 h
theorem newTup (c : Cfg w Z b₀ P L loc tmp tt s) {t : List LV} (k : ∀ b o, s.heap.get? b = some o → h'.get? b = some o) (hg : IsTup h' a t) :
    Cfg w Z b₀ P L loc tmp ((a, t) :: tt) { s with heap := h', toks := tk } := by
  have c' := c.ext (tk := tk) k
  refine { c' with tup := fun p hp => ?_ }
  rcases List.mem_cons.mp hp with rfl | hp
  · exact hg
  · exact c'.tup p hp

/-- one object of the ledger turns -/
theorem chg' {l' : List (Addr × G)} (c : Cfg w Z b₀ P L loc tmp tt s) (U : Put (tmp ++ P.objs) a g g' l') (hs : Heap.ExtBut a s.heap h') (hg : ∃ o, h'.get? a = some o ∧ g'.is w o)
    (el : l' = tmp' ++ P'.objs) (et : ∀ p ∈ tt ++ P'.tups, p ∈ tt ++ P.tups) : Cfg w Z b₀ P' L loc tmp' tt { s with heap := h', toks := tk } := by
  subst el
  have hn := List.nodup_cons.mp c.nd
  obtain ⟨⟨o, ho, hgo⟩, hz⟩ := c.led _ U.mem
  have hLa : L ≠ a := fun e => hn.1 (e ▸ List.mem_map_of_mem U.mem)
  refine ⟨fun b ob e => hs b ob (fun q => ?_) (c.keep b ob e), c.os, c.gens, ?_, c.nl, c.newL, fun p hp => ?_, ?_, fun p hp => ?_⟩
  · rw [q] at e; rw [hz.1] at e; cases e
  · obtain ⟨m, h1, h2⟩ := c.ns
    exact ⟨m, h1.extBut hs hLa, h2⟩
  · rcases U.other hn.2 p hp with rfl | ⟨h1, h2⟩
    · exact ⟨hg, hz⟩
    · obtain ⟨⟨o', h3, h4⟩, h5⟩ := c.led p h1
      exact ⟨⟨o', hs _ _ h2 h3, h4⟩, h5⟩
  · show (L :: (tmp' ++ P'.objs).map (·.1)).Nodup
    rw [U.keys]; exact c.nd
  · obtain ⟨ot, items, n, h1, h2, r⟩ := c.tup p (et p hp)
    refine ⟨ot, items, n, hs _ _ (fun e => ?_) h1, h2, r⟩
    rw [e, ho] at h1
    cases h1
    exact G.notTup hgo h2 r.1
theorem chgT (c : Cfg w Z b₀ P L loc tmp tt s) (U : Put tmp a g g' tmp') (hs : Heap.ExtBut a s.heap h') (hg : ∃ o, h'.get? a = some o ∧ g'.is w o) : Cfg w Z b₀ P L loc tmp' tt { s with heap := h', toks := tk } :=
  c.chg' (U.left _) hs hg rfl fun _ h => h
theorem chg (c : Cfg w Z b₀ P L loc tmp tt s) (U : Put (tmp ++ P.objs) a g g' (tmp' ++ P'.objs)) (et : ∀ p ∈ tt ++ P'.tups, p ∈ tt ++ P.tups) (hs : Heap.ExtBut a s.heap h') (hg : ∃ o, h'.get? a = some o ∧ g'.is w o) : Cfg w Z b₀ P' L loc tmp' tt { s with heap := h', toks := tk } :=
  c.chg' U hs hg rfl et

/-- a local is stored -/
theorem setLoc (c : Cfg w Z b₀ P L loc tmp tt s) {x : Str} {l l' : LV} {v : Value} (U : Put loc x l l' loc') (hv : l'.is v)
    (hn : ∀ m, s.heap.Ns L m → h'.Ns L fun y => if y = x then some v else m y) (hs : Heap.SameBut L s.heap h') : Cfg w Z b₀ P L loc' tmp tt { s with heap := h', toks := tk } := by
  have hd := List.nodup_cons.mp c.nd
  refine ⟨fun b ob e => (hs.2 b (fun q => ?_)).trans (c.keep b ob e), c.os, c.gens, ?_, ?_, c.newL, fun p hp => ?_, c.nd, fun p hp => ?_⟩
  · rw [q, c.newL.1] at e; cases e
  · obtain ⟨m, h1, h2⟩ := c.ns
    refine ⟨_, hn m h1, fun p hp => ?_⟩
    rcases U.other c.nl p hp with rfl | ⟨h3, h4⟩
    · show l'.ok (if x = x then some v else _)
      rw [if_pos rfl]; exact LV.ok_some hv
    · show p.2.ok (if p.1 = x then some v else _)
      rw [if_neg h4]; exact h2 p h3
  · rw [U.keys]; exact c.nl
  · obtain ⟨⟨o', h3, h4⟩, h5⟩ := c.led p hp
    exact ⟨⟨o', (hs.2 _ fun e => hd.1 (e ▸ List.mem_map_of_mem hp)).trans h3, h4⟩, h5⟩
  · obtain ⟨ot, items, n, h1, h2, r⟩ := c.tup p hp
    refine ⟨ot, items, n, (hs.2 _ fun e => ?_).trans h1, h2, r⟩
    obtain ⟨m, ⟨oL, es, ep, h3, h4, _⟩, _⟩ := c.ns
    obtain ⟨h5, _⟩ := r
    rw [e, h3] at h1
    cases h1
    rw [h4] at h5
    cases h5
end Cfg
end
end
section
structure Base (w : World) (Z : Heap) : Prop where
  K : (hd.heap_39 w.params).In Z
  T : ∃ mg mb, Z.Ns mainGlobals mg ∧ Z.Ns builtinsNs mb ∧ ∀ x : Str, x ≠ "__name__" → mb x = bootBuiltins x
  lim : Z.NoLimit
theorem Base.keeps {w : World} {Z Z' : Heap} (B : Base w Z) (k : ∀ b o, Z.get? b = some o → Z'.get? b = some o) : Base w Z' :=
  ⟨B.K.keeps k, let ⟨mg, mb, h1, h2, h3⟩ := B.T; ⟨mg, mb, h1.keeps k, h2.keeps k, h3⟩, B.lim.keeps k⟩

structure Room (n : Nat) (A : Around) : Prop where
  d : A.depth + n < recursionLimit
  u : A.units + 40 * n < cLine
  h : A.handled = none
theorem Room.deeper {n : Nat} {A : Around} {env : Env} (r : Room (n + 1) A) : Room n (A.deeper env) :=
  ⟨by have := r.d; show A.depth + 1 + n < _; (first | lia | omega), by have := r.u; show A.units + 3 + 40 * n < _; (first | lia | omega), r.h⟩
theorem Room.lower {n m : Nat} {A : Around} (r : Room n A) (h : m ≤ n) : Room m A := ⟨by have := r.d; (first | lia | omega), by have := r.u; (first | lia | omega), r.h⟩
theorem Room.depth {n : Nat} {A : Around} (r : Room n A) : A.depth < recursionLimit := by have := r.d; (first | lia | omega)
theorem Room.units {n : Nat} {A : Around} (r : Room (n + 1) A) : A.units + 30 < cLine := by have := r.u; (first | lia | omega)

section
variable {w : World} {Z : Heap} {b₀ : Shared} {P P' : Pers} {L a : Addr} {loc loc' : List (Str × LV)} {tmp tmp' : List (Addr × G)} {tt tt' : List (Addr × List LV)} {s s' : Shared} {h' : Heap} {tk : Nat} {g g' : G}
  {A : Around} {E : Value → Shared → Prop} {env : Env} {x : Str} {pos : Pos} {Q : Value → Shared → Prop} {QU : Unit → Shared → Prop} {n : Nat}

theorem Cfg.base (c : Cfg w Z b₀ P L loc tmp tt s) (B : Base w Z) : Base w s.heap := B.keeps c.keep

theorem r_loc {l : LV} (c : Cfg w Z b₀ P L loc tmp tt s) (hm : (x, l) ∈ loc) (hu : l ≠ .unset) (h : ∀ v, l.is v → Q v s)
    (he : env.locals = L := by rfl) (hk : env.scope.kind = .function := by rfl) (hx : env.kindOf x = some .local := by rfl) (hd : (x == ("__debug__" : Str)) = false := by decide) :
    wpAny (model prg w) A (eval (.Name x pos) env) Q E s := by
  obtain ⟨m, h1, h2⟩ := c.ns
  obtain ⟨v, hv, hl⟩ := LV.of_ok (h2 _ hm) hu
  subst he
  exact wpAny_Name (wpAny_loadName_local hk hx h1 hv (h v hl)) hd
theorem r_locI {k : Int} (c : Cfg w Z b₀ P L loc tmp tt s) (hm : (x, .int k) ∈ loc) (h : ∀ t, Q (.int k t) s)
    (he : env.locals = L := by rfl) (hk : env.scope.kind = .function := by rfl) (hx : env.kindOf x = some .local := by rfl) (hd : (x == ("__debug__" : Str)) = false := by decide) :
    wpAny (model prg w) A (eval (.Name x pos) env) Q E s := r_loc c hm (by simp) (fun v hv => by obtain ⟨t, rfl⟩ := hv; exact h t) he hk hx hd
theorem r_locS {k : Str} (c : Cfg w Z b₀ P L loc tmp tt s) (hm : (x, .str k) ∈ loc) (h : ∀ t, Q (.str k t) s)
    (he : env.locals = L := by rfl) (hk : env.scope.kind = .function := by rfl) (hx : env.kindOf x = some .local := by rfl) (hd : (x == ("__debug__" : Str)) = false := by decide) :
    wpAny (model prg w) A (eval (.Name x pos) env) Q E s := r_loc c hm (by simp) (fun v hv => by obtain ⟨t, rfl⟩ := hv; exact h t) he hk hx hd
theorem r_locR {k : Addr} (c : Cfg w Z b₀ P L loc tmp tt s) (hm : (x, .ref k) ∈ loc) (h : Q (.ref k) s)
    (he : env.locals = L := by rfl) (hk : env.scope.kind = .function := by rfl) (hx : env.kindOf x = some .local := by rfl) (hd : (x == ("__debug__" : Str)) = false := by decide) :
    wpAny (model prg w) A (eval (.Name x pos) env) Q E s := r_loc c hm (by simp) (fun v hv => by cases hv; exact h) he hk hx hd
theorem r_locB {k : Bool} (c : Cfg w Z b₀ P L loc tmp tt s) (hm : (x, .bool k) ∈ loc) (h : Q (.bool k) s)
    (he : env.locals = L := by rfl) (hk : env.scope.kind = .function := by rfl) (hx : env.kindOf x = some .local := by rfl) (hd : (x == ("__debug__" : Str)) = false := by decide) :
    wpAny (model prg w) A (eval (.Name x pos) env) Q E s := r_loc c hm (by simp) (fun v hv => by cases hv; exact h) he hk hx hd
theorem r_locN (c : Cfg w Z b₀ P L loc tmp tt s) (hm : (x, .none) ∈ loc) (h : Q .none s)
    (he : env.locals = L := by rfl) (hk : env.scope.kind = .function := by rfl) (hx : env.kindOf x = some .local := by rfl) (hd : (x == ("__debug__" : Str)) = false := by decide) :
    wpAny (model prg w) A (eval (.Name x pos) env) Q E s := r_loc c hm (by simp) (fun v hv => by cases hv; exact h) he hk hx hd

theorem r_constI {k : Int} {kk : Nat} (c : Cfg w Z b₀ P L loc tmp tt s) (h : ∀ t s', Cfg w Z b₀ P L loc tmp tt s' → Q (.int k t) s') : wpAny (model prg w) A (eval (.Constant (.int k) kk pos) env) Q E s := wpAny_Constant_int (h _ _ c.tok)
theorem r_kindN {kd : NameKind} (hk : env.kindOf x = some kd) (h : env.kindOf x = some kd → wpAny (model prg w) A (eval (.Name x pos) env) Q E s) : wpAny (model prg w) A (eval (.Name x pos) env) Q E s := h hk
theorem r_kindS {kd : NameKind} {v : Value} (hk : env.kindOf x = some kd) (h : env.kindOf x = some kd → wpAny (model prg w) A (storeName env x v) QU E s) : wpAny (model prg w) A (storeName env x v) QU E s := h hk
theorem r_cell {l : LV} (c : Cfg w Z b₀ P L loc tmp tt s) (hc : env.cells.lookup x = some a) (hm : (a, .cell l) ∈ tmp) (hu : l ≠ .unset) (h : ∀ v, l.is v → Q v s)
    (hk : env.scope.kind = .function := by rfl) (hx : env.kindOf x = some .cell := by rfl) (hd : (x == ("__debug__" : Str)) = false := by decide) :
    wpAny (model prg w) A (eval (.Name x pos) env) Q E s := by
  obtain ⟨⟨o, h1, v, h2, h3⟩, _⟩ := c.led _ (List.mem_append_left _ hm)
  obtain ⟨u, rfl, hl⟩ := LV.of_ok h3 hu
  exact wpAny_Name (wpAny_loadName_cell hk hx hc ⟨o, h1, h2⟩ (h u hl)) hd
theorem r_cellI {k : Int} (c : Cfg w Z b₀ P L loc tmp tt s) (hc : env.cells.lookup x = some a) (hm : (a, .cell (.int k)) ∈ tmp) (h : ∀ t, Q (.int k t) s)
    (hk : env.scope.kind = .function := by rfl) (hx : env.kindOf x = some .cell := by rfl) (hd : (x == ("__debug__" : Str)) = false := by decide) :
    wpAny (model prg w) A (eval (.Name x pos) env) Q E s := r_cell c hc hm (by simp) (fun v hv => by obtain ⟨t, rfl⟩ := hv; exact h t) hk hx hd
theorem r_cellR {k : Addr} (c : Cfg w Z b₀ P L loc tmp tt s) (hc : env.cells.lookup x = some a) (hm : (a, .cell (.ref k)) ∈ tmp) (h : Q (.ref k) s)
    (hk : env.scope.kind = .function := by rfl) (hx : env.kindOf x = some .cell := by rfl) (hd : (x == ("__debug__" : Str)) = false := by decide) :
    wpAny (model prg w) A (eval (.Name x pos) env) Q E s := r_cell c hc hm (by simp) (fun v hv => by cases hv; exact h) hk hx hd

theorem r_glob {v : Value} (c : Cfg w Z b₀ P L loc tmp tt s) (B : Base w Z) (e : nsIn (hd.heap_39 w.params) mainGlobals x = some (some v)) (h : Q v s)
    (hg : env.globals = mainGlobals := by rfl) (hk : env.scope.kind = .function := by rfl) (hx : env.kindOf x = some .globalImplicit := by rfl) (hd : (x == ("__debug__" : Str)) = false := by decide) :
    wpAny (model prg w) A (eval (.Name x pos) env) Q E s := by
  obtain ⟨K, ⟨mg, mb, h1, h2, h3⟩, _, _⟩ := c.base B
  exact Name_function_global hk hx (loadGlobal_global (hg.symm ▸ h1) (mg_of K h1 e) h) hd
theorem r_blt {v : Value} (c : Cfg w Z b₀ P L loc tmp tt s) (B : Base w Z) (e : nsIn (hd.heap_39 w.params) mainGlobals x = some none) (hv : bootBuiltins x = some v) (hn : x ≠ "__name__") (h : Q v s)
    (hg : env.globals = mainGlobals := by rfl) (hb : env.builtins = builtinsNs := by rfl) (hk : env.scope.kind = .function := by rfl) (hx : env.kindOf x = some .globalImplicit := by rfl) (hd : (x == ("__debug__" : Str)) = false := by decide) :
    wpAny (model prg w) A (eval (.Name x pos) env) Q E s := by
  obtain ⟨K, ⟨mg, mb, h1, h2, h3⟩, _, _⟩ := c.base B
  exact Name_function_global hk hx (loadGlobal_builtin (hg.symm ▸ h1) (mg_none_of K h1 e) (hb.symm ▸ h2) ((h3 x hn).trans hv) h) hd

theorem r_st {l l' : LV} {v : Value} (c : Cfg w Z b₀ P L loc tmp tt s) (hv : l'.is v) (U : Put loc x l l' loc') (h : ∀ s', Cfg w Z b₀ P L loc' tmp tt s' → QU () s')
    (he : env.locals = L := by rfl) (hx : env.kindOf x = some .local := by rfl) (hp : (env.scope.kind == .class || (env.scope.kind == .module && env.locals != env.globals)) = false := by rfl) :
    wpAny (model prg w) A (storeName env x v) QU E s := by
  obtain ⟨m, h1, h2⟩ := c.ns
  subst he
  exact wpAny_storeName_local hx h1 (fun h' hn hs => h _ (c.setLoc U hv (fun m' hm' => by
    have : m' = m := funext fun y => by
      obtain ⟨o, es, ep, e1, e2, _, e3⟩ := hm'
      obtain ⟨o', es', ep', e1', e2', _, e3'⟩ := h1
      rw [e1] at e1'; cases e1'; rw [e2] at e2'; cases e2'
      rw [← e3, ← e3']
    rw [this]; exact hn) hs)) hp
theorem r_stC {l l' : LV} {v : Value} (c : Cfg w Z b₀ P L loc tmp tt s) (hv : l'.is v) (hc : env.cells.lookup x = some a) (U : Put tmp a (.cell l) (.cell l') tmp') (h : ∀ s', Cfg w Z b₀ P L loc tmp' tt s' → QU () s')
    (hk : env.scope.kind = .function := by rfl) (hx : env.kindOf x = some .cell := by rfl) :
    wpAny (model prg w) A (storeName env x v) QU E s := by
  obtain ⟨⟨o, h1, v₀, h2, h3⟩, _⟩ := c.led _ (List.mem_append_left _ U.mem)
  refine wpAny_storeName_cell hk hx hc ⟨o, h1, h2⟩ fun h' hv' hs => ?_
  obtain ⟨o', ho', hd'⟩ := hv'
  exact h _ (c.chgT U hs.extBut ⟨o', ho', some v, hd', LV.ok_some hv⟩)
end

/-- an object that stands frozen: its fields; no other name lies in its dict -/
noncomputable def Inst (Z : Heap) (x C : Addr) (fs : List (Str × Value)) : Prop :=
  ∃ (dx : Addr) (es : List DictEntry) (n : Nat) (sl : Array (Option Value)), Z.get? x = some ⟨.ref C, some dx, .plain, sl⟩ ∧ Z.get? dx = some (dictOf es n) ∧ (∀ p ∈ fs, getL p.1 es = some (some p.2)) ∧ ∀ f, fs.lookup f = none → getL f es = some none
theorem Inst.keeps {Z Z' : Heap} {x C : Addr} {fs : List (Str × Value)} (i : Inst Z x C fs) (k : ∀ b o, Z.get? b = some o → Z'.get? b = some o) : Inst Z' x C fs :=
  let ⟨dx, es, n, sl, h1, h2, r⟩ := i; ⟨dx, es, n, sl, k _ _ h1, k _ _ h2, r⟩

section
variable {w : World} {Z : Heap} {b₀ : Shared} {P P' : Pers} {L a y C : Addr} {loc loc' : List (Str × LV)} {tmp tmp' : List (Addr × G)} {tt tt' : List (Addr × List LV)} {s s' : Shared} {h' : Heap} {tk : Nat} {g g' : G}
  {A : Around} {E : Value → Shared → Prop} {env : Env} {x : Str} {pos : Pos} {Q : Value → Shared → Prop} {QU : Unit → Shared → Prop} {QF : Flow → Shared → Prop} {n : Nat} {fs : List (Str × Value)}

theorem r_attr {expr : Bool} {v : Value} {attr : Option Value} (c : Cfg w Z b₀ P L loc tmp tt s) (B : Base w Z) (i : Inst Z y C fs) (hm : (x, v) ∈ fs) (hg : plainGet (hd.heap_39 w.params) C x = true) (hh : hasDictIn (hd.heap_39 w.params) C = true)
    (ha : findIn (hd.heap_39 w.params) (.ref C) x = some attr) (hn : noGet (hd.heap_39 w.params) attr = true) (hv : handedIn v = true) (h : ∀ s', Cfg w Z b₀ P L loc tmp tt s' → Q v s') : wpAny (model prg w) A (getAttr (.ref y) x expr) Q E s := by
  obtain ⟨dx, es, n, sl, h1, h2, h3, _⟩ := i
  have I : InstAt s.heap y ⟨.ref C, some dx, .plain, sl⟩ C (some (dictOf es n)) := ⟨c.keep _ _ h1, rfl, rfl, c.keep _ _ h2⟩
  exact get_value (c.base B).K I (plainGet_of hg).1 (findObj_own hh ha hn (h3 _ hm)) hv (h _ c.tok)
theorem r_meth {f : Addr} {pl : Sem Bool} {QM : Value × List Value → Shared → Prop} (c : Cfg w Z b₀ P L loc tmp tt s) (B : Base w Z) (i : Inst Z y C fs) (hm : fs.lookup x = none) (hg : plainGet (hd.heap_39 w.params) C x = true)
    (hf : findIn (hd.heap_39 w.params) (.ref C) x = some (some (.ref f))) (ht : isFn (hd.heap_39 w.params) (.ref f) = true) (h : QM (.ref f, [.ref y]) s) : wpAny (model prg w) A (getMethod (.ref y) x pl) QM E s := by
  obtain ⟨dx, es, n, sl, h1, h2, _, h3⟩ := i
  have I : InstAt s.heap y ⟨.ref C, some dx, .plain, sl⟩ C (some (dictOf es n)) := ⟨c.keep _ _ h1, rfl, rfl, c.keep _ _ h2⟩
  exact method_fn (c.base B).K I (plainGet_of hg).1 (plainGet_of hg).2 hf (beq_iff_eq.mp ht) (by show (lookIn x (dictOf es n)).map _ = _; rw [lookIn_dict, h3 _ hm]; rfl) h

theorem r_callWith {f : Value} {first : List Value} {e : Expr} {rest : List Expr} (B : Base w Z) (hk : keepIn (hd.heap_39 w.params) f = true)
    (h : wpAny (model prg w) A (spliced (backTo pos (starEach (e :: rest) env))) (fun vs s₁ => (hd.heap_39 w.params).In s₁.heap ∧ wpAny (model prg w) A (call f (first ++ vs)) Q E s₁) E s)
    (he : starEach (e :: rest) env = (false, eval e env) :: starEach rest env := by rfl) (hplain : (backTo pos (starEach rest env)).any (·.1) = false := by rfl) :
    wpAny (model prg w) A (callWith pos f first (backTo pos (starEach (e :: rest) env)) []) Q E s := callWith_K B.K hk h he hplain
theorem r_callWith0 {f : Value} {first : List Value} (c : Cfg w Z b₀ P L loc tmp tt s) (B : Base w Z) (hk : keepIn (hd.heap_39 w.params) f = true) (h : wpAny (model prg w) A (call f (first ++ [])) Q E s) :
    wpAny (model prg w) A (callWith pos f first (backTo pos (starEach [] env)) []) Q E s := callWith_K0 (c.base B).K hk h
theorem r_in (c : Cfg w Z b₀ P L loc tmp tt s) (B : Base w Z) {p : Prop} (h : p) : (hd.heap_39 w.params).In s.heap ∧ p := ⟨(c.base B).K, h⟩

/-- what a frame gives back -/
noncomputable def Back (w : World) (Z : Heap) (b₀ : Shared) (L : Addr) (loc : List (Str × LV)) (fo : Obj) : Prop :=
  ∀ (P' : Pers) (L₂ : Addr) (loc₂ : List (Str × LV)) (pre post : List (Addr × G)) (tt' : List (Addr × List LV)) (s₂ : Shared), Cfg w Z b₀ P' L₂ loc₂ (pre ++ (L, .obj fo) :: post) tt' s₂ → Cfg w Z b₀ P' L loc (pre ++ post) tt' s₂
theorem Cfg.back (c : Cfg w Z b₀ P L loc tmp tt s) : ∃ fo, s.heap.get? L = some fo ∧ (∀ items n, fo.data ≠ .seq items n) ∧ Back w Z b₀ L loc fo := by
  obtain ⟨m, ⟨fo, es, ep, h1, h2, h3, h4⟩, h5⟩ := c.ns
  refine ⟨fo, h1, (fun i n e => by rw [h2] at e; cases e), fun P' L₂ loc₂ pre post tt' s₂ c' => ?_⟩
  have hL := c'.led (L, .obj fo) (by simp)
  obtain ⟨⟨o, e1, e2, _⟩, e3⟩ := hL
  subst e2
  refine ⟨c'.keep, c'.os, c'.gens, ⟨m, ⟨o, es, ep, e1, h2, h3, h4⟩, h5⟩, c.nl, e3, fun p hp => c'.led p ?_, ?_, c'.tup⟩
  · simp only [List.append_assoc, List.cons_append, List.mem_append, List.mem_cons] at hp ⊢
    rcases hp with h | h | h
    · exact .inl h
    · exact .inr (.inr (.inl h))
    · exact .inr (.inr (.inr h))
  · have hn := c'.nd
    rw [List.nodup_cons] at hn
    have hp : (((pre ++ (L, .obj o) :: post) ++ P'.objs).map (·.1)).Perm ((L :: ((pre ++ post) ++ P'.objs).map (·.1))) := by
      have : (((L, .obj o) :: ((pre ++ post) ++ P'.objs)).map (·.1)) = L :: ((pre ++ post) ++ P'.objs).map (·.1) := rfl
      rw [← this]
      refine List.Perm.map _ ?_
      rw [List.append_assoc, List.append_assoc]
      exact List.perm_middle
    exact hp.nodup_iff.mp hn.2

theorem Cfg.enter (c : Cfg w Z b₀ P L loc tmp tt s) {fo : Obj} {L' : Addr} {m : Str → Option Value} (hfo : s.heap.get? L = some fo) (hfd : ∀ items n, fo.data ≠ .seq items n) (k : ∀ b o, s.heap.get? b = some o → h'.get? b = some o)
    (hfs : Fs s.heap L') (hn : h'.Ns L' m) (hl : ∀ p ∈ loc', p.2.ok (m p.1)) (hd : (loc'.map (·.1)).Nodup) : Cfg w Z b₀ P L' loc' ((L, .obj fo) :: tmp) tt { s with heap := h', toks := tk } := by
  have hf := hfs.1
  have c' := c.ext (tk := tk) k
  have hn' := List.nodup_cons.mp c.nd
  refine ⟨c'.keep, c'.os, c'.gens, ⟨m, hn, hl⟩, hd, c.fresh hfs, fun p hp => ?_, ?_, c'.tup⟩
  · rcases List.mem_cons.mp hp with rfl | hp
    · exact ⟨⟨fo, k _ _ hfo, rfl, hfd⟩, c.newL⟩
    · exact c'.led p hp
  · show (L' :: L :: (tmp ++ P.objs).map (·.1)).Nodup
    rw [List.nodup_cons]
    refine ⟨fun hm => ?_, c.nd⟩
    rcases List.mem_cons.mp hm with rfl | hm
    · rw [hf] at hfo; cases hfo
    · obtain ⟨p, hp, rfl⟩ := List.mem_map.mp hm
      obtain ⟨⟨o, h1, _⟩, _⟩ := c.led p hp
      rw [hf] at h1; cases h1

theorem get?_size (h : Heap) : h.get? h.objs.size = none := by
  cases q : h.get? h.objs.size with
  | none => rfl
  | some o => exact absurd (Heap.lt_size q) (Nat.lt_irrefl _)

theorem new_size (h : Heap) : Fs h h.objs.size := ⟨get?_size h, Nat.le_refl _⟩

abbrev retOf (f : Flow) : Value := match f with | .ret v => v | _ => .none

theorem r_callP {f : Addr} {args : List Value} {binds : List (Str × Value)} {name qual : Str} {params : Arguments} {body : List Stmt} {scope : Scope} {dV kV doc pm cdv ct oc : Value} {an od : Option Addr} {osl : Array (Option Value)}
    (c : Cfg w Z b₀ P L loc tmp tt s) (B : Base w Z) (r : Room (n + 1) A)
    (ho : (hd.heap_39 w.params).lookup f = some ⟨oc, od, .func (fnX name qual params body scope [] dV kV doc pm an cdv ct), osl⟩) (hcd : codeIn (hd.heap_39 w.params) cdv qual = true)
    (hbind : BindsTo s (fnX name qual params body scope [] dV kV doc pm an cdv ct) ⟨args, []⟩ binds) (hloc : ∀ y ∈ binds, scope.names.lookup y.1 = some .local) (hcell : ∀ x ∈ scope.names, x.2 ≠ .cell)
    (loc' : List (Str × LV)) (hl : ∀ p ∈ loc', p.2.ok (binds.reverse.lookup p.1)) (hd : (loc'.map (·.1)).Nodup)
    (h : ∀ L' fo A' s', Back w Z b₀ L loc fo → Room n A' → Cfg w Z b₀ P L' loc' ((L, .obj fo) :: tmp) tt s' →
      wpAny (model prg w) A' (execs body (envX qual scope L' f cdv [])) (fun fl s'' => Q (retOf fl) s'') (fun _ _ => False) s')
    (hco : scope.isCoroutine = false := by rfl) (hgen : scope.isGenerator = false := by rfl) (hk : scope.kind = .function := by rfl) :
    wpAny (model prg w) A (call (.ref f) args) Q E s := by
  have K := (c.base B).K
  obtain ⟨fo, hfo, hfd, hb⟩ := c.back
  refine wpAny_call (codeAny_call_def (fd := fnX name qual params body scope [] dV kV doc pm an cdv ct) (body := body) (binds := binds) r.depth (K _ _ ho) rfl (c.base B).lim (codeRec_of K hcd) rfl hbind hcell hloc (fun h₁ hns hk₁ => ?_) hco hgen hk)
  refine wpAny_mono (h s.heap.objs.size fo _ _ hb r.deeper (c.enter hfo hfd hk₁ (new_size _) hns hl hd)) (fun fl s' hq => ?_) fun _ _ e => e.elim
  cases fl <;> exact hq

theorem cellsMore : ∀ (clv : List (Addr × LV)) (cs : List (Str × Addr)) {cm : Str → Option Value} {L' : Addr} {s₁ : Shared} {tmp : List (Addr × G)},
    All2 (fun (q : Str × Addr) p => q.2 = p.1 ∧ p.2.ok (cm q.1)) cs clv → (∀ n a, (n, a) ∈ cs → s₁.heap.IsCell a (cm n) ∧ Nw Z a ∧ a ≠ L' ∧ ∀ p ∈ tmp ++ P.objs, p.1 ≠ a) → (cs.Pairwise fun x y => x.2 ≠ y.2) → Cfg w Z b₀ P L' loc tmp tt s₁ →
    Cfg w Z b₀ P L' loc (clv.map (fun p => (p.1, .cell p.2)) ++ tmp) tt s₁
  | [], _, _, _, _, _, _, _, _, c => c
  | (a, l) :: clv, cs, cm, L', s₁, tmp, h2, h, hp, c => by
    cases h2 with
    | @cons q _ cs' _ hq h2' =>
      obtain ⟨n, a'⟩ := q
      obtain ⟨rfl, hl⟩ := hq
      rw [List.pairwise_cons] at hp
      have c' := cellsMore clv cs' h2' (fun n' b hb => h n' b (.tail _ hb)) hp.2 c
      obtain ⟨hc, hz, hL, hne⟩ := h n a' (.head _)
      have hnd := List.nodup_cons.mp c'.nd
      refine { c' with led := fun p hp' => ?_, nd := ?_ }
      · rcases List.mem_cons.mp hp' with rfl | hp'
        · obtain ⟨o, h1, h2⟩ := hc
          exact ⟨⟨o, h1, _, h2, hl⟩, hz⟩
        · exact c'.led p hp'
      · show (L' :: a' :: ((clv.map (fun p => (p.1, G.cell p.2)) ++ tmp) ++ P.objs).map (·.1)).Nodup
        rw [List.nodup_cons, List.nodup_cons]
        refine ⟨fun hm => ?_, fun hm => ?_, hnd.2⟩
        · rcases List.mem_cons.mp hm with e | hm
          · exact hL e.symm
          · exact hnd.1 hm
        · obtain ⟨p, hp', e⟩ := List.mem_map.mp hm
          rw [List.append_assoc] at hp'
          rcases List.mem_append.mp hp' with hp' | hp'
          · obtain ⟨q, hq, rfl⟩ := List.mem_map.mp hp'
            obtain ⟨⟨n', b'⟩, hn', hb', _⟩ := h2'.mem_right hq
            have hb'' : b' = q.1 := hb'
            subst hb''
            exact hp.1 _ hn' e.symm
          · exact hne p hp' e

theorem r_callC {f : Addr} {args : List Value} {binds : List (Str × Value)} {name qual : Str} {params : Arguments} {body : List Stmt} {scope : Scope} {dV kV doc pm cdv ct oc : Value} {an od : Option Addr} {osl : Array (Option Value)}
    (c : Cfg w Z b₀ P L loc tmp tt s) (B : Base w Z) (r : Room (n + 1) A)
    (ho : (hd.heap_39 w.params).lookup f = some ⟨oc, od, .func (fnX name qual params body scope [] dV kV doc pm an cdv ct), osl⟩) (hcd : codeIn (hd.heap_39 w.params) cdv qual = true)
    (hbind : BindsTo s (fnX name qual params body scope [] dV kV doc pm an cdv ct) ⟨args, []⟩ binds)
    (hkind : (binds.all fun y => scope.names.lookup y.1 == some .local || scope.names.lookup y.1 == some .cell) = true) (hnd : ((cellsFrom 0 scope.names []).map (·.1)).Nodup)
    (loc' : List (Str × LV)) (clv : Addr → List (Addr × LV))
    (hl : ∀ L', ∀ p ∈ loc', p.2.ok (bindL (envX qual scope L' f cdv (cellsFrom (L' + 1) scope.names [])).kindOf binds (fun _ => none) p.1)) (hd : (loc'.map (·.1)).Nodup)
    (hcl : ∀ L', All2 (fun (q : Str × Addr) p => q.2 = p.1 ∧ p.2.ok (bindC (envX qual scope L' f cdv (cellsFrom (L' + 1) scope.names [])).kindOf binds (fun _ => none) q.1)) (cellsFrom (L' + 1) scope.names []) (clv L'))
    (h : ∀ L' fo A' s', Back w Z b₀ L loc fo → Room n A' → Cfg w Z b₀ P L' loc' ((clv L').map (fun p => (p.1, .cell p.2)) ++ (L, .obj fo) :: tmp) tt s' →
      wpAny (model prg w) A' (execs body (envX qual scope L' f cdv (cellsFrom (L' + 1) scope.names []))) (fun fl s'' => Q (retOf fl) s'') (fun _ _ => False) s')
    (hco : scope.isCoroutine = false := by rfl) (hgen : scope.isGenerator = false := by rfl) (hk : scope.kind = .function := by rfl) :
    wpAny (model prg w) A (call (.ref f) args) Q E s := by
  have K := (c.base B).K
  obtain ⟨fo, hfo, hfd, hb⟩ := c.back
  refine wpAny_call (codeAny_call_function r.depth (K _ _ ho) rfl hco hgen rfl (codeRec_of K hcd) (hbind _ _ _ _ ?_))
  refine wpAny_newFunctionEnv_cells hk (kindsX hkind _) fun env' he s' x => ?_
  subst he
  refine ⟨(c.base B).lim.keeps x.toInCall.keep, codeAny_func ?_⟩
  obtain ⟨h₁, tk, rfl, hk₁⟩ := x.done
  have c₁ := c.enter (tk := tk) hfo hfd hk₁ (new_size s.heap) x.toInCall.ns (hl s.heap.objs.size) hd
  have hnames : ((cellsFrom (s.heap.objs.size + 1) scope.names []).map (·.1)).Nodup := by
    have e := cellsFrom_names scope.names 0 (s.heap.objs.size + 1) [] [] rfl
    rw [← e]; exact hnd
  have c₂ := cellsMore (clv s.heap.objs.size) (cellsFrom (s.heap.objs.size + 1) scope.names []) (cm := bindC (envX qual scope s.heap.objs.size f cdv (cellsFrom (s.heap.objs.size + 1) scope.names [])).kindOf binds fun _ => none)
    (hcl s.heap.objs.size) (fun n' b hm => ?_) x.apart c₁
  · refine wpAny_mono (h s.heap.objs.size fo _ _ hb r.deeper c₂) (fun fl s' hq => ?_) fun _ _ e => e.elim
    cases fl <;> exact hq
  · have hlt := x.above n' b hm
    refine ⟨x.cell n' b (lookup_of_mem_nodup hnames hm), ?_, Nat.ne_of_gt hlt, fun p hp e => ?_⟩
    · refine ⟨?_, Nat.lt_trans (Nat.lt_trans c.newL.2 c.lt) hlt⟩
      cases q : Z.get? b with
      | none => rfl
      | some o => exact absurd (Heap.lt_size (c.keep _ _ q)) (Nat.not_lt.mpr (Nat.le_of_lt hlt))
    · subst e
      rcases List.mem_cons.mp hp with rfl | hp
      · exact absurd c.lt (Nat.not_lt.mpr (Nat.le_of_lt hlt))
      · obtain ⟨⟨o, h1, _⟩, _⟩ := c.led p hp
        exact absurd (Heap.lt_size h1) (Nat.not_lt.mpr (Nat.le_of_lt hlt))
end
end
section
section
variable {w : World} {Z : Heap} {b₀ : Shared} {P P' : Pers} {L a y C : Addr} {loc loc' : List (Str × LV)} {tmp tmp' : List (Addr × G)} {tt tt' : List (Addr × List LV)} {s s' : Shared} {h' : Heap} {tk : Nat} {g g' : G}
  {A : Around} {E : Value → Shared → Prop} {env : Env} {x : Str} {pos : Pos} {Q : Value → Shared → Prop} {QU : Unit → Shared → Prop} {QF : Flow → Shared → Prop} {n : Nat} {fs : List (Str × Value)}

theorem r_while {test : Expr} {body orelse : List Stmt} (I : Nat → Shared → Prop)
    (turn : ∀ n s, I n s → wpAny (model prg w) A (isTrue test env (eval test env)) (fun b s₁ => if b then wpAny (model prg w) A (execs body env) (fun f s₂ => match f with
        | .next | .cont => ∃ m, m < n ∧ I m s₂
        | .brk => QF .next s₂
        | .ret v => QF (.ret v) s₂) (fun _ _ => False) s₁
      else wpAny (model prg w) A (execs orelse env) QF (fun _ _ => False) s₁) (fun _ _ => False) s)
    (n : Nat) (h : I n s) : wpAny (model prg w) A (exec (.While test body orelse pos) env) QF E s := by
  refine wpAny_While (codeAny_whileLoop I (fun n s hI => ?_) n h)
  refine wpAny_mono (turn n s hI) (fun b s₁ hb => ?_) fun _ _ e => e.elim
  cases b with
  | true =>
    simp only [if_true] at hb ⊢
    refine wpAny_mono hb (fun f s₂ hf => ?_) fun _ _ e => e.elim
    cases f <;> exact hf
  | false =>
    simp only [Bool.false_eq_true, if_false] at hb ⊢
    exact wpAny_mono hb (fun f s₂ hf => hf) fun _ _ e => e.elim

theorem Cfg.at (c : Cfg w Z b₀ P L loc tmp tt s) (hm : (a, g) ∈ tmp ++ P.objs) : ∃ o, s.heap.get? a = some o ∧ g.is w o := (c.led _ hm).1
theorem Cfg.isL {ls : List LV} (c : Cfg w Z b₀ P L loc tmp tt s) (hm : (a, .list ls) ∈ tmp ++ P.objs) : ∃ vs n, IsL s.heap a vs n ∧ All2 LV.is ls vs.toList := by
  obtain ⟨o, h1, vs, n, rfl, h2⟩ := c.at hm
  exact ⟨vs, n, h1, h2⟩
theorem Cfg.isList {ls : List LV} (c : Cfg w Z b₀ P L loc tmp tt s) (hm : (a, .list ls) ∈ tmp ++ P.objs) : ∃ vs, s.heap.IsList a vs ∧ All2 LV.is ls vs.toList :=
  let ⟨vs, n, h1, h2⟩ := c.isL hm; ⟨vs, ⟨_, h1, rfl, n, rfl⟩, h2⟩

theorem r_item {ls : List LV} {value slice : Expr} {k : Int} {u : Tok} {l : LV} (c : Cfg w Z b₀ P L loc tmp tt s) (hm : (a, .list ls) ∈ tmp ++ P.objs) (h0 : 0 ≤ k) (hhi : k < 2 ^ 63) (hx : ls[k.toNat]? = some l) (h : ∀ v, l.is v → Q v s)
    (hs : subscripted slice false (.ref a) (.int k u) = operate [.ref a, .int k u] (getItem (.ref a) (.int k u)) := by with_unfolding_all rfl) :
    wpAny (model prg w) A (subscriptTail value slice (.ref a) (.int k u)) Q E s := by
  obtain ⟨vs, hl, hv⟩ := c.isList hm
  obtain ⟨v, h1, h2⟩ := hv.get hx
  exact tail_any hl.typeIs slot_list_getitem.lookup (wpAny_getItem_list hl h0 hhi (by simpa using h1) (h v h2)) hs
theorem r_itemI {ls : List LV} {value slice : Expr} {k : Int} {u : Tok} {j : Int} (c : Cfg w Z b₀ P L loc tmp tt s) (hm : (a, .list ls) ∈ tmp ++ P.objs) (h0 : 0 ≤ k) (hhi : k < 2 ^ 63) (hx : ls[k.toNat]? = some (.int j)) (h : ∀ t, Q (.int j t) s)
    (hs : subscripted slice false (.ref a) (.int k u) = operate [.ref a, .int k u] (getItem (.ref a) (.int k u)) := by with_unfolding_all rfl) :
    wpAny (model prg w) A (subscriptTail value slice (.ref a) (.int k u)) Q E s := r_item c hm h0 hhi hx (fun v hv => by obtain ⟨t, rfl⟩ := hv; exact h t) hs
theorem r_itemR {ls : List LV} {value slice : Expr} {k : Int} {u : Tok} {j : Addr} (c : Cfg w Z b₀ P L loc tmp tt s) (hm : (a, .list ls) ∈ tmp ++ P.objs) (h0 : 0 ≤ k) (hhi : k < 2 ^ 63) (hx : ls[k.toNat]? = some (.ref j)) (h : Q (.ref j) s)
    (hs : subscripted slice false (.ref a) (.int k u) = operate [.ref a, .int k u] (getItem (.ref a) (.int k u)) := by with_unfolding_all rfl) :
    wpAny (model prg w) A (subscriptTail value slice (.ref a) (.int k u)) Q E s := r_item c hm h0 hhi hx (fun v hv => by cases hv; exact h) hs

theorem Cfg.notSM (c : Cfg w Z b₀ P L loc tmp tt s) (B : Base w Z) (hm : (a, g) ∈ tmp ++ P.objs) : (a == sysModules) = false := by
  have h := (c.led _ hm).2.2
  exact beq_eq_false_iff_ne.mpr fun e => Nat.lt_irrefl _ (e ▸ h)

theorem All2.push {ls : List LV} {vs : Array Value} {l : LV} {v : Value} (h : All2 LV.is ls vs.toList) (hv : l.is v) : All2 LV.is (ls ++ [l]) (vs.push v).toList := by
  rw [Array.toList_push]; exact h.snoc hv
theorem r_getL {id : String} {pl : Sem Bool} {ls : List LV} {QM : Value × List Value → Shared → Prop} (c : Cfg w Z b₀ P L loc tmp tt s) (hm : (a, .list ls) ∈ tmp ++ P.objs) (slot : Slot "list" x id) (hty : typeOf (.builtin id) = pure (.type "method_descriptor"))
    (h : QM (.builtin id, [.ref a]) s) : wpAny (model prg w) A (getMethod (.ref a) x pl) QM E s := by
  obtain ⟨vs, n, hl, _⟩ := c.isL hm
  exact getMethod_builtin ⟨_, hl, rfl⟩ PySem.F.plainAttrs_list slot hty (fun b e => by cases e; exact ⟨_, hl, rfl⟩) h
theorem r_append {ls : List LV} {l : LV} {v : Value} (c : Cfg w Z b₀ P L loc tmp tt s) (U : Put (tmp ++ P.objs) a (.list ls) (.list (ls ++ [l])) (tmp' ++ P'.objs)) (et : ∀ p ∈ tt ++ P'.tups, p ∈ tt ++ P.tups) (hv : l.is v) (hz : ls.length ≤ 1000000)
    (h : ∀ s', Cfg w Z b₀ P' L loc tmp' tt s' → Q .none s') : wpAny (model prg w) A (call (.builtin "list.append") [.ref a, v]) Q E s := by
  obtain ⟨vs, n, hl, hls⟩ := c.isL U.mem
  have hn := hls.size
  have hs : vs.size ≤ sizeLine := by rw [sizeLine_eq]; (first | lia | omega)
  refine call_meets F.slot_list_append ⟨_, hl, rfl⟩ F.entry_list_append (F.args_list_append_2 _ _) (list_append a vs n v hs) ⟨hl, ?_⟩
  exact h _ (c.chg U et (Heap.SameBut.update ..).extBut ⟨_, hl.update _, _, _, rfl, hls.push hv⟩)
theorem r_extend {b : Addr} {ls ms : List LV} (c : Cfg w Z b₀ P L loc tmp tt s) (hb : (b, .list ms) ∈ tmp ++ P.objs) (U : Put (tmp ++ P.objs) a (.list ls) (.list (ls ++ ms)) (tmp' ++ P'.objs)) (et : ∀ p ∈ tt ++ P'.tups, p ∈ tt ++ P.tups) (hz : ls.length + ms.length ≤ 1000000)
    (h : ∀ s', Cfg w Z b₀ P' L loc tmp' tt s' → Q .none s') : wpAny (model prg w) A (call (.builtin "list.extend") [.ref a, .ref b]) Q E s := by
  obtain ⟨vs, n, hl, hls⟩ := c.isL U.mem
  obtain ⟨us, n2, hl2, hms⟩ := c.isL hb
  have e1 := hls.size
  have e2 := hms.size
  have hs : vs.size + us.size ≤ sizeLine := by rw [sizeLine_eq]; (first | lia | omega)
  refine call_meets F.slot_list_extend ⟨_, hl, rfl⟩ F.entry_list_extend (F.args_list_extend_2 _ _) (AutoSeq1.list_extend_list_list_0 a vs n b us n2 (extend_door hs) (by (first | lia | omega)) (by (first | lia | omega))) ⟨hl, hl2, ?_⟩
  exact h _ (c.chg U et (Heap.SameBut.update ..).extBut ⟨_, hl.update _, _, _, rfl, by rw [Array.toList_append]; exact hls.append hms⟩)
theorem r_popL {ls : List LV} {l : LV} (c : Cfg w Z b₀ P L loc tmp tt s) (U : Put (tmp ++ P.objs) a (.list (ls ++ [l])) (.list ls) (tmp' ++ P'.objs)) (et : ∀ p ∈ tt ++ P'.tups, p ∈ tt ++ P.tups) (hz : ls.length ≤ 1000000)
    (h : ∀ v s', l.is v → Cfg w Z b₀ P' L loc tmp' tt s' → Q v s') : wpAny (model prg w) A (call (.builtin "list.pop") [.ref a]) Q E s := by
  obtain ⟨vs, n, hl, hls⟩ := c.isL U.mem
  have e1 := hls.size
  rw [List.length_append, List.length_singleton] at e1
  have hs : vs.size ≤ sizeLine := by rw [sizeLine_eq]; (first | lia | omega)
  obtain ⟨v, hv, hlv⟩ := hls.get (i := ls.length) (a := l) (by simp)
  have hv' : vs[vs.size - 1]? = some v := by
    rw [← e1, Nat.add_sub_cancel, ← Array.getElem?_toList]; exact hv
  refine call_meets F.slot_list_pop ⟨_, hl, rfl⟩ F.entry_list_pop (F.args_list_pop_1 _) (PySem.MeetsSeq.list_pop_last a vs n v hv' hs) ⟨hl, ?_⟩
  refine h v _ hlv (c.chg U et (Heap.SameBut.update ..).extBut ⟨_, hl.update _, _, _, rfl, ?_⟩)
  have e3 : (vs.eraseIdxIfInBounds (vs.size - 1)).toList = vs.toList.take ls.length := by
    rw [Array.eraseIdxIfInBounds]
    split
    · rw [Array.toList_eraseIdx, List.eraseIdx_eq_take_drop_succ]
      have : vs.toList.drop (vs.size - 1 + 1) = [] := by rw [List.drop_eq_nil_iff]; rw [Array.length_toList]; (first | lia | omega)
      rw [this, List.append_nil, ← e1, Nat.add_sub_cancel]
    · (first | lia | omega)
  rw [e3]
  have := hls.take ls.length
  rwa [List.take_left] at this
theorem r_lenL {ls : List LV} (c : Cfg w Z b₀ P L loc tmp tt s) (hm : (a, .list ls) ∈ tmp ++ P.objs) (hz : ls.length ≤ 1000000) (h : ∀ t s', Cfg w Z b₀ P L loc tmp tt s' → Q (.int (ls.length : Nat) t) s') :
    wpAny (model prg w) A (call (.builtin "len") [.ref a]) Q E s := by
  obtain ⟨vs, hl, hls⟩ := c.isList hm
  have e1 := hls.size
  refine call_len_list hl (by (first | lia | omega)) ?_
  rw [← e1]
  exact h _ _ (c.tok' _)
theorem r_addL {b : Addr} {ls ms : List LV} (c : Cfg w Z b₀ P L loc tmp tt s) (ha : (a, .list ls) ∈ tmp ++ P.objs) (hb : (b, .list ms) ∈ tmp ++ P.objs) (hz : ls.length + ms.length ≤ 1000000)
    (h : ∀ d s', Cfg w Z b₀ P L loc ((d, .list (ls ++ ms)) :: tmp) tt s' → Q (.ref d) s') : wpAny (model prg w) A (binaryOp .Add (.ref a) (.ref b)) Q E s := by
  obtain ⟨vs, n, hl, hls⟩ := c.isL ha
  obtain ⟨us, n2, hl2, hms⟩ := c.isL hb
  have e1 := hls.size
  have e2 := hms.size
  refine PySem.P.add_list hl hl2 (h _ _ (c.new (fun b o e => Heap.get?_push_of_some _ e) (new_size _) ⟨_, Heap.get?_push_size _ rfl, _, _, rfl, by rw [Array.toList_append]; exact hls.append hms⟩)) (by rw [sizeLine_eq]; (first | lia | omega))
theorem r_newL {vs : List Value} {ls : List LV} (c : Cfg w Z b₀ P L loc tmp tt s) (hv : All2 LV.is ls vs) (hz : ls.length ≤ 1000000)
    (h : ∀ d s', Cfg w Z b₀ P L loc ((d, .list ls) :: tmp) tt s' → Q (.ref d) s') : wpAny (model prg w) A (newList vs) Q E s := by
  have := hv.length
  exact wpAny_newObj_type (h _ _ (c.new (fun b o e => Heap.get?_push_of_some _ e) (new_size _) ⟨_, Heap.get?_push_size _ rfl, _, _, rfl, by simpa using hv⟩)) (by show vs.toArray.size ≤ sizeLine; rw [List.size_toArray, sizeLine_eq]; (first | lia | omega))
theorem r_newT {vs : List Value} {ls : List LV} (c : Cfg w Z b₀ P L loc tmp tt s) (hv : All2 LV.is ls vs) (hz : ls.length ≤ 1000000)
    (h : ∀ d s', Cfg w Z b₀ P L loc tmp ((d, ls) :: tt) s' → Q (.ref d) s') : wpAny (model prg w) A (newTuple vs) Q E s := by
  have := hv.length
  exact wpAny_newObj_type (h _ _ (c.newTup (fun b o e => Heap.get?_push_of_some _ e) ⟨_, _, _, Heap.get?_push_size _ rfl, rfl, rfl, by simpa using hv⟩)) (by show vs.toArray.size ≤ sizeLine; rw [List.size_toArray, sizeLine_eq]; (first | lia | omega))
end
end
section
section
variable {w : World} {K : Type} [DecidableEq K] {knd : KeyKind prg w K}
theorem dictOf_any {h : Heap} {a : Addr} {kvs : List (K × Value)} (x : h.DictOf knd a kvs) : ∃ o, h.get? a = some o ∧ (∀ (h' : Heap) (a' : Addr), h'.get? a' = some o → h'.DictOf knd a' kvs) ∧ o.ExactDict := by
  obtain ⟨o, es, ep, h1, h2, r⟩ := x
  exact ⟨o, h1, fun h' a' e => ⟨o, es, ep, e, h2, r⟩, h2⟩
noncomputable def putK {V : Type} (kvs : List (K × V)) (k : K) (v : V) : List (K × V) :=
  if kvs.any (fun kv => kv.1 = k) then kvs.map (fun kv => if kv.1 = k then (kv.1, v) else kv) else kvs ++ [(k, v)]
noncomputable def dropK {V : Type} (kvs : List (K × V)) (k : K) : List (K × V) := kvs.filter fun kv => decide (kv.1 ≠ k)
abbrev Kv : (K × LV) → (K × Value) → Prop := fun x y => x.1 = y.1 ∧ x.2.is y.2
theorem kv_put {kvs : List (K × LV)} {ys : List (K × Value)} (h : All2 Kv kvs ys) {k : K} {l : LV} {v : Value} (hv : l.is v) : All2 Kv (putK kvs k l) (stored ys k v) := by
  have e : (kvs.any fun kv => kv.1 = k) = ys.any fun kv => kv.1 = k := by
    induction h with
    | nil => rfl
    | cons a _ ih => simp only [List.any_cons, ih, a.1]
  unfold putK stored
  rw [e]
  split
  · rename_i hq
    clear e hq
    induction h with
    | nil => exact .nil
    | @cons x y _ _ a _ ih =>
      refine .cons ?_ ih
      dsimp only
      by_cases hx : x.1 = k
      · rw [if_pos hx, if_pos (a.1 ▸ hx)]; exact ⟨a.1, hv⟩
      · rw [if_neg hx, if_neg (a.1 ▸ hx)]; exact a
  · exact h.snoc ⟨rfl, hv⟩
theorem kv_drop {kvs : List (K × LV)} {ys : List (K × Value)} (h : All2 Kv kvs ys) (k : K) : All2 Kv (dropK kvs k) (without ys k) := by
  unfold dropK without
  induction h with
  | nil => exact .nil
  | @cons x y _ _ a _ ih =>
    by_cases hx : x.1 = k
    · have hy : y.1 = k := a.1 ▸ hx
      simp only [List.filter_cons, hx, hy, ne_eq, not_true, decide_false, Bool.false_eq_true, if_false]; exact ih
    · have hy : ¬ y.1 = k := a.1 ▸ hx
      simp only [List.filter_cons, hx, hy, ne_eq, not_false_eq_true, decide_true, if_true]; exact .cons a ih
theorem kv_get {kvs : List (K × LV)} {ys : List (K × Value)} (h : All2 Kv kvs ys) {k : K} {l : LV} (hk : kvs.lookup k = some l) : ∃ v, valueAt ys k = some v ∧ l.is v := by
  unfold valueAt
  induction h with
  | nil => cases hk
  | @cons x y _ _ a _ ih =>
    by_cases hx : x.1 = k
    · have hb : (k == x.1) = true := by simp [hx]
      rw [List.lookup_cons, hb] at hk
      cases hk
      exact ⟨y.2, by simp [a.1 ▸ hx], a.2⟩
    · have hb : (k == x.1) = false := by simpa using fun e => hx e.symm
      rw [List.lookup_cons, hb] at hk
      obtain ⟨v, h1, h2⟩ := ih hk
      exact ⟨v, by have hy : ¬ y.1 = k := a.1 ▸ hx
                   simpa [hy] using h1, h2⟩
theorem kv_none {kvs : List (K × LV)} {ys : List (K × Value)} (h : All2 Kv kvs ys) {k : K} : (valueAt ys k).isSome = (kvs.lookup k).isSome := by
  unfold valueAt
  induction h with
  | nil => rfl
  | @cons x y _ _ a _ ih =>
    by_cases hx : x.1 = k
    · have hb : (k == x.1) = true := by simp [hx]
      rw [List.lookup_cons, hb]
      simp [a.1 ▸ hx]
    · have hb : (k == x.1) = false := by simpa using fun e => hx e.symm
      rw [List.lookup_cons, hb]
      have hy : ¬ y.1 = k := a.1 ▸ hx
      simpa [hy] using ih
end

section
variable {w : World} {Z : Heap} {b₀ : Shared} {P P' : Pers} {L a y C : Addr} {loc loc' : List (Str × LV)} {tmp tmp' : List (Addr × G)} {tt tt' : List (Addr × List LV)} {s s' : Shared} {h' : Heap} {tk : Nat} {g g' : G}
  {A : Around} {E : Value → Shared → Prop} {env : Env} {x : Str} {pos : Pos} {Q : Value → Shared → Prop} {QU : Unit → Shared → Prop} {QF : Flow → Shared → Prop} {n : Nat} {fs : List (Str × Value)}

theorem Cfg.isDI {kvs : List (Int × LV)} (c : Cfg w Z b₀ P L loc tmp tt s) (hm : (a, .dictI kvs) ∈ tmp ++ P.objs) : ∃ ys, s.heap.DictOf (intKind prg w) a ys ∧ All2 Kv kvs ys := by
  obtain ⟨o, h1, ys, h2, h3, _⟩ := c.at hm
  exact ⟨ys, h2 _ _ h1, h3⟩
theorem Cfg.isDS {kvs : List (Str × LV)} (c : Cfg w Z b₀ P L loc tmp tt s) (hm : (a, .dictS kvs) ∈ tmp ++ P.objs) : ∃ ys, s.heap.DictOf (PySem.strKind prg w) a ys ∧ All2 Kv kvs ys := by
  obtain ⟨o, h1, ys, h2, h3, _⟩ := c.at hm
  exact ⟨ys, h2 _ _ h1, h3⟩
theorem is_int {k : Int} {t : Tok} : (intKind prg w).is k (.int k t) = true := by simp [intKind, Value.isInt]
theorem is_str {k : Str} {t : Tok} : (PySem.strKind prg w).is k (.str k t) = true := by simp [PySem.strKind, Value.isStrOf]

theorem r_getDI {kvs : List (Int × LV)} {value slice : Expr} {k : Int} {t : Tok} {l : LV} (c : Cfg w Z b₀ P L loc tmp tt s) (hm : (a, .dictI kvs) ∈ tmp ++ P.objs) (hk : kvs.lookup k = some l) (h : ∀ v s', l.is v → Cfg w Z b₀ P L loc tmp tt s' → Q v s')
    (hs : subscripted slice false (.ref a) (.int k t) = operate [.ref a, .int k t] (getItem (.ref a) (.int k t)) := by with_unfolding_all rfl) :
    wpAny (model prg w) A (subscriptTail value slice (.ref a) (.int k t)) Q E s := by
  obtain ⟨ys, hd, h2⟩ := c.isDI hm
  obtain ⟨v, h3, h4⟩ := kv_get h2 hk
  exact tail_any hd.typeIs slot_dict_getitem.lookup (wpAny_getItem_of (knd := intKind prg w) is_int hd.mapOf h3 (h v _ h4 c.tok)) hs
theorem r_getDS {kvs : List (Str × LV)} {value slice : Expr} {k : Str} {t : Tok} {l : LV} (c : Cfg w Z b₀ P L loc tmp tt s) (hm : (a, .dictS kvs) ∈ tmp ++ P.objs) (hk : (k, l) ∈ kvs) (hn : (kvs.map (·.1)).Nodup) (h : ∀ v s', l.is v → Cfg w Z b₀ P L loc tmp tt s' → Q v s')
    (hs : subscripted slice false (.ref a) (.str k t) = operate [.ref a, .str k t] (getItem (.ref a) (.str k t)) := by with_unfolding_all rfl) :
    wpAny (model prg w) A (subscriptTail value slice (.ref a) (.str k t)) Q E s := by
  obtain ⟨ys, hd, h2⟩ := c.isDS hm
  have hk' : kvs.lookup k = some l := by
    clear h2 hm
    induction kvs with
    | nil => cases hk
    | cons p r ih =>
      rw [List.map_cons, List.nodup_cons] at hn
      rcases List.mem_cons.mp hk with rfl | hk
      · simp
      · have : (k == p.1) = false := beq_eq_false_iff_ne.mpr fun e => hn.1 (e ▸ List.mem_map.mpr ⟨_, hk, rfl⟩)
        rw [List.lookup_cons, this]; exact ih hk hn.2
  obtain ⟨v, h3, h4⟩ := kv_get h2 hk'
  exact tail_any hd.typeIs slot_dict_getitem.lookup (wpAny_getItem_of (knd := PySem.strKind prg w) is_str hd.mapOf h3 (h v _ h4 c.tok)) hs

theorem r_setDI {kvs : List (Int × LV)} {k : Int} {t : Tok} {l : LV} {v : Value} (c : Cfg w Z b₀ P L loc tmp tt s) (U : Put (tmp ++ P.objs) a (.dictI kvs) (.dictI (putK kvs k l)) (tmp' ++ P'.objs)) (et : ∀ p ∈ tt ++ P'.tups, p ∈ tt ++ P.tups) (hv : l.is v) (hz : kvs.length ≤ 1000000)
    (h : ∀ s', Cfg w Z b₀ P' L loc tmp' tt s' → QU () s') : wpAny (model prg w) A (setItem (.ref a) (.int k t) v) QU E s := by
  obtain ⟨ys, hd, h2⟩ := c.isDI U.mem
  have e := h2.length
  refine wpAny_setItem_pairs (knd := intKind prg w) is_int hd (fun h' hd' hs => ?_) (by rw [sizeLine_eq]; (first | lia | omega))
  obtain ⟨o, h3, h4, h5⟩ := dictOf_any hd'
  exact h _ (c.chg U et hs.extBut ⟨o, h3, _, h4, kv_put h2 hv, h5⟩)
theorem r_setDS {kvs : List (Str × LV)} {k : Str} {t : Tok} {l : LV} {v : Value} (c : Cfg w Z b₀ P L loc tmp tt s) (U : Put (tmp ++ P.objs) a (.dictS kvs) (.dictS (putK kvs k l)) (tmp' ++ P'.objs)) (et : ∀ p ∈ tt ++ P'.tups, p ∈ tt ++ P.tups) (hv : l.is v) (hz : kvs.length ≤ 1000000)
    (h : ∀ s', Cfg w Z b₀ P' L loc tmp' tt s' → QU () s') : wpAny (model prg w) A (setItem (.ref a) (.str k t) v) QU E s := by
  obtain ⟨ys, hd, h2⟩ := c.isDS U.mem
  have e := h2.length
  refine wpAny_setItem_pairs (knd := PySem.strKind prg w) is_str hd (fun h' hd' hs => ?_) (by rw [sizeLine_eq]; (first | lia | omega))
  obtain ⟨o, h3, h4, h5⟩ := dictOf_any hd'
  exact h _ (c.chg U et hs.extBut ⟨o, h3, _, h4, kv_put h2 hv, h5⟩)

theorem r_methD {id : String} {pl : Sem Bool} {QM : Value × List Value → Shared → Prop} (c : Cfg w Z b₀ P L loc tmp tt s) (hm : (a, g) ∈ tmp ++ P.objs) (hg : ∀ o, g.is w o → o.cls = .type "dict" ∧ o.dict = none) (slot : Slot "dict" x id) (hty : typeOf (.builtin id) = pure (.type "method_descriptor"))
    (h : QM (.builtin id, [.ref a]) s) : wpAny (model prg w) A (getMethod (.ref a) x pl) QM E s := by
  obtain ⟨o, h1, h2⟩ := c.at hm
  exact getMethod_builtin ⟨o, h1, (hg o h2).1⟩ PySem.F.plainAttrs_dict slot hty (fun b e => by cases e; exact ⟨o, h1, (hg o h2).2⟩) h
theorem dI_dict {kvs : List (Int × LV)} (o : Obj) (h : (G.dictI kvs).is w o) : o.cls = .type "dict" ∧ o.dict = none := let ⟨_, _, _, h⟩ := h; ⟨h.1, h.2.1⟩
theorem dT_dict {xs : List (List Atom × Addr × LV)} (o : Obj) (h : (G.dictT xs).is w o) : o.cls = .type "dict" ∧ o.dict = none := ⟨h.1.1, h.1.2.1⟩

theorem r_notinDI {kvs : List (Int × LV)} {k : Int} {t : Tok} (c : Cfg w Z b₀ P L loc tmp tt s) (B : Base w Z) (hm : (a, .dictI kvs) ∈ tmp ++ P.objs) (h : ∀ s', Cfg w Z b₀ P L loc tmp tt s' → Q (.bool (!(kvs.lookup k).isSome)) s') :
    wpAny (model prg w) A (compareOp .NotIn (.int k t) (.ref a)) Q E s := by
  obtain ⟨ys, hd, h2⟩ := c.isDI hm
  have e := kv_none h2 (k := k)
  exact wpAny_notIn_of (knd := intKind prg w) is_int (c.notSM B hm) hd.mapOf (by rw [e]; exact h _ c.tok)
theorem r_popDI {kvs : List (Int × LV)} {k : Int} {t : Tok} {l : LV} (c : Cfg w Z b₀ P L loc tmp tt s) (hk : kvs.lookup k = some l) (U : Put (tmp ++ P.objs) a (.dictI kvs) (.dictI (dropK kvs k)) (tmp' ++ P'.objs)) (et : ∀ p ∈ tt ++ P'.tups, p ∈ tt ++ P.tups) (hz : kvs.length ≤ 1000000)
    (h : ∀ v s', l.is v → Cfg w Z b₀ P' L loc tmp' tt s' → Q v s') : wpAny (model prg w) A (call (.builtin "dict.pop") [.ref a, .int k t]) Q E s := by
  obtain ⟨ys, hd, h2⟩ := c.isDI U.mem
  have e := h2.length
  obtain ⟨v, h3, h4⟩ := kv_get h2 hk
  refine call_meetsIn PySem.F.slot_dict_pop hd.typeIs PySem.F.entry_dict_pop (PySem.F.args_dict_pop_2 _ _) (meets_dict_pop_there (intKind prg w) a is_int [] (.inl rfl) rfl) ⟨ys, v, hd, by rw [sizeLine_eq]; (first | lia | omega), h3, fun h' hd' hs => ?_⟩
  obtain ⟨o, h5, h6, h7⟩ := dictOf_any hd'
  exact h v _ h4 (c.chg U et hs.extBut ⟨o, h5, _, h6, kv_drop h2 k, h7⟩)
theorem r_inL {ns : List Int} {k : Int} {t : Tok} (c : Cfg w Z b₀ P L loc tmp tt s) (hm : (a, .list (ns.map .int)) ∈ tmp ++ P.objs) (h : Q (.bool (ns.any (· == k))) s) :
    wpAny (model prg w) A (compareOp .In (.int k t) (.ref a)) Q E s := by
  obtain ⟨vs, hl, hv⟩ := c.isList hm
  exact in_list_ints (vs := vs.toList) (by simpa using hl) (ints_of hv) h

abbrev Kt : (List Atom × Addr × LV) → (List Atom × Addr × Value) → Prop := fun x y => x.1 = y.1 ∧ x.2.1 = y.2.1 ∧ x.2.2.is y.2.2
noncomputable def lookT (xs : List (List Atom × Addr × LV)) (k : List Atom) : Option LV := (xs.find? fun x => decide (x.1 = k)).map (·.2.2)
theorem kt_keys {xs : List (List Atom × Addr × LV)} {ys : List (List Atom × Addr × Value)} (h : All2 Kt xs ys) : xs.map (·.1) = ys.map (·.1) := by
  induction h with
  | nil => rfl
  | cons a _ ih => simp [ih, a.1]
theorem kt_look {xs : List (List Atom × Addr × LV)} {ys : List (List Atom × Addr × Value)} (h : All2 Kt xs ys) {k : List Atom} {l : LV} (hk : lookT xs k = some l) : ∃ p, atKey ys k = some p ∧ l.is p.2 := by
  unfold lookT at hk
  unfold atKey
  induction h with
  | nil => cases hk
  | @cons x y _ _ a _ ih =>
    by_cases hx : x.1 = k
    · simp only [List.find?_cons, hx, decide_true, Option.map_some, Option.some.injEq] at hk
      subst hk
      exact ⟨y.2, by simp [a.1 ▸ hx], a.2.2⟩
    · have hy : ¬ y.1 = k := a.1 ▸ hx
      simp only [List.find?_cons, hx, decide_false] at hk
      obtain ⟨p, h1, h2⟩ := ih hk
      exact ⟨p, by simpa [List.find?_cons, hy] using h1, h2⟩
theorem kt_none {xs : List (List Atom × Addr × LV)} {ys : List (List Atom × Addr × Value)} (h : All2 Kt xs ys) {k : List Atom} : (atKey ys k).isSome = (lookT xs k).isSome := by
  unfold lookT atKey
  induction h with
  | nil => rfl
  | @cons x y _ _ a _ ih =>
    by_cases hx : x.1 = k
    · simp [hx, a.1 ▸ hx]
    · have hy : ¬ y.1 = k := a.1 ▸ hx
      simpa [List.find?_cons, hx, hy] using ih
theorem Cfg.isDT {xs : List (List Atom × Addr × LV)} (c : Cfg w Z b₀ P L loc tmp tt s) (hm : (a, .dictT xs) ∈ tmp ++ P.objs) (hk : ∀ x ∈ xs, (x.2.1, x.1.map Atom.lv) ∈ tt ++ P.tups) : ∃ ys, s.heap.DictOfH (tupK w) a ys ∧ All2 Kt xs ys := by
  obtain ⟨o, h1, hx, ys, es, ep, hd, he, hn, h2⟩ := c.at hm
  refine ⟨ys, ⟨o, es, ep, h1, hx, hd, he, fun y hy => ?_, by rw [← kt_keys h2]; exact hn⟩, h2⟩
  obtain ⟨x, hx, e1, e2, _⟩ := h2.mem_right hy
  have := (c.tup _ (hk x hx)).key (w := w)
  rw [← e1, ← e2]; exact this
theorem dictT_any {h : Heap} {ys : List (List Atom × Addr × Value)} {xs : List (List Atom × Addr × LV)} (x : h.DictOfH (tupK w) a ys) (h2 : All2 Kt xs ys) : ∃ o, h.get? a = some o ∧ (G.dictT xs).is w o := by
  obtain ⟨o, es, ep, h1, hx, hd, he, _, hn⟩ := x
  exact ⟨o, h1, hx, ys, es, ep, hd, he, by rw [kt_keys h2]; exact hn, h2⟩
theorem tupK_room {r : Room (n + 1) A} : (tupK w).room A.in1 := by show A.units + 1 < cLine; have := r.u; (first | lia | omega)

theorem r_inDT {xs : List (List Atom × Addr × LV)} {b : Addr} {k : List Atom} (c : Cfg w Z b₀ P L loc tmp tt s) (B : Base w Z) (r : Room (n + 1) A) (hm : (a, .dictT xs) ∈ tmp ++ P.objs) (hk : ∀ x ∈ xs, (x.2.1, x.1.map Atom.lv) ∈ tt ++ P.tups)
    (hb : (b, k.map Atom.lv) ∈ tt ++ P.tups) (h : ∀ s', Cfg w Z b₀ P L loc tmp tt s' → Q (.bool (lookT xs k).isSome) s') : wpAny (model prg w) A (compareOp .In (.ref b) (.ref a)) Q E s := by
  obtain ⟨ys, hd, h2⟩ := c.isDT hm hk
  exact wpAny_in_heap (knd := tupK w) (tupK_room (r := r)) (c.tup _ hb).key (c.notSM B hm) hd (by rw [kt_none h2]; exact h _ c.tok)
theorem r_getDT {xs : List (List Atom × Addr × LV)} {value slice : Expr} {b : Addr} {k : List Atom} {l : LV} (c : Cfg w Z b₀ P L loc tmp tt s) (r : Room (n + 1) A) (hm : (a, .dictT xs) ∈ tmp ++ P.objs) (hk : ∀ x ∈ xs, (x.2.1, x.1.map Atom.lv) ∈ tt ++ P.tups)
    (hb : (b, k.map Atom.lv) ∈ tt ++ P.tups) (hl : lookT xs k = some l) (h : ∀ v s', l.is v → Cfg w Z b₀ P L loc tmp tt s' → Q v s')
    (hs : subscripted slice false (.ref a) (.ref b) = operate [.ref a, .ref b] (getItem (.ref a) (.ref b)) := by with_unfolding_all rfl) :
    wpAny (model prg w) A (subscriptTail value slice (.ref a) (.ref b)) Q E s := by
  obtain ⟨ys, hd, h2⟩ := c.isDT hm hk
  obtain ⟨p, h3, h4⟩ := kt_look h2 hl
  exact tail_any hd.typeIs slot_dict_getitem.lookup (wpAny_getItem_heap (knd := tupK w) (tupK_room (r := r)) (c.tup _ hb).key hd h3 (h p.2 _ h4 c.tok)) hs
theorem storedH_none {ys : List (List Atom × Addr × Value)} {k : List Atom} (h : (atKey ys k).isSome = false) (b : Addr) (v : Value) : storedH ys k b v = ys ++ [(k, b, v)] := storedH_new (by simpa using h) b v
theorem r_setDT {xs : List (List Atom × Addr × LV)} {b : Addr} {k : List Atom} {l : LV} {v : Value} (c : Cfg w Z b₀ P L loc tmp tt s) (r : Room (n + 1) A) (hk : ∀ x ∈ xs, (x.2.1, x.1.map Atom.lv) ∈ tt ++ P.tups)
    (hb : (b, k.map Atom.lv) ∈ tt ++ P.tups) (hl : lookT xs k = none) (U : Put (tmp ++ P.objs) a (.dictT xs) (.dictT (xs ++ [(k, b, l)])) (tmp' ++ P'.objs)) (et : ∀ p ∈ tt ++ P'.tups, p ∈ tt ++ P.tups) (hv : l.is v) (hz : xs.length ≤ 1000000)
    (h : ∀ s', Cfg w Z b₀ P' L loc tmp' tt s' → QU () s') : wpAny (model prg w) A (setItem (.ref a) (.ref b) v) QU E s := by
  obtain ⟨ys, hd, h2⟩ := c.isDT U.mem hk
  have e := h2.length
  have e2 : (atKey ys k).isSome = false := by rw [kt_none h2, hl]; rfl
  refine wpAny_setItem_heap (knd := tupK w) (tupK_room (r := r)) (c.tup _ hb).key hd (fun h' hd' hs => ?_) (by rw [sizeLine_eq]; (first | lia | omega))
  rw [storedH_none e2] at hd'
  exact h _ (c.chg U et hs.extBut (dictT_any hd' (h2.snoc ⟨rfl, rfl, hv⟩)))

theorem dsd_heap {knd : HeapKind prg w (List Atom)} {d b : Addr} {ys : List (List Atom × Addr × Value)} {k : List Atom} {v : Value} (hu : knd.room A) (hkey : knd.is s.heap k b) (hm : s.heap.DictOfH knd d ys)
    (hold : ∀ p, atKey ys k = some p → Q p.2 { s with toks := s.toks + knd.draws k })
    (hnew : atKey ys k = none → ∀ h', h'.DictOfH knd d (ys ++ [(k, b, v)]) → Heap.SameBut d s.heap h' → Q v { s with heap := h', toks := s.toks + knd.draws k }) (hsz : ys.length ≤ sizeLine) :
    wpAny (model prg w) A (dictSetDefault d (.ref b) v) Q E s := by
  obtain ⟨o, es, ep, ho, hc, hd, he, his, hn⟩ := hm
  unfold dictSetDefault
  refine wpAny_holding ?_
  refine wpAny_bind (knd.pyHash hu hkey ?_)
  refine wpAny_bind (wpAny_dictFind_heap (s := { s with toks := s.toks + knd.draws k }) hu hkey ho hd he his hn ?_ ?_)
  · intro hno
    have hnot : k ∉ ys.map (·.1) := not_mem_keys_of_get hno
    refine wpAny_bind (wpAny_rule (wpAny_bind (wpAny_updateDictKeys (hz := by have e := size_of_entries he; (first | lia | omega)) (s := { s with toks := s.toks + knd.draws k }) ho hd (wpAny_pure (hnew (atKey_none_of_get hno) _ ⟨_, _, ep + 1, Heap.get?_update_self _ ho (Obj.isFreed_of_dict (Obj.data_mapDictKeys hd _)),
      hc.mapDictKeys _, Obj.data_mapDictKeys hd _, ?_, ?_, ?_⟩ (Heap.SameBut.update ..))))))
    · simp [he, entryOfKey]
    · intro x hx
      rcases List.mem_append.mp hx with hx | hx
      · exact knd.keeps (his x hx) ho hd (Heap.SameBut.update ..)
      · rw [List.mem_singleton] at hx
        subst hx
        exact knd.keeps hkey ho hd (Heap.SameBut.update ..)
    · rw [List.map_append, List.nodup_append]
      refine ⟨hn, by simp, fun x hx y hy => ?_⟩
      simp only [List.map_cons, List.map_nil, List.mem_singleton] at hy
      subst hy
      exact fun e => hnot (e ▸ hx)
  · intro j p hj
    refine wpAny_bind (wpAny_dictEntries (s := { s with toks := s.toks + knd.draws k }) ho hd ?_)
    rw [entry_at he j, hj]
    exact wpAny_bind (wpAny_rule (wpAny_pure (hold p (atKey_of_get hn hj))))

theorem r_sdDT {xs : List (List Atom × Addr × LV)} {b : Addr} {k : List Atom} {l : LV} {v : Value} (c : Cfg w Z b₀ P L loc tmp tt s) (B : Base w Z) (r : Room (n + 1) A) (hk : ∀ x ∈ xs, (x.2.1, x.1.map Atom.lv) ∈ tt ++ P.tups)
    (hb : (b, k.map Atom.lv) ∈ tt ++ P.tups) (U : Put (tmp ++ P.objs) a (.dictT xs) (.dictT (xs ++ [(k, b, l)])) (tmp' ++ P'.objs)) (et : ∀ p ∈ tt ++ P'.tups, p ∈ tt ++ P.tups) (hv : l.is v) (hz : xs.length ≤ 1000000)
    (hold : ∀ l' v' s', lookT xs k = some l' → l'.is v' → Cfg w Z b₀ P L loc tmp tt s' → Q v' s')
    (hnew : lookT xs k = none → ∀ s', Cfg w Z b₀ P' L loc tmp' tt s' → Q v s') : wpAny (model prg w) A (call (.builtin "dict.setdefault") [.ref a, .ref b, v]) Q E s := by
  obtain ⟨ys, hd, h2⟩ := c.isDT U.mem hk
  have e := h2.length
  have hsm := c.notSM B U.mem
  refine wpAny_call_entry PySem.F.slot_dict_setdefault hd.typeIs PySem.F.entry_dict_setdefault ?_ (PySem.F.args_dict_setdefault_3 _ _ _)
  unfold Builtin.«dict.setdefault»
  refine wpAny_bind ?_
  unfold Builtin.Dict.keyAndDefault
  refine wpAny_bind (wpAny_notOrdered_dict hd.typeIs ?_)
  show wpAny _ _ (pure (a, Value.ref b, some v)) _ _ s
  refine wpAny_pure ?_
  show wpAny _ _ (if (a == sysModules) = true then _ else (dictSetDefault a (Value.ref b) v >>= _)) _ _ s
  rw [if_neg (by rw [hsm]; exact Bool.false_ne_true)]
  refine wpAny_bind (dsd_heap (knd := tupK w) (tupK_room (r := r)) (c.tup _ hb).key hd (fun p hp => ?_) (fun hno h' hd' hs => ?_) (by rw [sizeLine_eq]; (first | lia | omega)))
  · have hs : (lookT xs k).isSome = true := by rw [← kt_none h2, hp]; rfl
    obtain ⟨l', hl'⟩ := Option.isSome_iff_exists.mp hs
    obtain ⟨p', hp', hq⟩ := kt_look h2 hl'
    rw [hp] at hp'; cases hp'
    exact wpAny_pure ⟨_, rfl, hold l' p.2 _ hl' hq c.tok⟩
  · have hls : lookT xs k = none := by
      have := kt_none h2 (k := k)
      rw [hno] at this
      simpa using this.symm
    exact wpAny_pure ⟨_, rfl, hnew hls _ (c.chg U et hs.extBut (dictT_any hd' (h2.snoc ⟨rfl, rfl, hv⟩)))⟩
end
end
section
abbrev F0 : Value → Shared → Prop := fun _ _ => False
section
variable {w : World} {Z : Heap} {b₀ : Shared} {P P' : Pers} {L a y C I : Addr} {loc loc' : List (Str × LV)} {tmp tmp' : List (Addr × G)} {tt tt' : List (Addr × List LV)} {s s' : Shared} {h' : Heap} {tk : Nat} {g g' : G}
  {A : Around} {E : Value → Shared → Prop} {env : Env} {x : Str} {pos px : Pos} {Q : Value → Shared → Prop} {QO : Option Value → Shared → Prop} {QU : Unit → Shared → Prop} {QF : Flow → Shared → Prop} {n : Nat} {fs : List (Str × Value)}

theorem Cfg.sub (c : Cfg w Z b₀ P L loc tmp tt s) (h : tmp'.Sublist tmp) (ht : ∀ p ∈ tt', p ∈ tt ++ P.tups) : Cfg w Z b₀ P L loc tmp' tt' s where
  keep := c.keep
  os := c.os
  gens := c.gens
  ns := c.ns
  nl := c.nl
  newL := c.newL
  led p hp := c.led p (by rcases List.mem_append.mp hp with hp | hp; exact List.mem_append_left _ (h.subset hp); exact List.mem_append_right _ hp)
  nd := List.Nodup.sublist (((h.append_right P.objs).map _).cons_cons L) c.nd
  tup p hp := c.tup p (by rcases List.mem_append.mp hp with hp | hp; exact ht p hp; exact List.mem_append_right _ hp)
theorem Cfg.subLoc (c : Cfg w Z b₀ P L loc tmp tt s) (h : loc'.map (·.1) = loc.map (·.1)) (hl : ∀ p ∈ loc', p.2 = .unset ∨ p ∈ loc) : Cfg w Z b₀ P L loc' tmp tt s :=
  { c with ns := let ⟨m, h1, h2⟩ := c.ns; ⟨m, h1, fun p hp => by rcases hl p hp with e | e; rw [e]; trivial; exact h2 p e⟩, nl := by rw [h]; exact c.nl }
theorem Cfg.uniq (c : Cfg w Z b₀ P L loc tmp tt s) (h : (a, g) ∈ tmp ++ P.objs) (h' : (a, g') ∈ tmp ++ P.objs) : g = g' := by
  have hn := (List.nodup_cons.mp c.nd).2
  generalize tmp ++ P.objs = l at h h' hn
  induction l with
  | nil => cases h
  | cons p l ih =>
    rw [List.map_cons, List.nodup_cons] at hn
    rcases List.mem_cons.mp h with e1 | h1
    · rcases List.mem_cons.mp h' with e | h2
      · cases e1; cases e; rfl
      · cases e1; exact absurd (List.mem_map.mpr ⟨_, h2, rfl⟩) hn.1
    · rcases List.mem_cons.mp h' with e2 | h2
      · cases e2; exact absurd (List.mem_map.mpr ⟨_, h1, rfl⟩) hn.1
      · exact ih h1 h2 hn.2
/-- an object turns, and nobody knows to what -/
theorem Cfg.lose {pre post : List (Addr × G)} (c : Cfg w Z b₀ P L loc (pre ++ (a, g) :: post) tt s) (hs : Heap.ExtBut a s.heap h') : Cfg w Z b₀ P L loc (pre ++ post) tt { s with heap := h', toks := tk } := by
  have hm : (a, g) ∈ (pre ++ (a, g) :: post) ++ P.objs := by simp
  obtain ⟨⟨o, ho, hgo⟩, hz⟩ := c.led _ hm
  have hp : (((pre ++ (a, g) :: post) ++ P.objs).map (·.1)).Perm (a :: ((pre ++ post) ++ P.objs).map (·.1)) := by
    have : (((a, g) :: ((pre ++ post) ++ P.objs)).map (·.1)) = a :: ((pre ++ post) ++ P.objs).map (·.1) := rfl
    rw [← this]
    refine List.Perm.map _ ?_
    rw [List.append_assoc, List.append_assoc]
    exact List.perm_middle
  have hn := List.nodup_cons.mp c.nd
  have hn2 := List.nodup_cons.mp (hp.nodup_iff.mp hn.2)
  have hsub : ∀ p ∈ (pre ++ post) ++ P.objs, p ∈ (pre ++ (a, g) :: post) ++ P.objs := fun p hp => by
    simp only [List.append_assoc, List.cons_append, List.mem_append, List.mem_cons] at hp ⊢
    rcases hp with h | h | h
    · exact .inl h
    · exact .inr (.inr (.inl h))
    · exact .inr (.inr (.inr h))
  refine ⟨fun b ob e => hs b ob (fun q => ?_) (c.keep b ob e), c.os, c.gens, ?_, c.nl, c.newL, fun p hp' => ?_, ?_, fun p hp' => ?_⟩
  · rw [q, hz.1] at e; cases e
  · obtain ⟨m, h1, h2⟩ := c.ns
    exact ⟨m, h1.extBut hs (fun e => hn.1 (by rw [e]; exact List.mem_map_of_mem hm)), h2⟩
  · obtain ⟨⟨o', h3, h4⟩, h5⟩ := c.led p (hsub p hp')
    exact ⟨⟨o', hs _ _ (fun e => hn2.1 (e ▸ List.mem_map_of_mem hp')) h3, h4⟩, h5⟩
  · rw [List.nodup_cons]
    refine ⟨fun hm' => hn.1 ?_, hn2.2⟩
    obtain ⟨p, hp', e⟩ := List.mem_map.mp hm'
    exact e ▸ List.mem_map_of_mem (hsub p hp')
  · obtain ⟨ot, items, n, h1, h2, r⟩ := c.tup p hp'
    refine ⟨ot, items, n, hs _ _ (fun e => ?_) h1, h2, r⟩
    rw [e, ho] at h1
    cases h1
    exact G.notTup hgo h2 r.1

/-- the frame that runs and one that waits change places -/
theorem Cfg.swap {fo : Obj} {L₂ : Addr} {loc₂ : List (Str × LV)} {pre post : List (Addr × G)} (B : Back w Z b₀ L loc fo) (c : Cfg w Z b₀ P L₂ loc₂ (pre ++ (L, .obj fo) :: post) tt s) :
    ∃ co m, (∀ h : Heap, h.get? L₂ = some co → h.Ns L₂ m) ∧ Cfg w Z b₀ P L loc ((L₂, .obj co) :: (pre ++ post)) tt s := by
  have c' := B _ _ _ _ _ _ _ c
  obtain ⟨m, ⟨o, es, ep, h1, h2, h3, h4⟩, _⟩ := c.ns
  have hn := List.nodup_cons.mp c.nd
  have hLm : (L, G.obj fo) ∈ (pre ++ (L, .obj fo) :: post) ++ P.objs := by simp
  refine ⟨o, m, fun h e => ⟨o, es, ep, e, h2, h3, h4⟩, { c' with led := fun p hp => ?_, nd := ?_ }⟩
  · rcases List.mem_cons.mp hp with rfl | hp
    · exact ⟨⟨o, h1, rfl, fun i n e => by rw [h2] at e; cases e⟩, c.newL⟩
    · exact c'.led p hp
  · have hn' := List.nodup_cons.mp c'.nd
    show (L :: L₂ :: ((pre ++ post) ++ P.objs).map (·.1)).Nodup
    rw [List.nodup_cons, List.nodup_cons]
    refine ⟨fun hm => ?_, fun hm => hn.1 ?_, hn'.2⟩
    · rcases List.mem_cons.mp hm with e | hm
      · exact hn.1 (e ▸ List.mem_map_of_mem hLm)
      · exact hn'.1 hm
    · obtain ⟨p, hp, e⟩ := List.mem_map.mp hm
      refine e ▸ List.mem_map_of_mem ?_
      simp only [List.append_assoc, List.cons_append, List.mem_append, List.mem_cons] at hp ⊢
      rcases hp with h | h | h
      · exact .inl h
      · exact .inr (.inr (.inl h))
      · exact .inr (.inr (.inr h))

structure Nx (w : World) (Z : Heap) (b₀ : Shared) (I : Addr) (xs : List LV) (g : Nat → G) (need : Pers → List (Addr × G) → List (Addr × List LV) → Prop) : Prop where
  item : ∀ {P L loc tmp tmp' tt s A} {Q : Option Value → Shared → Prop} {E} {i : Nat} {l : LV}, A.handled = none → Cfg w Z b₀ P L loc tmp tt s → need P tmp tt → Put tmp I (g i) (g (i + 1)) tmp' → xs[i]? = some l →
    (∀ v s', l.is v → Cfg w Z b₀ P L loc tmp' tt s' → Q (some v) s') → wpAny (model prg w) A (pyNext (.ref I)) Q E s
  done : ∀ {P L loc pre post tt s A} {Q : Option Value → Shared → Prop} {E}, A.handled = none → Cfg w Z b₀ P L loc (pre ++ (I, g xs.length) :: post) tt s → need P (pre ++ (I, g xs.length) :: post) tt →
    (∀ s', Cfg w Z b₀ P L loc (pre ++ post) tt s' → Q none s') → wpAny (model prg w) A (pyNext (.ref I)) Q E s
  self : ∀ {P L loc tmp tt s A} {Q : Value → Shared → Prop} {E} {i : Nat}, Cfg w Z b₀ P L loc tmp tt s → (I, g i) ∈ tmp → Q (.ref I) s → wpAny (model prg w) A (pyIter (.ref I)) Q E s
noncomputable def NeedL (l : Addr) (xs : List LV) : Pers → List (Addr × G) → List (Addr × List LV) → Prop := fun P tmp _ => (l, .list xs) ∈ tmp ++ P.objs
noncomputable def NeedT (t : Addr) (xs : List LV) : Pers → List (Addr × G) → List (Addr × List LV) → Prop := fun P _ tt => (t, xs) ∈ tt ++ P.tups
noncomputable def NeedN : Pers → List (Addr × G) → List (Addr × List LV) → Prop := fun _ _ _ => True

theorem nx_list {l : Addr} {xs : List LV} : Nx w Z b₀ I xs (G.liter l) (NeedL l xs) where
  item hh c hn U hx h := by
    obtain ⟨o, ho, hc, hd⟩ := c.at (List.mem_append_left _ U.mem)
    obtain ⟨vs, hl, hv⟩ := c.isList hn
    obtain ⟨v, hv1, hv2⟩ := hv.get hx
    refine wpAny_pyNext_list_item ⟨o, ho, hc, hd⟩ hl (by simpa using hv1) fun h' hi hs => ?_
    obtain ⟨o', ho', hc', hd'⟩ := hi
    exact h v _ hv2 (c.chgT U hs.extBut ⟨o', ho', hc', hd'⟩)
  done hh c hn h := by
    obtain ⟨o, ho, hc, hd⟩ := c.at (a := I) (g := .liter l xs.length) (by simp)
    obtain ⟨vs, hl, hv⟩ := c.isList hn
    have e := hv.size
    exact wpAny_pyNext_list_end hh ⟨o, ho, hc, hd⟩ hl (by simp [e]) fun h' hs => h _ (c.lose hs)
  self c hm h := by
    obtain ⟨o, ho, hc, hd⟩ := c.at (List.mem_append_left _ hm)
    exact wpAny_pyIter_listiter ⟨o, ho, hc, hd⟩ h
theorem Cfg.isTup {t : Addr} {xs : List LV} (c : Cfg w Z b₀ P L loc tmp tt s) (hm : (t, xs) ∈ tt ++ P.tups) : ∃ vs, s.heap.IsTuple t vs ∧ All2 LV.is xs vs.toList := by
  obtain ⟨o, items, n, h1, h2, h3, h4⟩ := c.tup _ hm
  exact ⟨items, ⟨o, h1, h2, n, h3⟩, h4⟩
theorem nx_tup {t : Addr} {xs : List LV} : Nx w Z b₀ I xs (G.titer t) (NeedT t xs) where
  item hh c hn U hx h := by
    obtain ⟨o, ho, hc, hd⟩ := c.at (List.mem_append_left _ U.mem)
    obtain ⟨vs, hl, hv⟩ := c.isTup hn
    obtain ⟨v, hv1, hv2⟩ := hv.get hx
    refine wpAny_pyNext_tuple_item ⟨o, ho, hc, hd⟩ hl (by simpa using hv1) fun h' hi hs => ?_
    obtain ⟨o', ho', hc', hd'⟩ := hi
    exact h v _ hv2 (c.chgT U hs.extBut ⟨o', ho', hc', hd'⟩)
  done hh c hn h := by
    obtain ⟨o, ho, hc, hd⟩ := c.at (a := I) (g := .titer t xs.length) (by simp)
    obtain ⟨vs, hl, hv⟩ := c.isTup hn
    have e := hv.size
    exact wpAny_pyNext_tuple_end hh ⟨o, ho, hc, hd⟩ hl (by simp [e]) fun h' hs => h _ (c.lose hs)
  self c hm h := by
    obtain ⟨o, ho, hc, hd⟩ := c.at (List.mem_append_left _ hm)
    exact wpAny_pyIter_tupleiter ⟨o, ho, hc, hd⟩ h
noncomputable def rngL (a : Int) (n : Nat) : List LV := (List.range n).map fun (i : Nat) => .int (a + i)
theorem nx_range {a : Int} {n : Nat} : Nx w Z b₀ I (rngL a n) (fun i => .riter (a + i) (n - i)) NeedN where
  item {_ _ _ _ _ _ _ _ _ _ i l} hh c hn U hx h := by
    obtain ⟨o, ho, rfl⟩ := c.at (List.mem_append_left _ U.mem)
    have hi : i < n := by have := List.getElem?_eq_some_iff.mp hx; simpa [rngL] using this.1
    have hl : l = .int (a + i) := by simp [rngL, hi] at hx; exact hx.symm
    subst hl
    refine wpAny_pyNext_range_item ho (by (first | lia | omega)) fun h' hi' hs => h _ _ ⟨_, rfl⟩ (c.chgT U hs.extBut ⟨_, hi', ?_⟩)
    have e1 : (((n - i : Nat) : Int) - 1) = ((n - (i + 1) : Nat) : Int) := by (first | lia | omega)
    have e2 : a + (i : Int) + 1 = a + ((i + 1 : Nat) : Int) := by (first | lia | omega)
    show _ = _
    rw [e1, e2]
  done hh c hn h := by
    obtain ⟨o, ho, rfl⟩ := c.at (a := I) (g := .riter (a + (rngL a n).length) (n - (rngL a n).length)) (by simp)
    exact wpAny_pyNext_range_end hh ho (by simp [rngL]) fun h' hs => h _ (c.lose hs)
  self c hm h := by
    obtain ⟨o, ho, rfl⟩ := c.at (List.mem_append_left _ hm)
    exact wpAny_pyIter_rangeiter ho h

theorem r_iterL {l : Addr} {xs : List LV} (c : Cfg w Z b₀ P L loc tmp tt s) (hm : (l, .list xs) ∈ tmp ++ P.objs) (h : ∀ I s', Cfg w Z b₀ P L loc ((I, .liter l 0) :: tmp) tt s' → Q (.ref I) s') : wpAny (model prg w) A (pyIter (.ref l)) Q E s := by
  obtain ⟨vs, hl, hv⟩ := c.isList hm
  exact wpAny_pyIter_list hl (h _ _ (c.new (tk := s.toks) (fun b o e => Heap.get?_push_of_some _ e) (new_size _) ⟨_, Heap.get?_push_size _ rfl, rfl, rfl⟩))
theorem r_iterT {l : Addr} {xs : List LV} (c : Cfg w Z b₀ P L loc tmp tt s) (hm : (l, xs) ∈ tt ++ P.tups) (h : ∀ I s', Cfg w Z b₀ P L loc ((I, .titer l 0) :: tmp) tt s' → Q (.ref I) s') : wpAny (model prg w) A (pyIter (.ref l)) Q E s := by
  obtain ⟨vs, hl, hv⟩ := c.isTup hm
  exact wpAny_pyIter_tuple hl (h _ _ (c.new (tk := s.toks) (fun b o e => Heap.get?_push_of_some _ e) (new_size _) ⟨_, Heap.get?_push_size _ rfl, rfl, rfl⟩))
theorem r_norm {α : Type} {t : Sem α} {QA : α → Shared → Prop} (c : Cfg w Z b₀ P L loc tmp tt s) (h : ∀ s', Cfg w Z b₀ P L loc tmp tt s' → wpAny (model prg w) A t QA E s') : wpAny (model prg w) A t QA E s := h s c
end
end
section
section
variable {w : World} {Z : Heap} {b₀ : Shared} {P P' : Pers} {L a y C I : Addr} {loc loc' : List (Str × LV)} {tmp tmp' : List (Addr × G)} {tt tt' : List (Addr × List LV)} {s s' : Shared} {h' : Heap} {tk : Nat} {g : Nat → G}
  {A : Around} {E : Value → Shared → Prop} {env : Env} {x : Str} {pos px : Pos} {Q : Value → Shared → Prop} {QO : Option Value → Shared → Prop} {QU : Unit → Shared → Prop} {QF : Flow → Shared → Prop} {n : Nat} {fs : List (Str × Value)}
  {need : Pers → List (Addr × G) → List (Addr × List LV) → Prop} {xs : List LV}

/-- what a body that was walked in its own leaves to what follows -/
noncomputable def BodyQ (w : World) (Z : Heap) (b₀ : Shared) (L : Addr) (J : Nat → Pers → List (Str × LV) → List (Addr × G) → List (Addr × List LV) → Prop) (I : Addr) (g : Nat → G) (i : Nat) (QF : Flow → Shared → Prop) (f : Flow) (s : Shared) : Prop :=
  match f with
  | .next | .cont => ∃ P loc tmp tt, J (i + 1) P loc tmp tt ∧ Cfg w Z b₀ P L loc ((I, g (i + 1)) :: tmp) tt s
  | .brk => QF .next s
  | .ret v => QF (.ret v) s

theorem r_for {target : Expr} {body orelse : List Stmt} (N : Nx w Z b₀ I xs g need) (hh : A.handled = none) (J : Nat → Pers → List (Str × LV) → List (Addr × G) → List (Addr × List LV) → Prop)
    (hneed : ∀ i P loc tmp tt, J i P loc tmp tt → need P ((I, g i) :: tmp) tt)
    (turn : ∀ i P loc tmp tt s v l, xs[i]? = some l → l.is v → J i P loc tmp tt → Cfg w Z b₀ P L loc ((I, g (i + 1)) :: tmp) tt s →
      wpAny (model prg w) A (assign target env v) (fun _ s₂ => wpAny (model prg w) A (execs body env) (BodyQ w Z b₀ L J I g i QF) F0 s₂) F0 s)
    (done : ∀ P loc tmp tt s, J xs.length P loc tmp tt → Cfg w Z b₀ P L loc tmp tt s → wpAny (model prg w) A (execs orelse env) QF F0 s)
    (j0 : J 0 P loc tmp tt) (c : Cfg w Z b₀ P L loc ((I, g 0) :: tmp) tt s) (ht : ∀ v, letOwnedTupleGo target (.ref I) v = pure () := by intro _; rfl) :
    codeAny (model prg w) A (.forLoop target (.ref I) body orelse env) (fun r s' => match r with | .ok f => QF f s' | .error e => cameBackBy (model prg w) A env E e s') s := by
  refine codeAny_forLoop (fun k s => ∃ i P loc tmp tt, i ≤ xs.length ∧ k = xs.length - i ∧ J i P loc tmp tt ∧ Cfg w Z b₀ P L loc ((I, g i) :: tmp) tt s) (fun k s hI => ?_) xs.length ⟨0, P, loc, tmp, tt, Nat.zero_le _, rfl, j0, c⟩ ht
  obtain ⟨i, P, loc, tmp, tt, hi, rfl, j, c⟩ := hI
  rcases Nat.lt_or_eq_of_le hi with hlt | rfl
  · refine N.item hh c (hneed _ _ _ _ _ j) .head (List.getElem?_eq_getElem hlt) fun v s' hv c' => ?_
    refine wpAny_mono (turn i P loc tmp tt s' v _ (List.getElem?_eq_getElem hlt) hv j c') (fun _ s₂ h₂ => wpAny_mono h₂ (fun f s₃ h₃ => ?_) fun _ _ e => e.elim) fun _ _ e => e.elim
    have fin : (∃ P loc tmp tt, J (i + 1) P loc tmp tt ∧ Cfg w Z b₀ P L loc ((I, g (i + 1)) :: tmp) tt s₃) →
        ∃ m, m < xs.length - i ∧ ∃ i P loc tmp tt, i ≤ xs.length ∧ m = xs.length - i ∧ J i P loc tmp tt ∧ Cfg w Z b₀ P L loc ((I, g i) :: tmp) tt s₃ := fun ⟨P, loc, tmp, tt, j, c⟩ => ⟨xs.length - (i + 1), by (first | lia | omega), i + 1, P, loc, tmp, tt, hlt, rfl, j, c⟩
    cases f with
    | next => exact fin h₃
    | cont => exact fin h₃
    | brk => exact h₃
    | ret v => exact h₃
  · refine N.done (pre := []) hh c (hneed _ _ _ _ _ j) fun s' c' => ?_
    exact wpAny_mono (done P loc tmp tt s' j c') (fun f s₃ h₃ => h₃) fun _ _ e => e.elim

abbrev tests (prg : Program) (w : World) (A : Around) (ifs : List Expr) (env : Env) (Q : Bool → Shared → Prop) (E : Value → Shared → Prop) (s : Shared) : Prop :=
  wpAny (model prg w) A (forIn ifs true fun c r => if r = true then do let ok ← isTrue c env (eval c env); pure (ForInStep.yield ok) else pure (ForInStep.yield r)) Q E s

/-- the new frame of a comprehension -/
theorem r_newComp {scope : Scope} {cl : List (Str × Addr)} {QE : Env → Shared → Prop} (c : Cfg w Z b₀ P L loc tmp tt s) (hcell : ∀ y ∈ scope.names, y.2 ≠ .cell) (hkind : scope.kind = .function) (vars : List Str) (hv : vars.Nodup)
    (h : ∀ C fo s', Back w Z b₀ L loc fo → Cfg w Z b₀ P C (vars.map fun x => (x, .unset)) ((L, .obj fo) :: tmp) tt s' → QE (newEnv scope C env.globals cl env.qual none .none (some env) env.builtins) s') :
    wpAny (model prg w) A (newFunctionEnv scope env.globals cl [] env.qual none .none (some env)) QE E s := by
  obtain ⟨fo, hfo, hfd, hb⟩ := c.back
  refine wpAny_newFunctionEnv hcell (by intro y hy; simp at hy) (fun h₁ hns hsb => ?_) hkind
  have hl : ∀ p ∈ vars.map fun x => (x, LV.unset), p.2 = .unset := fun p hp => by obtain ⟨x, _, rfl⟩ := List.mem_map.mp hp; rfl
  exact h _ fo _ hb (c.enter (tk := s.toks + 0) hfo hfd (fun b o e => hsb.extBut b o (fun q => by rw [q] at e; rw [get?_size] at e; cases e) (Heap.get?_push_of_some _ e)) (new_size _) hns (fun p hp => by rw [hl p hp]; trivial)
    (by rw [List.map_map]; show (vars.map id).Nodup; rw [List.map_id]; exact hv))

/-- the frame of a comprehension goes; what it made stays -/
theorem Cfg.endComp {fo : Obj} {L₂ : Addr} {loc₂ : List (Str × LV)} {pre post : List (Addr × G)} (B : Back w Z b₀ L loc fo) (c : Cfg w Z b₀ P L₂ loc₂ (pre ++ (L, .obj fo) :: post) tt s) :
    ∃ m, s.heap.Ns L₂ m ∧ ∀ h', Heap.SameBut L₂ s.heap h' → Cfg w Z b₀ P L loc (pre ++ post) tt { s with heap := h' } := by
  obtain ⟨co, m, hn, c'⟩ := c.swap B
  obtain ⟨⟨o, ho, rfl, _⟩, _⟩ := c'.led (L₂, .obj co) (by simp)
  exact ⟨m, hn _ ho, fun h' hs => c'.lose (pre := []) hs.extBut⟩
theorem post_none {fo : Obj} {L₂ : Addr} {loc₂ : List (Str × LV)} {acc : Value} {f : Flow} (B : Back w Z b₀ L loc fo) (c : Cfg w Z b₀ P L₂ loc₂ ((L, .obj fo) :: tmp) tt s) (h : ∀ s', Cfg w Z b₀ P L loc tmp tt s' → Q acc s') :
    compPost (model prg w) A E none Q acc L₂ (.ok f) s := by
  obtain ⟨m, hn, hc⟩ := c.endComp (pre := []) B
  exact ⟨m, hn, fun h' hs => h _ (hc h' hs)⟩
/-- the same, when the value is stored ere the frame goes -/
theorem post_use {fo : Obj} {L₂ : Addr} {loc₂ : List (Str × LV)} {acc : Value} {f : Flow} {u : Value → Sem Unit} (B : Back w Z b₀ L loc fo) (c : Cfg w Z b₀ P L₂ loc₂ ((L, .obj fo) :: tmp) tt s)
    (h : ∀ co, Cfg w Z b₀ P L loc ((L₂, .obj co) :: tmp) tt s → wpAny (model prg w) A (u acc) (fun _ s'' => ∃ P' loc' tmp' tt', Cfg w Z b₀ P' L loc' ((L₂, .obj co) :: tmp') tt' s'' ∧ ∀ s₃, Cfg w Z b₀ P' L loc' tmp' tt' s₃ → Q .none s₃) E s) :
    compPost (model prg w) A E (some u) Q acc L₂ (.ok f) s := by
  obtain ⟨co, m, hn, c'⟩ := c.swap (pre := []) B
  refine wpAny_mono (h co c') (fun _ s'' h'' => ?_) fun _ _ e => e
  obtain ⟨P', loc', tmp', tt', c₃, hq⟩ := h''
  obtain ⟨⟨o, ho, rfl, _⟩, _⟩ := c₃.led (L₂, .obj co) (by simp)
  exact ⟨m, hn _ ho, fun h' hs => hq _ (c₃.lose (pre := []) hs.extBut)⟩
theorem post_store {fo : Obj} {L₂ D : Addr} {loc₂ : List (Str × LV)} {f : Flow} {z : Str} {pz : Pos} {l : LV} (B : Back w Z b₀ L loc fo) (c : Cfg w Z b₀ P L₂ loc₂ ((L, .obj fo) :: tmp) tt s) (U : Put loc z l (.ref D) loc')
    (h : ∀ s', Cfg w Z b₀ P L loc' tmp tt s' → QF .next s')
    (he : env.locals = L := by rfl) (hx : env.kindOf z = some .local := by rfl) (hp : (env.scope.kind == .class || (env.scope.kind == .module && env.locals != env.globals)) = false := by rfl) :
    compPost (model prg w) A E (some (assign (.Name z pz) env)) (fun _ s' => QF .next s') (.ref D) L₂ (.ok f) s :=
  post_use B c fun co c' => wpAny_assign_Name (r_st (l' := .ref D) c' rfl U (fun s'' c'' => ⟨P, loc', tmp, tt, c'', h⟩) he hx hp)

/-- what a turn of a list comprehension leaves -/
noncomputable def TurnQ (w : World) (Z : Heap) (b₀ : Shared) (J : Nat → Pers → List LV → Prop) (C : Addr) (x : Str) (rest : List (Addr × G)) (tt : List (Addr × List LV)) (i : Nat) (acc : List LV) (v : Value) (s : Shared) : Prop :=
  ∃ P l lv ex et, l.is v ∧ J (i + 1) P (acc ++ [l]) ∧ Cfg w Z b₀ P C [(x, lv)] (ex ++ rest) et s ∧ ∀ p ∈ tt, p ∈ et ++ P.tups
noncomputable def SkipQ (w : World) (Z : Heap) (b₀ : Shared) (J : Nat → Pers → List LV → Prop) (C : Addr) (x : Str) (rest : List (Addr × G)) (tt : List (Addr × List LV)) (i : Nat) (acc : List LV) (s : Shared) : Prop :=
  ∃ P lv ex et, J (i + 1) P acc ∧ Cfg w Z b₀ P C [(x, lv)] (ex ++ rest) et s ∧ ∀ p ∈ tt, p ∈ et ++ P.tups

theorem r_compLoop {elt iter : Expr} {ifs : List Expr} {scope : Scope} {D : Addr} {fo : Obj} {cenv : Env} {R : Result → Shared → Prop} (N : Nx w Z b₀ I xs g need) (hh : A.handled = none) (J : Nat → Pers → List LV → Prop)
    (hx : cenv.kindOf x = some .local) (hp : (cenv.scope.kind == .class || (cenv.scope.kind == .module && cenv.locals != cenv.globals)) = false) (hC : cenv.locals = C)
    (hneed : ∀ i P acc, J i P acc → need P ((L, .obj fo) :: (D, .list acc) :: (I, g i) :: tmp) tt) (hsz : ∀ i P acc, J i P acc → acc.length ≤ 1000000)
    (turn : ∀ i P acc s l, xs[i]? = some l → J i P acc → Cfg w Z b₀ P C [(x, l)] ((L, .obj fo) :: (D, .list acc) :: (I, g (i + 1)) :: tmp) tt s →
      tests prg w A ifs cenv (fun ok s₃ => if ok = true then wpAny (model prg w) A (eval elt cenv) (TurnQ w Z b₀ J C x ((L, .obj fo) :: (D, .list acc) :: (I, g (i + 1)) :: tmp) tt i acc) F0 s₃
        else SkipQ w Z b₀ J C x ((L, .obj fo) :: (D, .list acc) :: (I, g (i + 1)) :: tmp) tt i acc s₃) F0 s)
    (fin : ∀ P acc s lv, J xs.length P acc → Cfg w Z b₀ P C [(x, lv)] ((L, .obj fo) :: (D, .list acc) :: tmp) tt s → R (.ok .next) s)
    (j0 : J 0 P []) (c : Cfg w Z b₀ P C [(x, .unset)] ((L, .obj fo) :: (D, .list []) :: (I, g 0) :: tmp) tt s) (ht : ∀ v, letOwnedTupleGo (.Name x px) (.ref I) v = pure () := by intro _; rfl) :
    codeAny (model prg w) A (.compLoop (.ListComp elt [⟨.Name x px, iter, ifs, 0⟩] scope pos) 0 (.ref I) (.ref D) cenv) R s := by
  refine codeAny_compLoop_tests (fun k s => ∃ i P acc lv, i ≤ xs.length ∧ k = xs.length - i ∧ J i P acc ∧ Cfg w Z b₀ P C [(x, lv)] ((L, .obj fo) :: (D, .list acc) :: (I, g i) :: tmp) tt s) (fun k s hI => ?_) xs.length ⟨0, P, [], .unset, Nat.zero_le _, rfl, j0, c⟩ ht
  obtain ⟨i, P, acc, lv, hi, rfl, j, c⟩ := hI
  rcases Nat.lt_or_eq_of_le hi with hlt | rfl
  · refine N.item hh c (hneed _ _ _ j) (.tail (.tail .head)) (List.getElem?_eq_getElem hlt) fun v s' hv c' => ?_
    refine wpAny_assign_Name (r_st (l' := xs[i]) c' hv .head (fun s'' c'' => ?_) hC hx hp)
    refine wpAny_mono (turn i P acc s'' _ (List.getElem?_eq_getElem hlt) j c'') (fun ok s₃ h₃ => ?_) fun _ _ e => e.elim
    cases ok with
    | true =>
      simp only [if_true] at h₃ ⊢
      refine wpAny_mono h₃ (fun y s₄ h₄ => ?_) fun _ _ e => e.elim
      obtain ⟨P', l, lv', ex, et, hl, j', c₄, het⟩ := h₄
      have c₅ := c₄.sub (tmp' := (L, .obj fo) :: (D, .list acc) :: (I, g (i + 1)) :: tmp) (List.sublist_append_right _ _) het
      exact r_append c₅ (P' := P') (Put.left (.tail .head) P'.objs) (fun p hp => hp) hl (hsz _ _ _ j) fun s₅ c₆ => ⟨xs.length - (i + 1), by (first | lia | omega), i + 1, P', _, lv', hlt, rfl, j', c₆⟩
    | false =>
      simp only [Bool.false_eq_true, if_false] at h₃ ⊢
      obtain ⟨P', lv', ex, et, j', c₄, het⟩ := h₃
      have c₅ := c₄.sub (tmp' := (L, .obj fo) :: (D, .list acc) :: (I, g (i + 1)) :: tmp) (List.sublist_append_right _ _) het
      exact ⟨xs.length - (i + 1), by (first | lia | omega), i + 1, P', _, lv', hlt, rfl, j', c₅⟩
  · refine N.done (pre := [(L, .obj fo), (D, .list acc)]) hh c (hneed _ _ _ j) fun s' c' => ?_
    exact fin P acc s' lv j c'

/-- a comprehension, once its first iterator stands -/
noncomputable def LCgo (w : World) (A : Around) (env : Env) (scope : Scope) (cl : List (Str × Addr)) (e : Expr) (newAcc : Sem Value) (use : Option (Value → Sem Unit)) (Q : Value → Shared → Prop) (E : Value → Shared → Prop) (it : Value) (s : Shared) : Prop :=
  wpAny (model prg w) A newAcc (fun acc s₃ => wpAny (model prg w) A (newFunctionEnv scope env.globals cl [] env.qual none .none (some env)) (fun cenv s₄ =>
    codeAny (model prg w) A (.compStart e 0 it acc { cenv with scope := relabel scope env }) (compPost (model prg w) A E use Q acc cenv.locals) s₄) E s₃) E s

theorem r_LC {elt target iter : Expr} {ifs : List Expr} {rest : List Comprehension} {scope : Scope} {cl : List (Str × Addr)}
    (hclos : closureFor scope env = pure cl) (hkind : scope.kind = .function) (hnames : ∀ y ∈ scope.names, y.2 = .local → scope.names.lookup y.1 = some .local)
    (h : wpAny (model prg w) A (eval iter env) (fun xv s₁ => wpAny (model prg w) A (pyIter xv) (LCgo w A env scope cl (.ListComp elt (⟨target, iter, ifs, 0⟩ :: rest) scope pos) (newList []) none Q E) E s₁) E s)
    (hs : ∀ x, foldedSetIterable iter env x = pure x := by intro _; rfl) :
    wpAny (model prg w) A (eval (.ListComp elt (⟨target, iter, ifs, 0⟩ :: rest) scope pos) env) Q E s := by
  rw [eval_ListComp]
  exact wpAny_comprehension_free (use := none) rfl hs hclos hkind hnames h
theorem r_AssignLC {elt target iter : Expr} {z : Str} {pz spos : Pos} {ifs : List Expr} {rest : List Comprehension} {scope : Scope} {cl : List (Str × Addr)}
    (hsw : swapsWith (.ListComp elt (⟨target, iter, ifs, 0⟩ :: rest) scope pos) (some (.Name z pz)) spos.line env = pure true)
    (hclos : closureFor scope env = pure cl) (hkind : scope.kind = .function) (hnames : ∀ y ∈ scope.names, y.2 = .local → scope.names.lookup y.1 = some .local)
    (h : wpAny (model prg w) A (eval iter env) (fun xv s₁ => wpAny (model prg w) A (pyIter xv) (LCgo w A env scope cl (.ListComp elt (⟨target, iter, ifs, 0⟩ :: rest) scope pos) (newList []) (some (assign (.Name z pz) env)) (fun _ s' => QF .next s') E) E s₁) E s)
    (hs : ∀ x, foldedSetIterable iter env x = pure x := by intro _; rfl) :
    wpAny (model prg w) A (exec (.Assign [.Name z pz] (.ListComp elt (⟨target, iter, ifs, 0⟩ :: rest) scope pos) spos) env) QF E s := by
  rw [exec_Assign_Name_used _ _ _ _ hsw]
  refine wpAny_bind (wpAny_standAt (wpAny_bind ?_))
  show wpAny _ A (do let _ ← comprehension (.ListComp elt (⟨target, iter, ifs, 0⟩ :: rest) scope pos) scope env _ (newList []) false (eval iter env) (some (assign (.Name z pz) env))) _ _ s
  exact wpAny_bind (wpAny_mono (wpAny_comprehension_free (use := some (assign (.Name z pz) env)) (Q := fun _ s' => QF .next s') rfl hs hclos hkind hnames h) (fun _ s' hq => wpAny_pure (wpAny_pure hq)) fun _ _ e => e)

theorem r_LCgo {elt iter : Expr} {ifs : List Expr} {scope : Scope} {cl : List (Str × Addr)} {use : Option (Value → Sem Unit)} (N : Nx w Z b₀ I xs g need) (hh : A.handled = none) (J : Nat → Pers → List LV → Prop)
    (hcell : ∀ y ∈ scope.names, y.2 ≠ .cell) (hkind : scope.kind = .function) (hx : scope.names.lookup x = some .local)
    (hneed : ∀ D fo i P acc, J i P acc → need P ((L, .obj fo) :: (D, .list acc) :: (I, g i) :: tmp) tt) (hsz : ∀ i P acc, J i P acc → acc.length ≤ 1000000)
    (turn : ∀ C D fo i P acc s l, xs[i]? = some l → J i P acc → Cfg w Z b₀ P C [(x, l)] ((L, .obj fo) :: (D, .list acc) :: (I, g (i + 1)) :: tmp) tt s →
      tests prg w A ifs (compEnvC scope cl C env) (fun ok s₃ => if ok = true then wpAny (model prg w) A (eval elt (compEnvC scope cl C env)) (TurnQ w Z b₀ J C x ((L, .obj fo) :: (D, .list acc) :: (I, g (i + 1)) :: tmp) tt i acc) F0 s₃
        else SkipQ w Z b₀ J C x ((L, .obj fo) :: (D, .list acc) :: (I, g (i + 1)) :: tmp) tt i acc s₃) F0 s)
    (fin : ∀ C D fo P acc s lv, Back w Z b₀ L loc fo → J xs.length P acc → Cfg w Z b₀ P C [(x, lv)] ((L, .obj fo) :: (D, .list acc) :: tmp) tt s → compPost (model prg w) A E use Q (.ref D) C (.ok .next) s)
    (j0 : J 0 P []) (c : Cfg w Z b₀ P L loc ((I, g 0) :: tmp) tt s) (ht : ∀ v, letOwnedTupleGo (.Name x px) (.ref I) v = pure () := by intro _; rfl) :
    LCgo w A env scope cl (.ListComp elt [⟨.Name x px, iter, ifs, 0⟩] scope pos) (newList []) use Q E (.ref I) s := by
  refine r_newL c (vs := []) .nil (by simp) fun D s₁ c₁ => ?_
  refine r_newComp c₁ hcell hkind [x] (by simp) fun C fo s₂ hb c₂ => ?_
  have go : ∀ s₂, Cfg w Z b₀ P C [(x, .unset)] ((L, .obj fo) :: (D, .list []) :: (I, g 0) :: tmp) tt s₂ →
      codeAny (model prg w) A (.compLoop (.ListComp elt [⟨.Name x px, iter, ifs, 0⟩] scope pos) 0 (.ref I) (.ref D) (compEnvC scope cl C env)) (compPost (model prg w) A E use Q (.ref D) C) s₂ := fun s₂ c₂ =>
    r_compLoop (cenv := compEnvC scope cl C env) N hh J (lookup_relabel_local hx) (by simp [compEnvC, relabel, hkind]) rfl (hneed D fo) hsz (turn C D fo) (fun P acc s lv j c => fin C D fo P acc s lv hb j c) j0 c₂ ht
  exact codeAny_compStart_list (go _ c₂) (N.self c₂ (i := 0) (by simp) (go _ c₂))

end
noncomputable def addK (ks : List Int) (k : Int) : List Int := if ks.any (· = k) then ks else ks ++ [k]
noncomputable def keysD (ks : List Int) : List (Int × LV) := ks.map fun k => (k, .bool true)
theorem putK_true (ks : List Int) (k : Int) : putK (keysD ks) k (.bool true) = keysD (addK ks k) := by
  have e : ((keysD ks).any fun kv => kv.1 = k) = ks.any (· = k) := by simp only [keysD, List.any_map]; rfl
  unfold putK addK
  rw [e]
  split
  · unfold keysD
    rw [List.map_map]
    refine List.map_congr_left fun a _ => ?_
    simp
  · simp [keysD]
noncomputable def setOf (l : List Int) : List Int := l.foldl addK []
theorem mem_addK {ks : List Int} {k a : Int} : a ∈ addK ks k ↔ a ∈ ks ∨ a = k := by
  unfold addK
  split
  · rename_i h
    obtain ⟨b, hb, e⟩ := List.any_eq_true.mp h
    have : b = k := by simpa using e
    subst this
    exact ⟨.inl, fun h => h.elim id fun e => e ▸ hb⟩
  · simp
theorem nodup_addK {ks : List Int} {k : Int} (h : ks.Nodup) : (addK ks k).Nodup := by
  unfold addK
  split
  · exact h
  · rename_i hn
    rw [List.nodup_append]
    refine ⟨h, by simp, fun a ha b hb e => hn ?_⟩
    rw [List.mem_singleton] at hb
    rw [List.any_eq_true]
    exact ⟨a, ha, by simp [e, hb]⟩
theorem len_addK {ks : List Int} {k : Int} : (addK ks k).length ≤ ks.length + 1 := by unfold addK; split <;> simp
theorem foldl_addK (l : List Int) : ∀ (ks : List Int), ks.Nodup → (l.foldl addK ks).Nodup ∧ (∀ a, a ∈ l.foldl addK ks ↔ a ∈ ks ∨ a ∈ l) ∧ (l.foldl addK ks).length ≤ ks.length + l.length := by
  induction l with
  | nil => intro ks h; exact ⟨h, by simp, by simp⟩
  | cons k l ih =>
    intro ks h
    obtain ⟨h1, h2, h3⟩ := ih (addK ks k) (nodup_addK h)
    refine ⟨h1, fun a => ?_, ?_⟩
    · show a ∈ l.foldl addK (addK ks k) ↔ _
      rw [h2 a, mem_addK, List.mem_cons, or_assoc]
    · have := len_addK (ks := ks) (k := k)
      show (l.foldl addK (addK ks k)).length ≤ _
      rw [List.length_cons]; (first | lia | omega)
theorem mem_setOf {l : List Int} {a : Int} : a ∈ setOf l ↔ a ∈ l := by have := (foldl_addK l [] List.nodup_nil).2.1 a; simpa [setOf] using this
theorem nodup_setOf {l : List Int} : (setOf l).Nodup := (foldl_addK l [] List.nodup_nil).1
theorem len_setOf {l : List Int} : (setOf l).length ≤ l.length := by have := (foldl_addK l [] List.nodup_nil).2.2; simpa [setOf] using this
theorem setOf_snoc {l : List Int} {k : Int} : setOf (l ++ [k]) = addK (setOf l) k := by simp [setOf, List.foldl_append]

section
variable {w : World} {Z : Heap} {b₀ : Shared} {P P' : Pers} {L a y C I : Addr} {loc loc' : List (Str × LV)} {tmp tmp' : List (Addr × G)} {tt tt' : List (Addr × List LV)} {s s' : Shared} {h' : Heap} {tk : Nat} {g : Nat → G}
  {A : Around} {E : Value → Shared → Prop} {env : Env} {x : Str} {pos px : Pos} {Q : Value → Shared → Prop} {QO : Option Value → Shared → Prop} {QU : Unit → Shared → Prop} {QF : Flow → Shared → Prop} {n : Nat} {fs : List (Str × Value)}
  {need : Pers → List (Addr × G) → List (Addr × List LV) → Prop} {xs : List LV}
theorem r_DC {kx vx target iter : Expr} {ifs : List Expr} {rest : List Comprehension} {scope : Scope} {cl : List (Str × Addr)}
    (hclos : closureFor scope env = pure cl) (hkind : scope.kind = .function) (hnames : ∀ y ∈ scope.names, y.2 = .local → scope.names.lookup y.1 = some .local)
    (h : wpAny (model prg w) A (eval iter env) (fun xv s₁ => wpAny (model prg w) A (pyIter xv) (LCgo w A env scope cl (.DictComp kx vx (⟨target, iter, ifs, 0⟩ :: rest) scope pos) newDict none Q E) E s₁) E s)
    (hs : ∀ x, foldedSetIterable iter env x = pure x := by intro _; rfl) :
    wpAny (model prg w) A (eval (.DictComp kx vx (⟨target, iter, ifs, 0⟩ :: rest) scope pos) env) Q E s := by
  rw [arm_eval_DictComp]
  exact wpAny_comprehension_free (use := none) rfl hs hclos hkind hnames h
theorem r_AssignDC {kx vx target iter : Expr} {z : Str} {pz spos : Pos} {ifs : List Expr} {rest : List Comprehension} {scope : Scope} {cl : List (Str × Addr)}
    (hsw : swapsWith (.DictComp kx vx (⟨target, iter, ifs, 0⟩ :: rest) scope pos) (some (.Name z pz)) spos.line env = pure true)
    (hclos : closureFor scope env = pure cl) (hkind : scope.kind = .function) (hnames : ∀ y ∈ scope.names, y.2 = .local → scope.names.lookup y.1 = some .local)
    (h : wpAny (model prg w) A (eval iter env) (fun xv s₁ => wpAny (model prg w) A (pyIter xv) (LCgo w A env scope cl (.DictComp kx vx (⟨target, iter, ifs, 0⟩ :: rest) scope pos) newDict (some (assign (.Name z pz) env)) (fun _ s' => QF .next s') E) E s₁) E s)
    (hs : ∀ x, foldedSetIterable iter env x = pure x := by intro _; rfl) :
    wpAny (model prg w) A (exec (.Assign [.Name z pz] (.DictComp kx vx (⟨target, iter, ifs, 0⟩ :: rest) scope pos) spos) env) QF E s := by
  rw [exec_Assign_Name_used _ _ _ _ hsw]
  refine wpAny_bind (wpAny_standAt (wpAny_bind ?_))
  show wpAny _ A (do let _ ← comprehension (.DictComp kx vx (⟨target, iter, ifs, 0⟩ :: rest) scope pos) scope env _ newDict false (eval iter env) (some (assign (.Name z pz) env))) _ _ s
  exact wpAny_bind (wpAny_mono (wpAny_comprehension_free (use := some (assign (.Name z pz) env)) (Q := fun _ s' => QF .next s') rfl hs hclos hkind hnames h) (fun _ s' hq => wpAny_pure (wpAny_pure hq)) fun _ _ e => e)

theorem r_newD (c : Cfg w Z b₀ P L loc tmp tt s) (h : ∀ d s', Cfg w Z b₀ P L loc ((d, .dictI []) :: tmp) tt s' → Q (.ref d) s') : wpAny (model prg w) A newDict Q E s := by
  refine wpAny_newObj_type (h _ _ (c.new (a := s.heap.objs.size) (g := .dictI []) (tk := s.toks) (fun b o e => Heap.get?_push_of_some _ e) (new_size _) ?_))
  obtain ⟨o, h1, h2, h3⟩ := dictOf_any (Heap.DictOf.new (knd := intKind prg w) s.heap)
  exact ⟨o, h1, [], h2, .nil, h3⟩
theorem r_newDT (c : Cfg w Z b₀ P L loc tmp tt s) (h : ∀ d s', Cfg w Z b₀ P L loc ((d, .dictT []) :: tmp) tt s' → Q (.ref d) s') : wpAny (model prg w) A newDict Q E s := by
  refine wpAny_newObj_type (h _ _ (c.new (a := s.heap.objs.size) (g := .dictT []) (tk := s.toks) (fun b o e => Heap.get?_push_of_some _ e) (new_size _) ?_))
  exact dictT_any (Heap.DictOfH.new (knd := tupK w) s.heap) .nil
theorem r_dictSet {kvs : List (Int × LV)} {k : Int} {t : Tok} {l : LV} {v : Value} (c : Cfg w Z b₀ P L loc tmp tt s) (U : Put tmp a (.dictI kvs) (.dictI (putK kvs k l)) tmp') (hv : l.is v) (hz : kvs.length ≤ 1000000)
    (h : ∀ s', Cfg w Z b₀ P L loc tmp' tt s' → QU () s') : wpAny (model prg w) A (dictSet a (.int k t) v) QU E s := by
  obtain ⟨ys, hd, h2⟩ := c.isDI (List.mem_append_left _ U.mem)
  have e := h2.length
  refine wpAny_dictSet_pairs (knd := intKind prg w) is_int hd (fun h' hd' hs => ?_) (by rw [sizeLine_eq]; (first | lia | omega))
  obtain ⟨o, h3, h4, h5⟩ := dictOf_any hd'
  exact h _ (c.chgT U hs.extBut ⟨o, h3, _, h4, kv_put h2 hv, h5⟩)

theorem r_DCgo {kx vx iter : Expr} {scope : Scope} {cl : List (Str × Addr)} {use : Option (Value → Sem Unit)} (N : Nx w Z b₀ I xs g need) (hh : A.handled = none) (kv : Nat → Int)
    (hcell : ∀ y ∈ scope.names, y.2 ≠ .cell) (hkind : scope.kind = .function) (hx : scope.names.lookup x = some .local)
    (hneed : ∀ D fo i acc, need P ((L, .obj fo) :: (D, .dictI acc) :: (I, g i) :: tmp) tt) (hsz : xs.length ≤ 1000000)
    (turn : ∀ C D fo i acc s l, xs[i]? = some l → Cfg w Z b₀ P C [(x, l)] ((L, .obj fo) :: (D, .dictI acc) :: (I, g (i + 1)) :: tmp) tt s →
      wpAny (model prg w) A (eval kx (compEnvC scope cl C env)) (fun k s₃ => wpAny (model prg w) A (eval vx (compEnvC scope cl C env)) (fun v s₄ => (∃ t, k = .int (kv i) t) ∧ v = .bool true ∧ ∃ lv ex et, Cfg w Z b₀ P C [(x, lv)] (ex ++ ((L, .obj fo) :: (D, .dictI acc) :: (I, g (i + 1)) :: tmp)) et s₄ ∧ ∀ p ∈ tt, p ∈ et ++ P.tups) F0 s₃) F0 s)
    (fin : ∀ C D fo s lv, Back w Z b₀ L loc fo → Cfg w Z b₀ P C [(x, lv)] ((L, .obj fo) :: (D, .dictI (keysD (setOf ((List.range xs.length).map kv)))) :: tmp) tt s → compPost (model prg w) A E use Q (.ref D) C (.ok .next) s)
    (c : Cfg w Z b₀ P L loc ((I, g 0) :: tmp) tt s) (ht : ∀ v, letOwnedTupleGo (.Name x px) (.ref I) v = pure () := by intro _; rfl) :
    LCgo w A env scope cl (.DictComp kx vx [⟨.Name x px, iter, [], 0⟩] scope pos) newDict use Q E (.ref I) s := by
  refine r_newD c fun D s₁ c₁ => ?_
  refine r_newComp c₁ hcell hkind [x] (by simp) fun C fo s₂ hb c₂ => ?_
  have hxk : (compEnvC scope cl C env).kindOf x = some .local := lookup_relabel_local hx
  have hpk : ((compEnvC scope cl C env).scope.kind == .class || ((compEnvC scope cl C env).scope.kind == .module && (compEnvC scope cl C env).locals != (compEnvC scope cl C env).globals)) = false := by simp [compEnvC, relabel, hkind]
  have go : ∀ s₂, Cfg w Z b₀ P C [(x, .unset)] ((L, .obj fo) :: (D, .dictI []) :: (I, g 0) :: tmp) tt s₂ →
      codeAny (model prg w) A (.compLoop (.DictComp kx vx [⟨.Name x px, iter, [], 0⟩] scope pos) 0 (.ref I) (.ref D) (compEnvC scope cl C env)) (compPost (model prg w) A E use Q (.ref D) C) s₂ := fun s₂ c₂ => by
    refine codeAny_compLoop_testsD (fun k s => ∃ i lv, i ≤ xs.length ∧ k = xs.length - i ∧ Cfg w Z b₀ P C [(x, lv)] ((L, .obj fo) :: (D, .dictI (keysD (setOf ((List.range i).map kv)))) :: (I, g i) :: tmp) tt s) (fun k s hI => ?_) xs.length ⟨0, .unset, Nat.zero_le _, rfl, c₂⟩ ht
    obtain ⟨i, lv, hi, rfl, c⟩ := hI
    rcases Nat.lt_or_eq_of_le hi with hlt | rfl
    · refine N.item hh c (hneed _ _ _ _) (.tail (.tail .head)) (List.getElem?_eq_getElem hlt) fun v s' hv c' => ?_
      refine wpAny_assign_Name (r_st (l' := xs[i]) c' hv .head (fun s'' c'' => ?_) rfl hxk hpk)
      refine wpAny_tests_nil ?_
      simp only [if_true]
      refine wpAny_mono (turn C D fo i _ s'' _ (List.getElem?_eq_getElem hlt) c'') (fun k s₃ h₃ => wpAny_mono h₃ (fun v s₄ h₄ => ?_) fun _ _ e => e.elim) fun _ _ e => e.elim
      obtain ⟨⟨t, rfl⟩, rfl, lv', ex, et, c₄, het⟩ := h₄
      have c₅ := c₄.sub (tmp' := (L, .obj fo) :: (D, .dictI _) :: (I, g (i + 1)) :: tmp) (List.sublist_append_right _ _) het
      have hl := len_setOf (l := (List.range i).map kv)
      rw [List.length_map, List.length_range] at hl
      refine r_dictSet c₅ (l := .bool true) (.tail .head) rfl (by rw [keysD, List.length_map]; (first | lia | omega)) fun s₅ c₆ => ⟨xs.length - (i + 1), by (first | lia | omega), i + 1, lv', hlt, rfl, ?_⟩
      rw [putK_true, ← setOf_snoc] at c₆
      rw [List.range_succ, List.map_append]
      exact c₆
    · refine N.done (pre := [(L, .obj fo), (D, .dictI _)]) hh c (hneed _ _ _ _) fun s' c' => ?_
      exact fin C D fo s' lv hb c'
  exact codeAny_compStart_dict (go _ c₂) (N.self c₂ (i := 0) (by simp) (go _ c₂))

theorem compTurn_two0 (elt t0 i0 t1 i1 : Expr) (scope : Scope) (pos : Pos) (it acc : Value) (env : Env) :
    compTurn (.ListComp elt [⟨t0, i0, [], 0⟩, ⟨t1, i1, [], 0⟩] scope pos) 0 it acc env = (do
      standAt i0.pos
      match ← pyNext it with
      | none => pure (.done .next)
      | some v =>
        letOwnedTupleGo t0 it v
        assign t0 env v
        let x ← eval i1 env
        standAt i1.pos
        let x ← foldedSetIterable i1 env x
        let _ ← runOwn (.compStart (.ListComp elt [⟨t0, i0, [], 0⟩, ⟨t1, i1, [], 0⟩] scope pos) 1 (← holding [x] (pyIter x)) acc env) env
        again (.compLoop (.ListComp elt [⟨t0, i0, [], 0⟩, ⟨t1, i1, [], 0⟩] scope pos) 0 it acc env)) := by rfl
theorem compTurn_two1 (elt t0 i0 t1 i1 : Expr) (scope : Scope) (pos : Pos) (it acc : Value) (env : Env) :
    compTurn (.ListComp elt [⟨t0, i0, [], 0⟩, ⟨t1, i1, [], 0⟩] scope pos) 1 it acc env = (do
      standAt i1.pos
      match ← pyNext it with
      | none => pure (.done .next)
      | some v =>
        letOwnedTupleGo t1 it v
        assign t1 env v
        (do let _ ← call (.builtin "list.append") [acc, ← eval elt env])
        again (.compLoop (.ListComp elt [⟨t0, i0, [], 0⟩, ⟨t1, i1, [], 0⟩] scope pos) 1 it acc env)) := by rfl
theorem compStart_two1 {elt t0 i0 t1 i1 scope pos it acc env} {R : Result → Shared → Prop}
    (h0 : codeAny (model prg w) A (.compLoop (.ListComp elt [⟨t0, i0, [], 0⟩, ⟨t1, i1, [], 0⟩] scope pos) 1 it acc env) R s)
    (h : wpAny (model prg w) A (pyIter it) (fun it' s' => codeAny (model prg w) A (.compLoop (.ListComp elt [⟨t0, i0, [], 0⟩, ⟨t1, i1, [], 0⟩] scope pos) 1 it' acc env) R s')
      (notedBy (model prg w) A env fun x s' => R (.error x) s') s) :
    codeAny (model prg w) A (.compStart (.ListComp elt [⟨t0, i0, [], 0⟩, ⟨t1, i1, [], 0⟩] scope pos) 1 it acc env) R s := by
  refine codeAny_of_tree ?_
  show wpAny _ _ ((compStart (.ListComp elt [⟨t0, i0, [], 0⟩, ⟨t1, i1, [], 0⟩] scope pos) 1 it acc env).onRaise (fun x => do noteFrame x env; standAt theWindowsPlace)) _ _ s
  refine wpAny_notedAt ?_
  unfold compStart
  show wpAny _ A (ask >>= _) _ _ s
  refine wpAny_bind (wpAny_askSetting (wpAny_ite ?_))
  split
  · first
      | exact wpAny_bind (wpAny_pure (wpAny_pure (And.intro rfl h0)))
      | exact wpAny_pure (And.intro rfl h0)
  · first
      | exact wpAny_bind (wpAny_rule (wpAny_bind (wpAny_standAt (wpAny_bind (wpAny_mono h (fun it' s' h' => wpAny_pure (And.intro rfl h')) fun _ _ x => x)))))
      | (refine wpAny_bind (wpAny_rule ?_); show wpAny _ _ (standAt i1.pos >>= _) _ _ s; exact wpAny_bind (wpAny_standAt (wpAny_bind (wpAny_mono h (fun it' s' h' => wpAny_pure (And.intro rfl h')) fun _ _ x => x))))
theorem compLoop_two1 {elt t0 i0 t1 i1 : Expr} {scope : Scope} {it acc : Value} {R : Result → Shared → Prop} (J : Nat → Shared → Prop)
    (turn : ∀ n s, J n s → wpAny (model prg w) A (pyNext it) (fun r s₁ => match r with
      | none => R (.ok .next) s₁
      | some v => wpAny (model prg w) A (assign t1 env v) (fun _ s₂ => wpAny (model prg w) A (eval elt env) (fun x s₄ =>
          wpAny (model prg w) A (call (.builtin "list.append") [acc, x]) (fun _ s₅ => ∃ m, m < n ∧ J m s₅) F0 s₄) F0 s₂) F0 s₁) F0 s)
    (n : Nat) (h : J n s) (ht : ∀ v, letOwnedTupleGo t1 it v = pure () := by intro _; rfl) :
    codeAny (model prg w) A (.compLoop (.ListComp elt [⟨t0, i0, [], 0⟩, ⟨t1, i1, [], 0⟩] scope pos) 1 it acc env) R s := by
  refine codeAny_loop rfl J (fun n s hI => ?_) n h
  show wpAny _ A ((compTurn (.ListComp elt [⟨t0, i0, [], 0⟩, ⟨t1, i1, [], 0⟩] scope pos) 1 it acc env).onRaise (fun x => do noteFrame x env; theTreesLotGoes x)) _ _ s
  refine wpAny_noted ?_
  rw [compTurn_two1]
  refine wpAny_bind (wpAny_standAt (wpAny_bind (wpAny_mono (turn n s hI) (fun r s₁ h₁ => ?_) fun _ _ h' => h'.elim)))
  cases r with
  | none => exact wpAny_pure h₁
  | some v =>
    refine wpAny_bind (wpAny_of_eq (ht v) ?_)
    exact wpAny_bind (wpAny_mono h₁ (fun _ s₂ h₂ => wpAny_bind (wpAny_bind (wpAny_mono h₂ (fun x s₄ h₄ => wpAny_bind (wpAny_mono h₄ (fun _ s₅ h₅ => wpAny_pure (wpAny_pure ⟨rfl, h₅⟩)) fun _ _ h' => h'.elim)) fun _ _ h' => h'.elim))) fun _ _ h' => h'.elim)
theorem compLoop_two0 {elt t0 i0 t1 i1 : Expr} {scope : Scope} {it acc : Value} {R : Result → Shared → Prop} (J : Nat → Shared → Prop)
    (turn : ∀ n s, J n s → wpAny (model prg w) A (pyNext it) (fun r s₁ => match r with
      | none => R (.ok .next) s₁
      | some v => wpAny (model prg w) A (assign t0 env v) (fun _ s₂ => wpAny (model prg w) A (eval i1 env) (fun x s₄ => wpAny (model prg w) A (pyIter x) (fun it' s₅ =>
          codeAny (model prg w) A (.compStart (.ListComp elt [⟨t0, i0, [], 0⟩, ⟨t1, i1, [], 0⟩] scope pos) 1 it' acc env) (fun r s₆ => ∃ f, r = .ok f ∧ ∃ m, m < n ∧ J m s₆) s₅) F0 s₄) F0 s₂) F0 s₁) F0 s)
    (n : Nat) (h : J n s) (ht : ∀ v, letOwnedTupleGo t0 it v = pure () := by intro _; rfl) (hs : ∀ x, foldedSetIterable i1 env x = pure x := by intro _; rfl) :
    codeAny (model prg w) A (.compLoop (.ListComp elt [⟨t0, i0, [], 0⟩, ⟨t1, i1, [], 0⟩] scope pos) 0 it acc env) R s := by
  refine codeAny_loop rfl J (fun n s hI => ?_) n h
  show wpAny _ A ((compTurn (.ListComp elt [⟨t0, i0, [], 0⟩, ⟨t1, i1, [], 0⟩] scope pos) 0 it acc env).onRaise (fun x => do noteFrame x env; theTreesLotGoes x)) _ _ s
  refine wpAny_noted ?_
  rw [compTurn_two0]
  refine wpAny_bind (wpAny_standAt (wpAny_bind (wpAny_mono (turn n s hI) (fun r s₁ h₁ => ?_) fun _ _ h' => h'.elim)))
  cases r with
  | none => exact wpAny_pure h₁
  | some v =>
    refine wpAny_bind (wpAny_of_eq (ht v) ?_)
    refine wpAny_bind (wpAny_mono h₁ (fun _ s₂ h₂ => ?_) fun _ _ h' => h'.elim)
    refine wpAny_bind (wpAny_mono h₂ (fun x s₄ h₄ => ?_) fun _ _ h' => h'.elim)
    refine wpAny_bind (wpAny_standAt ?_)
    refine wpAny_bind (wpAny_of_eq (hs x) ?_)
    refine wpAny_bind (wpAny_holding (wpAny_mono h₄ (fun it' s₅ h₅ => ?_) fun _ _ h' => h'.elim))
    refine wpAny_bind (wpAny_runOwn (h := none) (codeAny_mono h₅ fun r s₆ h₆ => ?_))
    obtain ⟨f, rfl, h₆⟩ := h₆
    exact wpAny_pure ⟨rfl, h₆⟩
end
end
section
theorem below_go (xs : Array Nat) (hs : xs.toList.Pairwise (· < ·)) (j : Nat) : ∀ (fuel lo hi : Nat), hi - lo ≤ fuel → lo ≤ hi → hi ≤ xs.size → (∀ i, i < lo → ∀ v, xs[i]? = some v → v < j) → (∀ i, hi ≤ i → ∀ v, xs[i]? = some v → j ≤ v) →
    let r := SetTable.below.go xs j fuel lo hi
    r ≤ xs.size ∧ (∀ i, i < r → ∀ v, xs[i]? = some v → v < j) ∧ (∀ i, r ≤ i → ∀ v, xs[i]? = some v → j ≤ v) := by
  have mono : ∀ a b va vb, a < b → xs[a]? = some va → xs[b]? = some vb → va < vb := fun a b va vb hab ha hb => by
    rw [← Array.getElem?_toList] at ha hb
    obtain ⟨ha1, ha2⟩ := List.getElem?_eq_some_iff.mp ha
    obtain ⟨hb1, hb2⟩ := List.getElem?_eq_some_iff.mp hb
    have := List.pairwise_iff_getElem.mp hs a b ha1 hb1 hab
    rw [ha2, hb2] at this; exact this
  intro fuel
  induction fuel with
  | zero =>
    intro lo hi h1 h2 h3 h4 h5
    have : lo = hi := by (first | lia | omega)
    subst this
    exact ⟨h3, h4, h5⟩
  | succ fuel ih =>
    intro lo hi h1 h2 h3 h4 h5
    dsimp only
    rw [SetTable.below.go]
    by_cases hlt : lo < hi
    · rw [if_pos hlt]
      have hm1 : (lo + hi) / 2 < hi := by (first | lia | omega)
      have hm0 : lo ≤ (lo + hi) / 2 := by (first | lia | omega)
      have hmv : xs[(lo + hi) / 2]? = some (xs.getD ((lo + hi) / 2) j) := by
        have : (lo + hi) / 2 < xs.size := by (first | lia | omega)
        simp [Array.getD, this]
      dsimp only
      by_cases hj : xs.getD ((lo + hi) / 2) j < j
      · rw [if_pos hj]
        refine ih _ _ (by (first | lia | omega)) (by (first | lia | omega)) h3 (fun i hi' v hv => ?_) h5
        rcases Nat.lt_or_eq_of_le (Nat.le_of_lt_succ hi') with h | h
        · exact Nat.lt_trans (mono _ _ _ _ h hv hmv) hj
        · rw [h, hmv] at hv; cases hv; exact hj
      · rw [if_neg hj]
        refine ih _ _ (by (first | lia | omega)) hm0 (by (first | lia | omega)) h4 (fun i hi' v hv => ?_)
        rcases Nat.lt_or_eq_of_le hi' with h | h
        · have := mono _ _ _ _ h hmv hv; (first | lia | omega)
        · rw [← h, hmv] at hv; cases hv; (first | lia | omega)
    · rw [if_neg hlt]
      have : lo = hi := by (first | lia | omega)
      subst this
      exact ⟨h3, h4, h5⟩
theorem below_spec (xs : Array Nat) (hs : xs.toList.Pairwise (· < ·)) (j : Nat) : SetTable.below xs j ≤ xs.size ∧ (∀ i, i < SetTable.below xs j → ∀ v, xs[i]? = some v → v < j) ∧ (∀ i, SetTable.below xs j ≤ i → ∀ v, xs[i]? = some v → j ≤ v) :=
  below_go xs hs j xs.size 0 xs.size (by (first | lia | omega)) (Nat.zero_le _) (Nat.le_refl _) (fun i h => absurd h (Nat.not_lt_zero _)) fun i h v e => by have := (Array.getElem?_eq_some_iff.mp e).1; (first | lia | omega)
theorem insert_sorted (xs : Array Nat) (hs : xs.toList.Pairwise (· < ·)) (j : Nat) (hj : xs[SetTable.below xs j]? ≠ some j) : (SetTable.insertAt xs (SetTable.below xs j) j).toList.Pairwise (· < ·) := by
  obtain ⟨h1, h2, h3⟩ := below_spec xs hs j
  rw [SetTable.toList_insertAt]
  have hsplit : xs.toList.take (SetTable.below xs j) ++ xs.toList.drop (SetTable.below xs j) = xs.toList := List.take_append_drop _ _
  have hs' := hs
  rw [← hsplit, List.pairwise_append] at hs'
  rw [List.pairwise_append]
  have hlow : ∀ a ∈ xs.toList.take (SetTable.below xs j), a < j := fun a ha => by
    obtain ⟨i, hi, e⟩ := List.mem_take_iff_getElem.mp ha
    exact h2 i (by (first | lia | omega)) a (by rw [← Array.getElem?_toList, List.getElem?_eq_getElem (by (first | lia | omega)), e])
  have hhigh : ∀ a ∈ xs.toList.drop (SetTable.below xs j), j < a := fun a ha => by
    obtain ⟨i, hi, e⟩ := List.mem_drop_iff_getElem.mp ha
    have hv : xs[SetTable.below xs j + i]? = some a := by
      rw [← Array.getElem?_toList, List.getElem?_eq_getElem (by rw [Array.length_toList]; rw [Array.length_toList] at hi; (first | lia | omega))]; rw [← e]
    have hle := h3 _ (Nat.le_add_right _ i) a hv
    rcases Nat.lt_or_eq_of_le hle with h | h
    · exact h
    · subst h
      exfalso
      rcases Nat.eq_zero_or_pos i with h0 | h0
      · subst h0; exact hj hv
      · have hsz := (Array.getElem?_eq_some_iff.mp hv).1
        have hb : xs[SetTable.below xs j]? = some (xs[SetTable.below xs j]'(by (first | lia | omega))) := Array.getElem?_eq_getElem (by (first | lia | omega))
        have hge := h3 _ (Nat.le_refl _) _ hb
        rw [← Array.getElem?_toList] at hv hb
        obtain ⟨ha1, ha2⟩ := List.getElem?_eq_some_iff.mp hv
        obtain ⟨hb1, hb2⟩ := List.getElem?_eq_some_iff.mp hb
        have := List.pairwise_iff_getElem.mp hs _ _ hb1 ha1 (by (first | lia | omega))
        rw [hb2, ha2] at this
        (first | lia | omega)
  refine ⟨hs'.1, List.pairwise_cons.mpr ⟨hhigh, hs'.2.1⟩, fun a ha b hb => ?_⟩
  rcases List.mem_cons.mp hb with rfl | hb
  · exact hlow a ha
  · exact Nat.lt_trans (hlow a ha) (hhigh b hb)
theorem has_empty (j : Nat) : SetTable.has #[] j = false := by simp [SetTable.has]
theorem probe_go {t : SetTable} (hd : t.dummies = #[]) (ha : Nat → Int) (h : Int) : ∀ (fuel : Nat) (p : SetTable.Probe), p.dummy = none → ∀ j d, SetTable.probe.go t ha h fuel p = some (.empty j d) → d = none ∧ t.slot j = .empty := by
  intro fuel
  induction fuel with
  | zero => intro p hp j d e; cases e
  | succ fuel ih =>
    intro p hp j d e
    rw [SetTable.probe.go] at e
    have hns : t.slot p.j ≠ .dummy := by
      unfold SetTable.slot
      rw [hd, has_empty]
      dsimp only
      split <;> simp
    cases hsl : t.slot p.j with
    | empty => rw [hsl] at e; cases e; exact ⟨hp, hsl⟩
    | dummy => exact absurd hsl hns
    | live i =>
      rw [hsl] at e
      dsimp only at e
      have had : (t.advance p).dummy = none := by unfold SetTable.advance; dsimp only; split <;> exact hp
      split at e
      · cases e
      · exact ih _ had _ _ e
theorem range_sorted (n : Nat) : (List.range n).Pairwise (· < ·) := List.pairwise_lt_range
section
variable {w : World}
theorem good_standIn {t : SetTable} (n : Nat) (h : t.led = true ∨ w.params.followText "set-order" = true) : GoodT w (t.standIn n) := ⟨by simp [SetTable.standIn, range_sorted], rfl, h⟩
theorem good_layNew {t : SetTable} (es : Array (Int × Value)) (h : Int) (x : Value) (g : GoodT w t) : GoodT w (layNew t es h x).2.1 := by
  obtain ⟨g1, g2, g3⟩ := g
  unfold layNew
  cases hf : t.freeSlot h with
  | none => exact good_standIn _ g3
  | some p =>
    obtain ⟨slot, wd⟩ := p
    dsimp only
    have hslot : t.slot slot = .empty := by
      unfold SetTable.freeSlot at hf
      cases hp : t.probe (fun _ => h + 1) h (t.probeStart h) with
      | none => rw [hp] at hf; cases hf
      | some m =>
        rw [hp] at hf
        cases m with
        | candidate => cases hf
        | empty j d =>
          obtain ⟨rfl, he⟩ := probe_go g2 _ _ _ _ (by rfl) _ _ hp
          cases hf
          exact he
    have hg : GoodT w (t.put slot).1 := by
      refine ⟨?_, ?_, g3⟩
      · refine insert_sorted _ g1 _ fun e => ?_
        unfold SetTable.slot at hslot
        dsimp only at hslot
        rw [e] at hslot
        simp at hslot
      · show (if SetTable.has t.dummies slot then _ else t.dummies) = _
        rw [g2, has_empty]; rfl
    unfold SetTable.orStandIn
    split
    · exact hg
    · exact good_standIn _ g3
theorem good_relayAll {t : SetTable} (es : Array (Int × Value)) (n : Nat) (g : GoodT w t) : GoodT w (relayAll t es n).2.1 := by
  obtain ⟨g1, g2, g3⟩ := g
  unfold relayAll
  cases hr : t.relaid (es.map (·.1)) n with
  | none => exact good_standIn _ g3
  | some p =>
    obtain ⟨t', order⟩ := p
    dsimp only
    split
    · unfold SetTable.relaid SetTable.laid at hr
      cases ho : SetTable.layClean (SetTable.sizeAbove n - 1) (es.map (·.1)) with
      | none => rw [ho] at hr; cases hr
      | some owner =>
        rw [ho] at hr
        simp only [Option.bind_eq_bind, Option.bind_some, Option.pure_def, Option.some.injEq, Prod.mk.injEq] at hr
        obtain ⟨rfl, _⟩ := hr
        refine ⟨?_, rfl, g3⟩
        show (List.map _ _).Pairwise _
        rw [List.map_filterMap]
        have : ∀ m, ((List.range m).filterMap fun j => Option.map (fun x => x.1) ((owner.getD j none).map (j, ·))).Pairwise (· < ·) := fun m => by
          refine List.Pairwise.filterMap (R := (· < ·)) _ (fun a a' hlt b hb b' hb' => ?_) (range_sorted m)
          cases hoa : owner.getD a none <;> cases hob : owner.getD a' none <;> simp [hoa, hob] at hb hb'
          subst hb; subst hb'; exact hlt
        exact this _
    · exact good_standIn _ g3
end

section
variable {w : World} {A : Around} {E : Value → Shared → Prop} {s : Shared} {a : Addr}
noncomputable def SetAt (w : World) (h : Heap) (a : Addr) (ns : List Int) : Prop := ∃ o, h.get? a = some o ∧ (G.setI ns).is w o
theorem set_store {es es1 : Array (Int × Value)} {ep : Nat} {t t1 : SetTable} {o : Obj} {ns : List Int} {h : Heap} (ho : h.get? a = some o) (hex : o.ExactSet) (hd : o.data = .set es ep t)
    (hel : ElemsOf (intKind prg w) es1.toList) {ms : List Int} (hp : ms.Perm ns) (h2 : All2 (fun n e => (intKind prg w).is n e.2 = true) ms es1.toList) (hb : es1.size < scanBound) (hf : t1.fits es1.size = true) (hg : GoodT w t1) :
    ∃ o' : Obj, (h.update a (Obj.putSet es1 t1)).get? a = some o' ∧ o'.ExactSet ∧ o'.data = .set es1 (ep + 1) t1 ∧ (G.setI ns).is w o' := by
  have hg' := Heap.get?_update_self (Obj.putSet es1 t1) ho (by rw [putSet_of es1 t1 hd]; rfl)
  rw [putSet_of es1 t1 hd] at hg'
  exact ⟨_, hg', hex, rfl, hex, es1, ep + 1, t1, ms, rfl, hel, hp, h2, hb, hf, hg⟩

theorem setAdd_tail {g : Bool → Sem Unit} (hg : ∀ (b : Bool) (s₁ : Shared) (Q' : Unit → Shared → Prop), Q' () s₁ → wpAny (model prg w) A (g b) Q' E s₁)
    {es es1 : Array (Int × Value)} {ep : Nat} {t t1 : SetTable} {o : Obj} {ns : List Int} (ho : s.heap.get? a = some o) (hex : o.ExactSet) (hd : o.data = .set es ep t)
    (hel : ElemsOf (intKind prg w) es1.toList) {ms : List Int} (hp : ms.Perm ns) (h2 : All2 (fun n e => (intKind prg w).is n e.2 = true) ms es1.toList) (hb : es1.size < scanBound) (hf : t1.fits es1.size = true) (hgd : GoodT w t1)
    {wasDummy : Bool} {R : Option Bool → Shared → Prop} (h : ∀ h', Heap.SameBut a s.heap h' → SetAt w h' a ns → R (some true) { s with heap := h' }) :
    wpAny (model prg w) A (do
        storeSet a es1 t1
        if (!wasDummy && t1.tooFull) = true then do
            g (relayAll t1 es1 (SetTable.grown es1.size)).2.2
            storeSet a (relayAll t1 es1 (SetTable.grown es1.size)).1 (relayAll t1 es1 (SetTable.grown es1.size)).2.1
            pure (some true)
          else pure (some true)) R E s := by
  refine wpAny_bind (wpAny_storeSet_of ho hd ?_ (fits_of_scanBound hb))
  obtain ⟨o1, ho1, hex1, hd1, hS1⟩ := set_store (w := w) ho hex hd hel hp h2 hb hf hgd
  have hsb1 := Heap.SameBut.update s.heap a (Obj.putSet es1 t1)
  split
  · have hpm := relayAll_perm t1 es1 (SetTable.grown es1.size)
    have hfr := relayAll_fits t1 es1 (SetTable.grown es1.size)
    have hgr := good_relayAll es1 (SetTable.grown es1.size) hgd
    generalize relayAll t1 es1 (SetTable.grown es1.size) = Rl at hpm hfr hgr ⊢
    obtain ⟨es2, t3, gave2⟩ := Rl
    dsimp only at hpm hfr hgr ⊢
    obtain ⟨ms', hms, h2'⟩ := h2.perm hpm
    have hsz : es2.size = es1.size := by rw [← Array.length_toList, hpm.length_eq, Array.length_toList]
    have hb2 : es2.size < scanBound := by rw [hsz]; exact hb
    refine wpAny_bind (hg _ _ _ (wpAny_bind (wpAny_storeSet_of ho1 hd1 ?_ (fits_of_scanBound hb2))))
    obtain ⟨o2, ho2, _, _, hS2⟩ := set_store (w := w) (ns := ns) ho1 hex1 hd1 (hel.perm hpm) (hms.trans hp) h2' hb2 hfr hgr
    exact wpAny_pure (h _ (hsb1.trans (Heap.SameBut.update _ a _)) ⟨o2, ho2, hS2⟩)
  · exact wpAny_pure (h _ hsb1 ⟨o1, ho1, hS1⟩)

theorem setAdd_good {k : Int} {tk : Tok} {ns : List Int} {Q : Bool → Shared → Prop} (hS : SetAt w s.heap a ns) (hroom : ns.length + 1 < scanBound)
    (h : ∀ b h', Heap.SameBut a s.heap h' → SetAt w h' a (addK ns k) → Q b { s with heap := h' }) : wpAny (model prg w) A (setAddHashed a (.int k tk) ((intKind prg w).hash k)) Q E s := by
  obtain ⟨o, ho, hex, es, ep, t, ms, hd, hel, hp, h2, hb, hf, hgd⟩ := hS
  have hn : es.size = ns.length := by rw [← h2.size, hp.length_eq]
  unfold setAddHashed setAddHashedIn
  refine wpAny_holding (wpAny_bind (wpAny_setState_of ho hd hf ?_))
  dsimp only
  rw [byScan_of (knd := intKind prg w) rfl hb hel]
  simp only [↓reduceIte]
  unfold setAddByScan
  refine wpAny_bind (wpAny_bind (wpAny_rule (wpAny_bind (wpAny_setScan_of (knd := intKind prg w) is_int ho hd hf hel ?_))))
  cases hr : List.findIdx? (fun e => (intKind prg w).is k e.2) es.toList with
  | some j =>
    dsimp only
    obtain ⟨hj, hpj, _⟩ := List.findIdx?_eq_some_iff_getElem.mp hr
    obtain ⟨n, hn1, hn2⟩ := h2.mem_right (List.getElem_mem hj)
    have hnk : n = k := (intKind prg w).inj _ _ _ hn2 hpj
    subst hnk
    have ha : addK ns n = ns := by unfold addK; rw [if_pos (List.any_eq_true.mpr ⟨n, hp.mem_iff.mp hn1, by simp⟩)]
    refine wpAny_pure (wpAny_pure ?_)
    have e : s = { s with heap := s.heap } := by cases s; rfl
    rw [e]
    exact h _ _ (Heap.SameBut.refl a s.heap) (by rw [ha]; exact ⟨o, ho, hex, es, ep, t, ms, hd, hel, hp, h2, hb, hf, hgd⟩)
  | none =>
    dsimp only
    have hnot : k ∉ ns := fun hk => by
      obtain ⟨e, he, hpe⟩ := h2.mem_left (hp.mem_iff.mpr hk)
      have := List.findIdx?_eq_none_iff.mp hr e he
      rw [hpe] at this; exact Bool.noConfusion this
    have ha : addK ns k = ns ++ [k] := by
      unfold addK
      rw [if_neg fun h => ?_]
      obtain ⟨b, hb, e⟩ := List.any_eq_true.mp h
      have : b = k := by simpa using e
      exact hnot (this ▸ hb)
    have hgw : ∀ (b : Bool) {s₁ : Shared} {Q' : Unit → Shared → Prop}, Q' () s₁ → wpAny (model prg w) A (match b with | true => rule "set.scan.the-table-gave-way" | false => pure ()) Q' E s₁ :=
      fun b s₁ Q' hq => by cases b <;> first | exact wpAny_pure hq | exact wpAny_rule hq
    have hperm := layNew_perm t es ((intKind prg w).hash k) (.int k tk)
    have hfits := layNew_fits t es ((intKind prg w).hash k) (.int k tk)
    have hgood := good_layNew es ((intKind prg w).hash k) (.int k tk) hgd
    generalize layNew t es ((intKind prg w).hash k) (.int k tk) = LN at hperm hfits hgood ⊢
    obtain ⟨es1, t1, wasDummy, gave⟩ := LN
    dsimp only at hperm hfits hgood ⊢
    rw [Array.toList_push] at hperm
    have hel1 : ElemsOf (intKind prg w) es1.toList := (hel.push is_int rfl).perm hperm
    obtain ⟨ms', hms, h2'⟩ := (h2.snoc (a := k) (b := ((intKind prg w).hash k, .int k tk)) is_int).perm hperm
    have hp' : ms'.Perm (addK ns k) := by rw [ha]; exact hms.trans (hp.append_right _)
    have hsz1 : es1.size = es.size + 1 := by rw [← Array.length_toList, hperm.length_eq, List.length_append, Array.length_toList]; rfl
    have hb1 : es1.size < scanBound := by rw [hsz1, hn]; exact hroom
    refine wpAny_bind (hgw _ ?_)
    split
    · refine wpAny_bind ?_
      rw [hashByValue_scannable 8 rfl]
      refine wpAny_pure ?_
      refine setAdd_tail ?_ ho hex hd hel1 hp' h2' hb1 hfits hgood ?_
      · intro b s₁ Q' hq; cases b <;> first | exact wpAny_pure hq | exact wpAny_rule hq
      · intro h' hsb hS'; dsimp only; exact wpAny_pure (h _ _ hsb hS')
    · refine wpAny_bind (wpAny_pure ?_)
      simp only [↓reduceIte]
      refine setAdd_tail ?_ ho hex hd hel1 hp' h2' hb1 hfits hgood ?_
      · intro b s₁ Q' hq; cases b <;> first | exact wpAny_pure hq | exact wpAny_rule hq
      · intro h' hsb hS'; dsimp only; exact wpAny_pure (h _ _ hsb hS')
end
end
section
abbrev newSetObj (w : World) : Obj := { cls := .type "set", dict := none, data := .set #[] 0 (.fresh 0 0 (!w.params.followText "set-order")) }
theorem newSet_is (w : World) : (G.setI []).is w (newSetObj w) := by
  refine ⟨⟨rfl, rfl, rfl⟩, #[], 0, _, [], rfl, fun e he => by simp at he, .nil, .nil, by decide, rfl, by simp [SetTable.fresh], rfl, ?_⟩
  show (!w.params.followText "set-order") = true ∨ _
  cases w.params.followText "set-order" <;> simp
section
variable {w : World} {Z : Heap} {b₀ : Shared} {P P' : Pers} {L a y C I : Addr} {loc loc' : List (Str × LV)} {tmp tmp' : List (Addr × G)} {tt tt' : List (Addr × List LV)} {s s' : Shared} {h' : Heap} {tk : Nat}
  {A : Around} {E : Value → Shared → Prop} {env : Env} {x : Str} {pos px : Pos} {Q : Value → Shared → Prop} {QO : Option Value → Shared → Prop} {QU : Unit → Shared → Prop} {QF : Flow → Shared → Prop} {n : Nat} {fs : List (Str × Value)}
theorem code_newSet (v : Value) {Q₁ : Value → Shared → Prop} (h : Q₁ (.ref s.heap.objs.size) { s with heap := s.heap.push (newSetObj w) }) :
    codeAny (model prg w) A (.call (.builtin "set.__new__") ⟨[.type "set", v], []⟩) (wants Q₁ E) s := by
  refine codeAny_of_tree ?_
  show wpAny _ A.in1 (do checkBuiltinCall "set.__new__" ⟨[.type "set", v], []⟩; again (.builtin "set.__new__" ⟨[.type "set", v], []⟩)) _ _ s
  refine wpAny_bind (wpAny_of_eq (F.newCall_set_1 v) (wpAny_pure ⟨plainId_quiet F.plain_set_new _, codeAny_builtin F.entry_set_new ?_⟩))
  rw [Around.under_plainId F.plain_set_new _]
  unfold Builtin.«set.__new__» Builtin.Frozenset.newClass
  have hsub := sub_set_self
  obtain ⟨hp, g, d, tk, os⟩ := s
  dsimp only
  wp_walk
  refine wpAny_askSetting (wpAny_pure ?_)
  dsimp only
  simp only [newObj]
  refine wpAny_bind (wpAny_alloc (wpAny_pure ?_))
  exact wpAny_pure h

theorem set_loop {l S : Addr} {ns : List Int} (hh : A.handled = none) (hn : ns.length + 1 < scanBound) (hm : (l, .list (ns.map .int)) ∈ tmp ++ P.objs) {R : Result → Shared → Prop}
    (hR : ∀ s', Cfg w Z b₀ P L loc ((S, .setI (setOf ns)) :: tmp) tt s' → R (.ok (.ret .none)) s') :
    ∀ (k i : Nat) (s : Shared), ns.length - i = k → i ≤ ns.length → Cfg w Z b₀ P L loc ((I, .liter l i) :: (S, .setI (setOf (ns.take i))) :: tmp) tt s →
      codeAny (model prg w) A (.builtin "set.update.loop" ⟨[.ref S, .ref I], []⟩) R s := by
  have N : Nx w Z b₀ I (ns.map .int) (G.liter l) (NeedL l (ns.map .int)) := nx_list
  have hneed : ∀ i ms, NeedL l (ns.map .int) P ((I, .liter l i) :: (S, .setI ms) :: tmp) tt := fun i ms => .tail _ (.tail _ hm)
  intro k
  induction k with
  | zero =>
    intro i s hk hi c
    have hin : i = ns.length := by (first | lia | omega)
    subst hin
    refine codeAny_builtin PyProof.Rows.F.entry_set_update_loop ?_
    rw [Around.under_plainId PyProof.Rows.F.plain_set_update_loop _]
    show wpAny _ A.in1 (pyNext (.ref I) >>= _) _ _ s
    have e : (ns.map LV.int).length = ns.length := List.length_map ..
    refine wpAny_bind (N.done (pre := []) hh (by rw [e]; exact c) (by rw [e]; exact hneed _ _) fun s' c' => ?_)
    rw [List.take_length] at c'
    exact wpAny_pure (hR _ c')
  | succ k ih =>
    intro i s hk hi c
    have hlt : i < ns.length := by (first | lia | omega)
    refine codeAny_builtin PyProof.Rows.F.entry_set_update_loop ?_
    rw [Around.under_plainId PyProof.Rows.F.plain_set_update_loop _]
    show wpAny _ A.in1 (pyNext (.ref I) >>= _) _ _ s
    refine wpAny_bind (N.item (i := i) (l := .int ns[i]) hh c (hneed _ _) .head (by simp [hlt]) fun v s' hv c' => ?_)
    obtain ⟨t, rfl⟩ := hv
    show wpAny _ A.in1 (holding [Value.int ns[i] t] (setAdd S (.int ns[i] t)) >>= _) _ _ s'
    refine wpAny_bind (wpAny_holding ?_)
    unfold setAdd
    refine wpAny_holding (wpAny_bind ((intKind prg w).pyHash (k := ns[i]) is_int ?_))
    obtain ⟨⟨o, ho, hg⟩, _⟩ := c'.led (S, .setI (setOf (ns.take i))) (by simp)
    have hroom : (setOf (ns.take i)).length + 1 < scanBound := by have := len_setOf (l := ns.take i); rw [List.length_take] at this; (first | lia | omega)
    refine setAdd_good (s := { s' with toks := s'.toks + 1 }) ⟨o, ho, hg⟩ hroom fun b h' hsb hS => ?_
    obtain ⟨o', ho', hg'⟩ := hS
    have c'' := c'.chgT (tk := s'.toks + 1) (.tail .head) hsb.extBut ⟨o', ho', hg'⟩
    rw [← setOf_snoc] at c''
    have e : ns.take i ++ [ns[i]] = ns.take (i + 1) := by simp
    rw [e] at c''
    exact wpAny_pure ⟨plainId_quiet PyProof.Rows.F.plain_set_update_loop _, ih (i + 1) _ (by (first | lia | omega)) hlt c''⟩

set_option maxHeartbeats 3200000 in
theorem r_set {l : Addr} {ns : List Int} (c : Cfg w Z b₀ P L loc tmp tt s) (hh : A.handled = none) (hm : (l, .list (ns.map .int)) ∈ tmp ++ P.objs) (hn : ns.length + 1 < scanBound)
    (h : ∀ d s', Cfg w Z b₀ P L loc ((d, .setI (setOf ns)) :: tmp) tt s' → Q (.ref d) s') : wpAny (model prg w) A (call (.type "set") [.ref l]) Q E s := by
  obtain ⟨cc, tl, hmro⟩ := F.called_set.mro
  have hmade := F.called_set.made
  have hsub := F.called_set.sub
  refine wpAny_call (codeAny_of_tree ?_)
  show wpAny _ _ (callAny (.type "set") _) _ _ _
  refine wpAny_pure ⟨Code.quiet_builtin _ (by decide +kernel), codeAny_builtin F.entry_type_call ?_⟩
  rw [Around.under_plain (weight_type_call_type "set" [.ref l] []) rfl]
  have h1 := F.called_set.notType
  have h2 := F.called_set.canCreate
  have hct := F.typeCall_set_1 (.ref l)
  repeat (any_goals (first | assumption | wp_step))
  refine codeAny_mono (code_newSet (.ref l) (E := E) (Q₁ := fun obj s₁ => ∃ S, obj = .ref S ∧ s₁.heap.get? S = some (newSetObj w) ∧ Cfg w Z b₀ P L loc ((S, .setI []) :: tmp) tt s₁)
    ⟨_, rfl, Heap.get?_push_size _ rfl, c.new (tk := s.toks) (fun b o e => Heap.get?_push_of_some _ e) (new_size _) ⟨_, Heap.get?_push_size _ rfl, newSet_is w⟩⟩) fun r s₁ hr => ?_
  cases r with
  | error e => exact hr
  | ok fl =>
    cases fl with
    | ret obj =>
      obtain ⟨S, rfl, hS, c₁⟩ := hr
      have hT : s₁.TypeIs (.ref S) "set" := ⟨_, hS, rfl⟩
      have hli := F.called_set.init.lookup
      have hbi := F.called_set.init.bind (.ref S)
      repeat (any_goals (first | assumption | wp_step))
      refine codeAny_mono (codeAny_call_builtin (R := wants (fun r s₂ => r = .none ∧ Cfg w Z b₀ P L loc ((S, .setI (setOf ns)) :: tmp) tt s₂) E) F.called_set.init.plain F.entry_set_init (check_set_init_1 hT ?_)) fun r₂ s₂ hr₂ => ?_
      · obtain ⟨vs, n, hl, hv⟩ := c₁.isL (a := l) (ls := ns.map .int) (by rcases List.mem_append.mp hm with h | h; exact List.mem_append_left _ (.tail _ h); exact List.mem_append_right _ h)
        have hol' : s₁.heap.get? l = some { cls := .type "list", data := .seq vs n } := hl
        have hsls := F.sub_list_set
        have hslf := F.sub_list_frozenset
        have hne : (Value.type "list" == Value.type "dict") = false := by decide
        unfold Builtin.«set.__init__» noKeywords Builtin.Frozenset.updateFrom
        generalize hPI : pyIter = PI
        wp_walk
        subst hPI
        refine r_iterL c₁ (xs := ns.map .int) (by rcases List.mem_append.mp hm with h | h; exact List.mem_append_left _ (.tail _ h); exact List.mem_append_right _ h) fun I s₃ c₃ => ?_
        refine wpAny_bind (wpAny_runValue ?_)
        refine set_loop (l := l) (ns := ns) (by simp [hh]) hn hm (fun s' c' => ?_) ns.length 0 _ (by (first | lia | omega)) (Nat.zero_le _) c₃
        exact wpAny_pure (wpAny_pure ⟨rfl, c'⟩)
      · cases r₂ with
        | error e => exact hr₂
        | ok fl₂ =>
          cases fl₂ with
          | ret r =>
            obtain ⟨rfl, c₂⟩ := hr₂
            repeat (any_goals (first | assumption | wp_step))
            exact h _ _ c₂
          | _ => exact hr₂.elim
    | _ => exact hr.elim
end
end
section
theorem slot_seti_next : Slot "set_iterator" "__next__" "set_iterator.__next__" :=
  .of (owner := "set_iterator") (n := "__next__") (by rw [typeLookup_type, builtinLookup_eq_fast]; kernel_rfl) (by decide +kernel) (by decide +kernel) (by decide +kernel)
    (by first | exact .inl (by decide +kernel) | exact .inr (by decide +kernel)) (by rw [isSubtype_type]; kernel_rfl)
theorem entry_seti_next : entryFor table "set_iterator.__next__" = some Builtin.«set_iterator.__next__» := entryFor_of_tree (by kernel_rfl)
theorem args_seti_next (a : Value) : argsOk "set_iterator.__next__" ⟨[a], []⟩ := by unfold argsOk; kernel_rfl
theorem slot_seti_iter : Slot "set_iterator" "__iter__" "set_iterator.__iter__" :=
  .of (owner := "set_iterator") (n := "__iter__") (by rw [typeLookup_type, builtinLookup_eq_fast]; kernel_rfl) (by decide +kernel) (by decide +kernel) (by decide +kernel)
    (by first | exact .inl (by decide +kernel) | exact .inr (by decide +kernel)) (by rw [isSubtype_type]; kernel_rfl)
theorem entry_seti_iter : entryFor table "set_iterator.__iter__" = some Builtin.«dict_keyiterator.__iter__» :=
  entryFor_alias (id' := "dict_keyiterator.__iter__") (by kernel_rfl) rfl (by decide +kernel) (by kernel_rfl)
theorem args_seti_iter (a : Value) : argsOk "set_iterator.__iter__" ⟨[a], []⟩ := by unfold argsOk; kernel_rfl
theorem entry_set_iter' : entryFor table "set.__iter__" = some Builtin.«frozenset.__iter__» :=
  entryFor_alias (id' := "frozenset.__iter__") (by kernel_rfl) rfl (by decide +kernel) (by kernel_rfl)

theorem erase_perm {α : Type} : ∀ (l : List α) (i : Nat) (h : i < l.length), (l[i] :: l.eraseIdx i).Perm l
  | x :: l, 0, _ => .refl _
  | x :: l, i + 1, h => by
    show (l[i]'(by simpa using h) :: x :: l.eraseIdx i).Perm (x :: l)
    exact (List.Perm.swap ..).trans ((erase_perm l i (by simpa using h)).cons x)
theorem pick_go {α : Type} (next : Nat → Nat) : ∀ (fuel k : Nat) (left : List α) (out : Array α), fuel = left.length → (pickOrder.go next fuel k left out).toList.Perm (out.toList ++ left) := by
  intro fuel
  induction fuel with
  | zero => intro k left out h; have : left = [] := List.length_eq_zero_iff.mp h.symm; subst this; simp [pickOrder.go]
  | succ fuel ih =>
    intro k left out h
    have hlt : next k % left.length < left.length := Nat.mod_lt _ (by (first | lia | omega))
    rw [pickOrder.go, List.getElem?_eq_getElem hlt]
    dsimp only
    refine (ih (k + 1) _ _ (by rw [List.length_eraseIdx]; split <;> (first | lia | omega))).trans ?_
    rw [Array.toList_push, List.append_assoc]
    refine List.Perm.append_left _ ?_
    exact erase_perm _ _ hlt
theorem pick_perm {α : Type} (next : Nat → Nat) (xs : Array α) : (pickOrder next xs).toList.Perm xs.toList := by
  exact pick_go next xs.size 0 xs.toList #[] (by simp)

section
variable {w : World} {Z : Heap} {b₀ : Shared} {P P' : Pers} {L a y C I : Addr} {loc loc' : List (Str × LV)} {tmp tmp' : List (Addr × G)} {tt tt' : List (Addr × List LV)} {s s' : Shared} {h' : Heap} {tk : Nat}
  {A : Around} {E : Value → Shared → Prop} {env : Env} {x : Str} {pos px : Pos} {Q : Value → Shared → Prop} {QO : Option Value → Shared → Prop} {QU : Unit → Shared → Prop} {QF : Flow → Shared → Prop} {n : Nat} {fs : List (Str × Value)}
theorem Cfg.drawn (c : Cfg w Z b₀ P L loc tmp tt s) (d) : Cfg w Z b₀ P L loc tmp tt { s with drawn := d } := ⟨c.keep, c.os, c.gens, c.ns, c.nl, c.newL, c.led, c.nd, c.tup⟩
theorem r_drawOrder {α : Type} : ∀ (n : Nat) (xs : List α) (s : Shared) {Q : List α → Shared → Prop}, n = xs.length → (∀ ys d, ys.Perm xs → Q ys { s with drawn := d }) → wpAny (model prg w) A (drawOrder n xs) Q E s
  | 0, xs, s, Q, hn, h => by
    have : xs = [] := List.length_eq_zero_iff.mp hn.symm
    subst this
    unfold drawOrder
    exact wpAny_pure (by have := h [] s.drawn .nil; exact this)
  | n + 1, [], s, Q, hn, h => by cases hn
  | n + 1, x :: xs, s, Q, hn, h => by
    unfold drawOrder
    have hb : ∀ {k : Nat → Sem (List α)}, (∀ i d, i < (x :: xs).length → wpAny (model prg w) A (k i) Q E { s with drawn := d }) → wpAny (model prg w) A (choose .order (x :: xs).length >>= k) Q E s := by
      intro k hk Γ p hΓ
      show Sem.wp (model prg w) Γ (.choose .order (x :: xs).length k) _ _ p s
      rw [Sem.wp_choose]
      exact ⟨by simp, hk _ _ (Nat.mod_lt _ (by simp)) Γ p hΓ⟩
    refine hb fun i d hi => ?_
    rw [List.getElem?_eq_getElem hi]
    dsimp only
    refine wpAny_bind (r_drawOrder n _ _ (by rw [List.length_eraseIdx, if_pos hi]; (first | lia | omega)) fun ys d' hp => ?_)
    exact wpAny_pure (h _ d' ((hp.cons _).trans (erase_perm _ _ hi)))

/-- the walk of a set runs out -/
theorem seti_end {o : Obj} {vs : Array Value} (hh : A.handled = none) (ho : s.heap.get? I = some o) (hc : o.cls = .type "set_iterator") (hd : o.data = .fields vs) (hsz : 2 < vs.size)
    (hQ : ∀ h', Heap.ExtBut I s.heap h' → QO none { s with heap := h' })
    (hbody : ∀ (P : Fin → Shared → Prop) (E' : Value → Shared → Prop), (∀ s₁, Heap.ExtBut I s.heap s₁.heap → s₁ = { s with heap := s₁.heap } → wpAny (model prg w) A.in1 (do raiseNew (← newExc (.type "StopIteration") [])) P E' s₁) → wpAny (model prg w) A.in1 (Builtin.«set_iterator.__next__» ⟨[.ref I], []⟩) P E' s) :
    wpAny (model prg w) A (pyNext (.ref I)) QO E s := by
  have hT : s.TypeIs (.ref I) "set_iterator" := ⟨o, ho, hc⟩
  unfold pyNext
  refine wpAny_bind (wpAny_attempt (wpAny_callSpecial?_slot (name := Str.ofString "__next__") hT slot_seti_next
    (wpAny_call_entry slot_seti_next hT entry_seti_next ?_ (args_seti_next _))))
  refine hbody _ _ fun s₁ hs₁ e₁ => ?_
  show wpAny _ _ (newExc (.type "StopIteration") [] >>= _) _ _ _
  refine wpAny_bind ?_
  simp only [newExc, newTuple]
  refine wpAny_bind (wpAny_newObj_type ?_ (by size_fits))
  refine wpAny_bind (m := firstArgMember _ _) (wpAny_of_eq (a := Value.none) (by first | rfl | (simp only [firstArgMember]; rfl)) ?_)
  refine wpAny_newObj_type ?_ (by size_fits)
  simp only [raiseNew]
  refine wpAny_bind (wpAny_handled ?_)
  rw [show A.in1.handled = none from hh]
  refine wpAny_bind (wpAny_pure (wpAny_throw ?_))
  refine wpAny_bind (wpAny_isInstance (T := "StopIteration") (b := true) ⟨_, Heap.get?_push_size _ rfl, rfl⟩ isSubtype_stop ?_)
  rw [e₁]
  exact wpAny_pure (hQ _ ((hs₁.push _).push _))

noncomputable def siObj (first : Value) (i : Nat) (S : Addr) (n ep : Nat) : Array Value := #[first, rawInt i, .ref S, rawInt n, rawInt ep]
noncomputable def NeedO (S : Addr) (so : Obj) : Pers → List (Addr × G) → List (Addr × List LV) → Prop := fun P tmp _ => (S, .obj so) ∈ tmp ++ P.objs
theorem r_setEntries {S : Addr} {so : Obj} {es : Array (Int × Value)} {ep : Nat} {t : SetTable} {Q : Array (Int × Value) → Shared → Prop} (ho : s.heap.get? S = some so) (hd : so.data = .set es ep t) (hf : t.fits es.size = true) (h : Q es s) : wpAny (model prg w) A (setEntries S) Q E s :=
  wpAny_setEntries_of ho hd hf h

theorem nx_setA {S : Addr} {so : Obj} {es : Array (Int × Value)} {ep : Nat} {t : SetTable} {ord : List Value} {xs : List LV} (hd : so.data = .set es ep t) (hf : t.fits es.size = true) (sl : Nat → Nat) (hord : ord.length = es.size) (hx : All2 LV.is xs ord)
    (hnext : ∀ {A : Around} {E : Value → Shared → Prop} i v s (Q : Option (Value × Nat) → Shared → Prop), s.heap.get? S = some so → ord[i]? = some v → Q (some (v, sl (i + 1))) s → wpAny (model prg w) A (setNext S (sl i) i ep) Q E s)
    (hend : ∀ {A : Around} {E : Value → Shared → Prop} s (Q : Option (Value × Nat) → Shared → Prop), s.heap.get? S = some so → Q none s → wpAny (model prg w) A (setNext S (sl es.size) es.size ep) Q E s) :
    Nx w Z b₀ I xs (fun i => .fld "set_iterator" (siObj (rawInt (sl i)) i S es.size ep)) (NeedO S so) where
  item {P L loc tmp tmp' tt s A Q E i l} hh c hn U hx' h := by
    obtain ⟨o, ho, hc, hdo⟩ := c.at (List.mem_append_left _ U.mem)
    obtain ⟨o', hs, rfl, _⟩ := c.at hn
    obtain ⟨v, hv1, hv2⟩ := hx.get hx'
    have hT : s.TypeIs (.ref I) "set_iterator" := ⟨o, ho, hc⟩
    unfold pyNext
    refine wpAny_bind (wpAny_attempt (wpAny_callSpecial?_slot (name := Str.ofString "__next__") hT slot_seti_next
      (wpAny_call_entry slot_seti_next hT entry_seti_next ?_ (args_seti_next _))))
    show wpAny _ _ (fieldsOf (.ref I) >>= _) _ _ s
    refine wpAny_bind (wpAny_fieldsOf ho hdo ?_)
    show wpAny _ _ (setEntries S >>= _) _ _ s
    refine wpAny_bind (r_setEntries hs hd hf ?_)
    show wpAny _ _ (if (((es.size : Nat) : Int) != ((es.size : Nat) : Int)) = true then _ else _) _ _ s
    rw [if_neg (by simp)]
    show wpAny _ _ (setNext S (sl i) i ep >>= _) _ _ s
    refine wpAny_bind (hnext i v s _ hs hv1 ?_)
    dsimp only
    refine wpAny_bind (wpAny_setField ho hdo (by simp [siObj]) ?_)
    have ho2 := Heap.get?_update_self (Obj.mapFields (·.setIfInBounds 0 (rawInt ↑(sl (i + 1))))) ho (by obtain ⟨c, d, dt, sl⟩ := o; cases dt <;> cases hdo; rfl)
    have hd2 : (Obj.mapFields (·.setIfInBounds 0 (rawInt ↑(sl (i + 1)))) o).data = .fields ((siObj (rawInt (sl i)) i S es.size ep).setIfInBounds 0 (rawInt ↑(sl (i + 1)))) := by obtain ⟨c, d, dt, sl⟩ := o; cases dt <;> cases hdo; rfl
    have hc2 : (Obj.mapFields (·.setIfInBounds 0 (rawInt ↑(sl (i + 1)))) o).cls = .type "set_iterator" := by obtain ⟨c, d, dt, sl⟩ := o; cases dt <;> cases hdo; exact hc
    refine wpAny_bind (wpAny_setField ho2 hd2 (by simp [siObj]) ?_)
    refine wpAny_pure ⟨_, rfl, wpAny_pure ?_⟩
    generalize hg : Obj.mapFields (·.setIfInBounds 0 (rawInt ↑(sl (i + 1)))) o = o2 at ho2 hd2 hc2
    refine h v _ hv2 (c.chgT U ((Heap.SameBut.update ..).trans (Heap.SameBut.update ..)).extBut ⟨_, Heap.get?_update_self _ ho2 (by obtain ⟨c, d, dt, sl⟩ := o2; cases dt <;> cases hd2; rfl), ?_, ?_⟩)
    · obtain ⟨c, d, dt, sl⟩ := o2; cases dt <;> cases hd2; exact hc2
    · obtain ⟨c, d, dt, sl⟩ := o2; cases dt <;> cases hd2; simp [siObj]; rfl
  done {P L loc pre post tt s A Q E} hh c hn h := by
    have hlen : xs.length = es.size := by rw [hx.length, hord]
    rw [hlen] at c hn
    obtain ⟨o, ho, hc, hdo⟩ := c.at (a := I) (g := .fld "set_iterator" (siObj (rawInt (sl es.size)) es.size S es.size ep)) (by simp)
    obtain ⟨o', hs, rfl, _⟩ := c.at hn
    refine seti_end hh ho hc hdo (by simp [siObj]) (fun h' hs' => h _ (c.lose hs')) fun P E' k => ?_
    show wpAny _ _ (fieldsOf (.ref I) >>= _) _ _ s
    refine wpAny_bind (wpAny_fieldsOf ho hdo ?_)
    show wpAny _ _ (setEntries S >>= _) _ _ s
    refine wpAny_bind (r_setEntries hs hd hf ?_)
    show wpAny _ _ (if (((es.size : Nat) : Int) != ((es.size : Nat) : Int)) = true then _ else _) _ _ s
    rw [if_neg (by simp)]
    show wpAny _ _ (setNext S (sl es.size) es.size ep >>= _) _ _ s
    refine wpAny_bind (hend s _ hs ?_)
    dsimp only
    refine wpAny_bind (wpAny_setField ho hdo (by simp [siObj]) ?_)
    exact k _ (Heap.SameBut.update ..).extBut rfl
  self c hm h := by
    obtain ⟨o, ho, hc, hdo⟩ := c.at (List.mem_append_left _ hm)
    have hT : Shared.TypeIs _ (.ref I) "set_iterator" := ⟨o, ho, hc⟩
    refine wpAny_pyIter_slot hT slot_seti_iter (wpAny_call_entry slot_seti_iter hT entry_seti_iter ?_ (args_seti_iter _))
    show wpAny _ _ (ret (.ref I)) _ _ _
    exact wpAny_pure ⟨_, rfl, "set_iterator", _, hT, slot_seti_next.lookup, h⟩

noncomputable def NeedOT (S : Addr) (so : Obj) (T : Addr) (ps : List Nat) : Pers → List (Addr × G) → List (Addr × List LV) → Prop := fun P tmp tt => (S, .obj so) ∈ tmp ++ P.objs ∧ (T, ps.map fun (p : Nat) => .int (p : Int)) ∈ tt ++ P.tups
theorem nx_setB {S T : Addr} {so : Obj} {es : Array (Int × Value)} {ep : Nat} {t : SetTable} {ps : List Nat} {ord : List Value} {xs : List LV} (hd : so.data = .set es ep t) (hf : t.fits es.size = true) (hps : ps.length = es.size)
    (hord : All2 (fun p v => ∃ k, es[p]? = some (k, v)) ps ord) (hx : All2 LV.is xs ord) :
    Nx w Z b₀ I xs (fun i => .fld "set_iterator" (siObj (.ref T) i S es.size ep)) (NeedOT S so T ps) where
  item {P L loc tmp tmp' tt s A Q E i l} hh c hn U hx' h := by
    obtain ⟨o, ho, hc, hdo⟩ := c.at (List.mem_append_left _ U.mem)
    obtain ⟨o', hs, rfl, _⟩ := c.at hn.1
    obtain ⟨oT, itT, nT, hT1, hT2, hT3, hT4⟩ := c.tup _ hn.2
    obtain ⟨v, hv1, hv2⟩ := hx.get hx'
    obtain ⟨p, hp1, k, hp2⟩ := hord.get' hv1
    obtain ⟨pv, hpv, t', rfl⟩ := hT4.get (i := i) (a := .int (p : Int)) (by simp [hp1])
    have hpv' : itT[i]? = some (.int (p : Int) t') := by simpa using hpv
    have hT : s.TypeIs (.ref I) "set_iterator" := ⟨o, ho, hc⟩
    unfold pyNext
    refine wpAny_bind (wpAny_attempt (wpAny_callSpecial?_slot (name := Str.ofString "__next__") hT slot_seti_next
      (wpAny_call_entry slot_seti_next hT entry_seti_next ?_ (args_seti_next _))))
    show wpAny _ _ (fieldsOf (.ref I) >>= _) _ _ s
    refine wpAny_bind (wpAny_fieldsOf ho hdo ?_)
    show wpAny _ _ (setEntries S >>= _) _ _ s
    refine wpAny_bind (r_setEntries hs hd hf ?_)
    show wpAny _ _ (if (((es.size : Nat) : Int) != ((es.size : Nat) : Int)) = true then _ else _) _ _ s
    rw [if_neg (by simp)]
    show wpAny _ _ (seqItems? (.ref T) >>= _) _ _ s
    refine wpAny_bind (wpAny_seqItems hT1 hT3 ?_)
    dsimp only
    rw [show ((i : Int)).toNat = i from rfl, hpv']
    dsimp only
    refine wpAny_bind ?_
    unfold setNextDrawn
    refine wpAny_bind (wpAny_setState_of hs hd hf ?_)
    dsimp only
    rw [if_neg (by simp), show ((p : Int)).toNat = p from rfl, hp2]
    dsimp only
    refine wpAny_pure ?_
    refine wpAny_bind (wpAny_setField ho hdo (by simp [siObj]) ?_)
    refine wpAny_pure ⟨_, rfl, wpAny_pure ?_⟩
    refine h v _ hv2 (c.chgT U (Heap.SameBut.update ..).extBut ⟨_, Heap.get?_update_self _ ho (by obtain ⟨c, d, dt, sl⟩ := o; cases dt <;> cases hdo; rfl), ?_, ?_⟩)
    · obtain ⟨c, d, dt, sl⟩ := o; cases dt <;> cases hdo; exact hc
    · obtain ⟨c, d, dt, sl⟩ := o; cases dt <;> cases hdo; simp [siObj]; rfl
  done {P L loc pre post tt s A Q E} hh c hn h := by
    have hlen : xs.length = es.size := by rw [hx.length, ← hord.length, hps]
    rw [hlen] at c hn
    obtain ⟨o, ho, hc, hdo⟩ := c.at (a := I) (g := .fld "set_iterator" (siObj (.ref T) es.size S es.size ep)) (by simp)
    obtain ⟨o', hs, rfl, _⟩ := c.at hn.1
    obtain ⟨oT, itT, nT, hT1, hT2, hT3, hT4⟩ := c.tup _ hn.2
    have hTn : itT[es.size]? = none := by have := hT4.size; rw [List.length_map] at this; simp; (first | lia | omega)
    refine seti_end hh ho hc hdo (by simp [siObj]) (fun h' hs' => h _ (c.lose hs')) fun P E' k => ?_
    show wpAny _ _ (fieldsOf (.ref I) >>= _) _ _ s
    refine wpAny_bind (wpAny_fieldsOf ho hdo ?_)
    show wpAny _ _ (setEntries S >>= _) _ _ s
    refine wpAny_bind (r_setEntries hs hd hf ?_)
    show wpAny _ _ (if (((es.size : Nat) : Int) != ((es.size : Nat) : Int)) = true then _ else _) _ _ s
    rw [if_neg (by simp)]
    show wpAny _ _ (seqItems? (.ref T) >>= _) _ _ s
    refine wpAny_bind (wpAny_seqItems hT1 hT3 ?_)
    dsimp only
    rw [show ((es.size : Nat) : Int).toNat = es.size from rfl, hTn]
    dsimp only
    refine wpAny_bind (wpAny_setField ho hdo (by simp [siObj]) ?_)
    have ho2 := Heap.get?_update_self (Obj.mapFields (·.setIfInBounds 0 (rawInt 0))) ho (by obtain ⟨c, d, dt, sl⟩ := o; cases dt <;> cases hdo; rfl)
    refine wpAny_bind (wpAny_setField ho2 (vs := (siObj (.ref T) es.size S es.size ep).setIfInBounds 0 (rawInt 0)) (by obtain ⟨c, d, dt, sl⟩ := o; cases dt <;> cases hdo; rfl) (by simp [siObj]) ?_)
    exact k _ ((Heap.SameBut.update ..).trans (Heap.SameBut.update ..)).extBut rfl
  self c hm h := by
    obtain ⟨o, ho, hc, hdo⟩ := c.at (List.mem_append_left _ hm)
    have hT : Shared.TypeIs _ (.ref I) "set_iterator" := ⟨o, ho, hc⟩
    refine wpAny_pyIter_slot hT slot_seti_iter (wpAny_call_entry slot_seti_iter hT entry_seti_iter ?_ (args_seti_iter _))
    show wpAny _ _ (ret (.ref I)) _ _ _
    exact wpAny_pure ⟨_, rfl, "set_iterator", _, hT, slot_seti_next.lookup, h⟩

theorem elems_ord {es : Array (Int × Value)} {ms : List Int} (h2 : All2 (fun n e => (intKind prg w).is n e.2 = true) ms es.toList) : All2 LV.is (ms.map .int) (es.toList.map (·.2)) := by
  generalize es.toList = l at h2
  induction h2 with
  | nil => exact .nil
  | cons h _ ih => exact .cons (Value.isInt_shape h) ih

theorem elems_perm {es es' : List (Int × Value)} {ms ns : List Int} (h2 : All2 (fun n e => (intKind prg w).is n e.2 = true) ms es) (p : es'.Perm es) (hp : ms.Perm ns) : ∃ ms' : List Int, ms'.Perm ns ∧ All2 LV.is (ms'.map .int) (es'.map (·.2)) := by
  obtain ⟨ms', h3, h4⟩ := h2.perm p
  refine ⟨ms', h3.trans hp, ?_⟩
  clear h3 h2 p hp
  induction h4 with
  | nil => exact .nil
  | cons h _ ih => exact .cons (Value.isInt_shape h) ih
theorem getD_at {xs : Array Nat} {i : Nat} (h : i < xs.size) : xs[i]? = some (xs.getD i 0) := by simp [Array.getD, h]
theorem raw_is : ∀ ps : List Nat, All2 LV.is (ps.map fun (p : Nat) => .int (p : Int)) (ps.map fun (i : Nat) => rawInt (i : Int))
  | [] => .nil
  | _ :: ps => .cons ⟨0, rfl⟩ (raw_is ps)
theorem r_byText {Q : Bool → Shared → Prop} (h : Q (w.params.followText "set-order") s) : wpAny (model prg w) A setsByText Q E s := by
  unfold setsByText
  exact wpAny_bind (wpAny_askSetting (wpAny_pure h))
theorem r_nextA {S : Addr} {so : Obj} {es : Array (Int × Value)} {ep : Nat} {t : SetTable} (hs : s.heap.get? S = some so) (hd : so.data = .set es ep t) (hf : t.fits es.size = true) (hbt : w.params.followText "set-order" = true) (i : Nat) {Q : Option (Value × Nat) → Shared → Prop}
    (h : Q (((pickOrder (w.params.setOrder S ep) es)[i]?).map fun e => (e.2, 0)) s) : wpAny (model prg w) A (setNext S 0 i ep) Q E s := by
  unfold setNext
  refine wpAny_bind (wpAny_setState_of hs hd hf ?_)
  dsimp only
  refine wpAny_bind (r_byText ?_)
  rw [if_pos hbt, if_neg (by simp)]
  refine wpAny_bind ?_
  unfold setWalk
  refine wpAny_bind (wpAny_setState_of hs hd hf ?_)
  dsimp only
  refine wpAny_bind (r_byText ?_)
  rw [if_pos hbt]
  exact wpAny_bind (wpAny_askSetting (wpAny_pure (wpAny_pure h)))
theorem r_iterSet {S : Addr} {ns : List Int} (c : Cfg w Z b₀ P L loc ((S, .setI ns) :: tmp) tt s)
    (h : ∀ so I tt' ms g need s', List.Perm ms ns → Nx w Z b₀ I (ms.map .int) g need → (∀ X ttX, (S, .obj so) ∈ X ++ P.objs → (∀ p ∈ tt', p ∈ ttX ++ P.tups) → need P X ttX) → (∀ p ∈ tt, p ∈ tt') → so.cls = .type "set" →
      Cfg w Z b₀ P L loc ((I, g 0) :: (S, .obj so) :: tmp) tt' s' → Q (.ref I) s') : wpAny (model prg w) A (pyIter (.ref S)) Q E s := by
  obtain ⟨so, hs, hex, es, ep, t, ms, hd, hel, hp, h2, hb, hf, hg1, hg2, hg3⟩ := c.at (a := S) (g := .setI ns) (by simp)
  have c₀ : Cfg w Z b₀ P L loc ((S, .obj so) :: tmp) tt s := c.chgT (tk := s.toks) (h' := s.heap) .head (fun b o _ e => e) ⟨so, hs, rfl, fun i n e => by rw [hd] at e; cases e⟩
  have hT : s.TypeIs (.ref S) "set" := ⟨so, hs, hex.1⟩
  refine wpAny_pyIter_slot hT F.slot_set_iter (wpAny_call_entry F.slot_set_iter hT entry_set_iter' ?_ (F.args_set_iter_1 _))
  show wpAny _ _ (Builtin.Frozenset.sizeOf S >>= _) _ _ s
  unfold Builtin.Frozenset.sizeOf
  refine wpAny_bind (wpAny_bind (r_setEntries hs hd hf (wpAny_pure ?_)))
  refine wpAny_bind ?_
  unfold setDrawn
  refine wpAny_bind (wpAny_setState_of hs hd hf ?_)
  dsimp only
  refine wpAny_bind (r_byText (wpAny_pure ?_))
  split
  · refine wpAny_bind (r_drawOrder _ _ s (by simp) fun ps d hps => ?_)
    have hpl : ps.length = es.size := by rw [hps.length_eq, List.length_range]
    have hpz : ∀ p ∈ ps, p < es.size := fun p hp => by have := hps.mem_iff.mp hp; simpa using this
    refine wpAny_bind (r_newT (c₀.drawn d) (ls := ps.map fun (p : Nat) => .int (p : Int)) (raw_is ps) (by rw [List.length_map, hpl]; have : scanBound = 4096 := rfl; (first | lia | omega)) fun T s₁ c₁ => ?_)
    refine wpAny_bind ?_
    unfold setEpoch
    refine wpAny_bind (wpAny_setState_of ?_ hd hf (wpAny_pure ?_))
    · obtain ⟨o', e1, e2, _⟩ := c₁.at (a := S) (g := .obj so) (by simp)
      subst e2; exact e1
    refine wpAny_bind (wpAny_newObj_type (wpAny_pure ⟨_, rfl, "set_iterator", _, ⟨_, Heap.get?_push_size _ rfl, rfl⟩, slot_seti_next.lookup, ?_⟩))
    have c₂ := c₁.new (a := s₁.heap.objs.size) (g := .fld "set_iterator" (siObj (.ref T) 0 S es.size ep)) (tk := s₁.toks) (h' := s₁.heap.push { cls := .type "set_iterator", data := .fields (siObj (.ref T) 0 S es.size ep) }) (fun b o e => Heap.get?_push_of_some _ e) (new_size _) ⟨_, Heap.get?_push_size _ rfl, rfl, rfl⟩
    let ord : List (Int × Value) := ps.filterMap fun p => es[p]?
    have hord : ord.Perm es.toList := (hps.filterMap _).trans (by rw [filterMap_getElem?_range])
    obtain ⟨ms', hm1, hm2⟩ := elems_perm h2 hord hp
    have hpo : All2 (fun p v => ∃ k, es[p]? = some (k, v)) ps (ord.map (·.2)) := by
      show All2 _ ps ((ps.filterMap fun p => es[p]?).map (·.2))
      clear hps hpl hord hm2 c₁ c₂ ord
      induction ps with
      | nil => exact .nil
      | cons p ps ih =>
        have hlt := hpz p (.head _)
        rw [List.filterMap_cons_some (b := es[p]) (by simp [hlt])]
        exact .cons ⟨es[p].1, by simp [hlt]⟩ (ih fun q hq => hpz q (.tail _ hq))
    exact h so _ _ ms' _ _ _ hm1 (nx_setB hd hf hpl hpo hm2) (fun X ttX hX ht => ⟨hX, ht _ (.head _)⟩) (fun p hp => .tail _ hp) hex.1 c₂
  · rename_i hdr
    refine wpAny_bind (wpAny_pure ?_)
    refine wpAny_bind ?_
    unfold setEpoch
    refine wpAny_bind (wpAny_setState_of hs hd hf (wpAny_pure ?_))
    refine wpAny_bind (wpAny_newObj_type (wpAny_pure ⟨_, rfl, "set_iterator", _, ⟨_, Heap.get?_push_size _ rfl, rfl⟩, slot_seti_next.lookup, ?_⟩))
    have c₂ := c₀.new (a := s.heap.objs.size) (g := .fld "set_iterator" (siObj (rawInt 0) 0 S es.size ep)) (tk := s.toks) (h' := s.heap.push { cls := .type "set_iterator", data := .fields (siObj (rawInt 0) 0 S es.size ep) }) (fun b o e => Heap.get?_push_of_some _ e) (new_size _) ⟨_, Heap.get?_push_size _ rfl, rfl, rfl⟩
    cases hbt : w.params.followText "set-order" with
    | true =>
      have hpk := pick_perm (w.params.setOrder S ep) es
      obtain ⟨ms', hm1, hm2⟩ := elems_perm h2 hpk hp
      have hsz : (pickOrder (w.params.setOrder S ep) es).size = es.size := by rw [← Array.length_toList, hpk.length_eq, Array.length_toList]
      refine h so _ _ ms' _ _ _ hm1 (nx_setA (sl := fun _ => 0) hd hf (by rw [List.length_map, hpk.length_eq, Array.length_toList]) hm2 (fun i v s Q hs' hv hq => r_nextA hs' hd hf hbt i ?_) (fun s Q hs' hq => r_nextA hs' hd hf hbt es.size ?_)) (fun X ttX hX ht => hX) (fun p hp => hp) hex.1 c₂
      · rw [List.getElem?_map, Array.getElem?_toList] at hv
        obtain ⟨e, he, rfl⟩ := Option.map_eq_some_iff.mp hv
        rw [he]; exact hq
      · rw [Array.getElem?_eq_none (by (first | lia | omega))]; exact hq
    | false =>
      rw [hbt] at hdr hg3
      simp only [Bool.not_false, Bool.true_and, Bool.not_eq_true] at hdr
      have hled : t.led = true := by simpa using hg3
      obtain ⟨ms', hm1, hm2⟩ := elems_perm h2 (List.Perm.refl _) hp
      have hpl : t.place.size = es.size := by simp only [SetTable.fits, Bool.and_eq_true, beq_iff_eq] at hf; exact hf.1
      have hbel : ∀ i, i ≤ es.size → SetTable.below t.place (if i = 0 then 0 else t.place.getD (i - 1) 0 + 1) = i := fun i hi => by
        obtain ⟨b1, b2, b3⟩ := below_spec t.place hg1 (if i = 0 then 0 else t.place.getD (i - 1) 0 + 1)
        generalize hB : SetTable.below t.place (if i = 0 then 0 else t.place.getD (i - 1) 0 + 1) = B at b1 b2 b3
        have mono : ∀ a b va vb, a < b → t.place[a]? = some va → t.place[b]? = some vb → va < vb := fun a b va vb hab ha hb => by
          rw [← Array.getElem?_toList] at ha hb
          obtain ⟨ha1, ha2⟩ := List.getElem?_eq_some_iff.mp ha
          obtain ⟨hb1, hb2⟩ := List.getElem?_eq_some_iff.mp hb
          have := List.pairwise_iff_getElem.mp hg1 a b ha1 hb1 hab
          rw [ha2, hb2] at this; exact this
        rcases Nat.lt_trichotomy B i with hlt | heq | hgt
        · have hi0 : i ≠ 0 := by (first | lia | omega)
          rw [if_neg hi0] at b3
          have hv : t.place[i - 1]? = some (t.place.getD (i - 1) 0) := getD_at (by (first | lia | omega))
          have := b3 (i - 1) (by (first | lia | omega)) _ hv
          (first | lia | omega)
        · exact heq
        · have hv : t.place[i]? = some (t.place.getD i 0) := getD_at (by (first | lia | omega))
          have h1 := b2 i hgt _ hv
          by_cases hi0 : i = 0
          · rw [if_pos hi0] at h1; (first | lia | omega)
          · rw [if_neg hi0] at h1
            have hv' : t.place[i - 1]? = some (t.place.getD (i - 1) 0) := getD_at (by (first | lia | omega))
            have := mono (i - 1) i _ _ (by (first | lia | omega)) hv' hv
            (first | lia | omega)
      have nextC : ∀ {A : Around} {E : Value → Shared → Prop} i s (Q : Option (Value × Nat) → Shared → Prop), s.heap.get? S = some so → i ≤ es.size → Q (match es[i]?, t.place[i]? with | some (_, x), some j => some (x, j + 1) | _, _ => none) s →
          wpAny (model prg w) A (setNext S (if i = 0 then 0 else t.place.getD (i - 1) 0 + 1) i ep) Q E s := by
        intro A E i s Q hs' hi hq
        unfold setNext
        refine wpAny_bind (wpAny_setState_of hs' hd hf ?_)
        dsimp only
        refine wpAny_bind (r_byText ?_)
        rw [hbt, if_neg Bool.false_ne_true, hdr, if_neg Bool.false_ne_true]
        refine wpAny_bind ?_
        show wpAny _ _ (if (!t.led && !es.isEmpty) = true then unsupported _ else pure ()) _ _ _
        rw [hled, if_neg (by simp)]
        refine wpAny_pure ?_
        rw [hbel i hi]
        exact wpAny_pure hq
      refine h so _ _ ms' _ _ _ hm1 (nx_setA (sl := fun i => if i = 0 then 0 else t.place.getD (i - 1) 0 + 1) hd hf (by simp) hm2 (fun i v s Q hs' hv hq => nextC i s Q hs' ?_ ?_) (fun s Q hs' hq => nextC es.size s Q hs' (Nat.le_refl _) ?_)) (fun X ttX hX ht => hX) (fun p hp => hp) hex.1 c₂
      · have := (List.getElem?_eq_some_iff.mp hv).1
        rw [List.length_map, Array.length_toList] at this; (first | lia | omega)
      · have hlt := (List.getElem?_eq_some_iff.mp hv).1
        rw [List.length_map, Array.length_toList] at hlt
        rw [List.getElem?_map, Array.getElem?_toList] at hv
        obtain ⟨e, he, rfl⟩ := Option.map_eq_some_iff.mp hv
        have hv : t.place[i]? = some (t.place.getD i 0) := getD_at (by (first | lia | omega))
        rw [he, hv]
        rw [if_neg (Nat.succ_ne_zero i), Nat.add_sub_cancel] at hq
        exact hq
      · rw [Array.getElem?_eq_none (Nat.le_refl _)]; exact hq
end
end
section
noncomputable def sortI (ns : List Int) : List Int := ns.mergeSort (fun a b => decide (a ≤ b))
theorem sortI_perm (ns : List Int) : (sortI ns).Perm ns := List.mergeSort_perm ..
theorem sortI_sorted (ns : List Int) : (sortI ns).Pairwise (· ≤ ·) := by
  have := List.pairwise_mergeSort (le := fun a b : Int => decide (a ≤ b)) (fun a b c h1 h2 => by simp at h1 h2 ⊢; (first | lia | omega)) (fun a b => by simp; (first | lia | omega)) ns
  exact this.imp fun h => by simpa using h
theorem sortI_uniq {ns ms : List Int} (hp : ms.Perm ns) (hs : ms.Pairwise (· ≤ ·)) : ms = sortI ns := ksm_same (hp.trans (sortI_perm ns).symm) hs (sortI_sorted ns)
theorem sortI_congr {ns ms : List Int} (hp : ms.Perm ns) : sortI ms = sortI ns := sortI_uniq ((sortI_perm ms).trans hp) (sortI_sorted ms)
theorem sortI_len (ns : List Int) : (sortI ns).length = ns.length := (sortI_perm ns).length_eq
theorem mem_sortI {ns : List Int} {a : Int} : a ∈ sortI ns ↔ a ∈ ns := (sortI_perm ns).mem_iff
section
variable {w : World} {Z : Heap} {b₀ : Shared} {P P' : Pers} {L a y C I S : Addr} {loc loc' : List (Str × LV)} {tmp tmp' : List (Addr × G)} {tt tt' : List (Addr × List LV)} {s s' : Shared} {h' : Heap} {tk : Nat} {g : Nat → G}
  {A : Around} {E : Value → Shared → Prop} {env : Env} {x : Str} {pos px : Pos} {Q : Value → Shared → Prop} {QO : Option Value → Shared → Prop} {QU : Unit → Shared → Prop} {QF : Flow → Shared → Prop} {n : Nat} {fs : List (Str × Value)}
  {need : Pers → List (Addr × G) → List (Addr × List LV) → Prop} {xs : List LV}

theorem Cfg.perm (c : Cfg w Z b₀ P L loc tmp tt s) (h : tmp'.Perm tmp) : Cfg w Z b₀ P L loc tmp' tt s :=
  { c with
    led := fun p hp => c.led p (by rcases List.mem_append.mp hp with hp | hp; exact List.mem_append_left _ (h.mem_iff.mp hp); exact List.mem_append_right _ hp)
    nd := (((h.append_right P.objs).map (·.1)).cons L).nodup_iff.mpr c.nd }
theorem r_push {ls : List LV} {l : LV} {v : Value} (c : Cfg w Z b₀ P L loc tmp tt s) (U : Put tmp a (.list ls) (.list (ls ++ [l])) tmp') (hv : l.is v) (hz : ls.length ≤ 1000000)
    (h : ∀ s', Cfg w Z b₀ P L loc tmp' tt s' → QU () s') : wpAny (model prg w) A (updateSeq a (·.push v)) QU E s := by
  obtain ⟨vs, n, hl, hls⟩ := c.isL (List.mem_append_left _ U.mem)
  have hn := hls.size
  have hz1 : vs.size ≤ sizeLine := by rw [sizeLine_eq]; (first | lia | omega)
  refine wpAny_updateSeq hl rfl (h _ (c.chgT U (Heap.SameBut.update ..).extBut ⟨_, get?_update_seq hl (·.push v), _, _, rfl, hls.push hv⟩)) hz1 (by show (vs.push v).size ≤ _; rw [Array.size_push]; (first | lia | omega))

theorem ext_loop {res : Value} (N : Nx w Z b₀ I xs g need) (hh : A.handled = none) (hneed : ∀ i acc, need P ((I, g i) :: (S, .list acc) :: tmp) tt) (hsz : xs.length ≤ 1000000) {R : Result → Shared → Prop}
    (hR : ∀ s', Cfg w Z b₀ P L loc ((S, .list xs) :: tmp) tt s' → R (.ok (.ret res)) s') :
    ∀ (k i : Nat) (s : Shared), xs.length - i = k → i ≤ xs.length → Cfg w Z b₀ P L loc ((I, g i) :: (S, .list (xs.take i)) :: tmp) tt s →
      codeAny (model prg w) A (.builtin "list.extend.loop" ⟨[.ref S, .ref I, res], []⟩) R s := by
  intro k
  induction k with
  | zero =>
    intro i s hk hi c
    have hin : i = xs.length := by (first | lia | omega)
    subst hin
    refine codeAny_builtin F.entry_extend_loop ?_
    rw [Around.under_plainId F.plain_extend_loop _]
    show wpAny _ A.in1 (pyNext (.ref I) >>= _) _ _ s
    refine wpAny_bind (N.done (pre := []) hh c (hneed _ _) fun s' c' => ?_)
    rw [List.take_length] at c'
    exact wpAny_pure (hR _ c')
  | succ k ih =>
    intro i s hk hi c
    have hlt : i < xs.length := by (first | lia | omega)
    refine codeAny_builtin F.entry_extend_loop ?_
    rw [Around.under_plainId F.plain_extend_loop _]
    show wpAny _ A.in1 (pyNext (.ref I) >>= _) _ _ s
    refine wpAny_bind (N.item (i := i) hh c (hneed _ _) .head (List.getElem?_eq_getElem hlt) fun v s' hv c' => ?_)
    show wpAny _ A.in1 (updateSeq S (·.push v) >>= _) _ _ _
    refine wpAny_bind (r_push c' (.tail .head) hv (by rw [List.length_take]; (first | lia | omega)) fun s₂ c₂ => ?_)
    have e : xs.take i ++ [xs[i]] = xs.take (i + 1) := by simp
    rw [e] at c₂
    exact wpAny_pure ⟨plainId_quiet F.plain_extend_loop _, ih (i + 1) _ (by (first | lia | omega)) hlt c₂⟩

theorem hint_set (hT : s.TypeIs (.ref a) "set") {Q : Bool → Shared → Prop} (h : Q false s) : wpAny (model prg w) A (Builtin.List.listLengthHint (.ref a)) Q E s := by
  unfold Builtin.List.listLengthHint
  refine wpAny_bind (wpAny_specialOf hT F.slot_set_len.lookup ?_)
  generalize hid : ("set.__len__" : String) = id0
  wp_delta
  rw [show splitId id0 = some ("set", "__len__") from by subst hid; decide +kernel]
  subst hid
  refine wpAny_bind (wpAny_isInstance (T := "set") (b := true) hT (by rw [isSubtype_type]; kernel_rfl) ?_)
  refine wpAny_ite_split (fun hab => absurd hab (by decide)) (fun _ => ?_)
  refine wpAny_ite_split (fun _ => ?_) (fun hab => absurd (by decide +kernel) hab)
  refine wpAny_bind (wpAny_typeOf hT ?_)
  exact wpAny_pure h

/-- what is drawn from a thing that is neither list nor tuple -/
theorem collect_core {T : String} {ga : G} {QL : List Value → Shared → Prop} (hT1 : (Value.type T == Value.type "list") = false) (hT2 : (Value.type T == Value.type "tuple") = false)
    (c : Cfg w Z b₀ P L loc tmp tt s) (hm : (a, ga) ∈ tmp ++ P.objs) (hg : ∀ o, ga.is w o → o.cls = .type T)
    (go : ∀ S s₁, Cfg w Z b₀ P L loc ((S, .list []) :: tmp) tt s₁ → ∀ (K : Value → Shared → Prop) (E' : Value → Shared → Prop),
      (∀ I s₂ tmp₂ tt₂ xs g need, Nx w Z b₀ I xs g need → (∀ i acc, need P ((I, g i) :: (S, .list acc) :: tmp₂) tt₂) → xs.length ≤ 1000000 → Cfg w Z b₀ P L loc ((I, g 0) :: (S, .list []) :: tmp₂) tt₂ s₂ → (∃ ga', (a, ga') ∈ tmp₂ ++ P.objs ∧ ∀ o, ga'.is w o → o.cls = .type T) →
        (∀ s₃ vs, All2 LV.is xs vs → Cfg w Z b₀ P L loc tmp₂ tt₂ s₃ → QL vs s₃) → K (.ref I) s₂) → wpAny (model prg w) A.in1 (pyIter (.ref a)) K E' s₁)
    (hint : ∀ A' E' (Q' : Bool → Shared → Prop) s', s'.TypeIs (.ref a) T → Q' false s' → wpAny (model prg w) A' (Builtin.List.listLengthHint (.ref a)) Q' E' s') (hh : A.handled = none) :
    wpAny (model prg w) A (collect (.ref a)) QL E s := by
  unfold collect
  refine wpAny_bind (wpAny_runValue (codeAny_builtin F.entry_proto_collect ?_))
  rw [Around.under_plainId F.plain_proto_collect _]
  show wpAny _ A.in1 (newList [] >>= fun l => again (.builtin "list.__iadd__" ⟨[l, .ref a], []⟩)) _ _ s
  refine wpAny_bind (r_newL c (vs := []) .nil (by simp) fun S s₁ c₁ => ?_)
  refine wpAny_pure ⟨plainId_quiet F.plain_list_iadd _, codeAny_builtin F.entry_list_iadd ?_⟩
  rw [Around.under_plainId F.plain_list_iadd _]
  show wpAny _ A.in1 (Builtin.List.listExtendWith (.ref S) (.ref a) (.ref S)) _ _ _
  unfold Builtin.List.listExtendWith
  have hm₁ : (a, ga) ∈ ((S, G.list []) :: tmp) ++ P.objs := .tail _ hm
  obtain ⟨o, ho, hgo⟩ := c₁.at hm₁
  have hTy : s₁.TypeIs (.ref a) T := ⟨o, ho, hg o hgo⟩
  have hSa : S ≠ a := by
    rintro rfl
    have := c₁.uniq hm₁ (.head _)
    subst this
    have h2 := hg o hgo
    obtain ⟨_, _, rfl, _⟩ := hgo
    rw [show T = "list" by injection h2 with h2; exact h2.symm] at hT1
    simp at hT1
  refine wpAny_bind (wpAny_typeOf hTy ?_)
  have h1 : Builtin.List.listSameRef (.ref S) (.ref a) = false := by simp [Builtin.List.listSameRef, hSa]
  rw [if_neg (by rw [h1, hT1, hT2]; decide)]
  refine wpAny_bind ?_
  refine go S s₁ c₁ _ _ fun I s₂ tmp₂ tt₂ xs g need N hneed hsz c₂ hga hQ => ?_
  obtain ⟨ga', hm', hg'⟩ := hga
  obtain ⟨o', ho', hgo'⟩ := c₂.at (a := a) (g := ga') (.tail _ (.tail _ hm'))
  refine wpAny_bind (wpAny_holding (hint _ _ _ _ ⟨o', ho', hg' o' hgo'⟩ ?_))
  have fin : ∀ s', Cfg w Z b₀ P L loc ((S, .list xs) :: tmp₂) tt₂ s' → wpAny (model prg w) A (do match (← load S).data with | .seq xs _ => pure xs.toList | _ => unsupported "internal:collect") QL E s' := fun s' c' => by
    obtain ⟨vs, n, hl, hv⟩ := c'.isL (a := S) (ls := xs) (by simp)
    refine wpAny_bind (wpAny_load hl ?_)
    exact wpAny_pure (hQ s' _ hv (c'.sub (List.sublist_cons_self _ _) fun p hp => List.mem_append_left _ hp))
  refine wpAny_ite_split (fun _ => ?_) (fun _ => ?_)
  · refine wpAny_bind (wpAny_rule (wpAny_bind ?_))
    show wpAny _ _ (updateSeq S (·.push .none) >>= fun _ => updateSeq S (·.pop)) _ _ _
    refine wpAny_bind (r_push c₂ (l := .none) (.tail .head) rfl (by simp) fun s₃ c₃ => ?_)
    obtain ⟨vs, n, hl, hv⟩ := c₃.isL (a := S) (ls := [] ++ [.none]) (by simp)
    have e := hv.size
    have e2 : vs.pop.toList = [] := by rw [← List.length_eq_zero_iff, Array.length_toList, Array.size_pop, ← e]; rfl
    refine wpAny_updateSeq hl rfl ?_ (by rw [← e, sizeLine_eq]; decide) (by show vs.pop.size ≤ _; rw [Array.size_pop, ← e]; simp)
    have c₄ := c₃.chgT (tmp' := (I, g 0) :: (S, .list []) :: tmp₂) (tk := s₃.toks) (.tail .head) (Heap.SameBut.update ..).extBut ⟨_, get?_update_seq hl (·.pop), _, _, rfl, by rw [e2]; exact .nil⟩
    exact wpAny_pure ⟨plainId_quiet F.plain_extend_loop _, ext_loop N hh hneed hsz (fun s' c' => fin s' c') xs.length 0 _ (by (first | lia | omega)) (Nat.zero_le _) c₄⟩
  · exact wpAny_pure ⟨plainId_quiet F.plain_extend_loop _, ext_loop N hh hneed hsz (fun s' c' => fin s' c') xs.length 0 _ (by (first | lia | omega)) (Nat.zero_le _) c₂⟩

theorem collect_set {ns : List Int} {QL : List Value → Shared → Prop} (c : Cfg w Z b₀ P L loc ((S, .setI ns) :: tmp) tt s) (hh : A.handled = none) (hsz : ns.length ≤ 1000000)
    (h : ∀ s' vs ms tt', List.Perm ms ns → All2 LV.is (ms.map .int) vs → Cfg w Z b₀ P L loc tmp tt' s' → (∀ p ∈ tt, p ∈ tt') → QL vs s') : wpAny (model prg w) A (collect (.ref S)) QL E s := by
  refine collect_core (T := "set") (by decide) (by decide) c (ga := .setI ns) (by simp) (fun o ho => ho.1.1) (fun S' s₁ c₁ K E' go => ?_) (fun A' E' Q' s' hT hq => hint_set hT hq) hh
  have c₂ := c₁.perm (List.Perm.swap _ _ _)
  refine r_iterSet c₂ fun so I tt' ms g need s' hp N hneed htt hso c₃ => ?_
  have hl : ms.length = ns.length := hp.length_eq
  refine go I s' ((S, .obj so) :: tmp) tt' _ g need N (fun i acc => hneed _ _ (by simp) fun p hp => List.mem_append_left _ hp) (by rw [List.length_map]; (first | lia | omega)) (c₃.perm (.cons _ (.swap _ _ _))) ⟨.obj so, by simp, fun o ho => ho.1 ▸ hso⟩ fun s₃ vs hv c₄ => ?_
  exact h s₃ vs ms tt' hp hv (c₄.sub (List.sublist_cons_self _ _) fun p hp => List.mem_append_left _ hp) htt

theorem nx_dict {D : Addr} {od : Obj} {ys : List (Int × Value)} {ep : Nat} (hat : ∀ h : Heap, h.get? D = some od → h.DictAt (intKind prg w) D ys ep) :
    Nx w Z b₀ I (ys.map fun y => .int y.1) (fun i => .fld "dict_keyiterator" #[.ref D, .int (i : Nat) 0, .int ys.length 0, .int ep 0]) (NeedO D od) where
  item {P L loc tmp tmp' tt s A Q E i l} hh c hn U hx h := by
    obtain ⟨o, ho, hc, hd⟩ := c.at (List.mem_append_left _ U.mem)
    obtain ⟨o', hs, rfl, _⟩ := c.at hn
    rw [List.getElem?_map] at hx
    obtain ⟨⟨k, v⟩, hy, rfl⟩ := Option.map_eq_some_iff.mp hx
    refine wpAny_pyNext_dict_item (knd := intKind prg w) ⟨o, ho, hc, hd⟩ (hat _ hs) hy fun key h' hk hi hs => ?_
    obtain ⟨o', ho', hc', hd'⟩ := hi
    exact h key _ (Value.isInt_shape hk) (c.chgT U hs.extBut ⟨o', ho', hc', hd'⟩)
  done {P L loc pre post tt s A Q E} hh c hn h := by
    obtain ⟨o, ho, hc, hd⟩ := c.at (a := I) (g := .fld "dict_keyiterator" #[.ref D, .int ((ys.map fun y => LV.int y.1).length : Nat) 0, .int ys.length 0, .int ep 0]) (by simp)
    obtain ⟨o', hs, rfl, _⟩ := c.at hn
    exact wpAny_pyNext_dict_end (knd := intKind prg w) hh ⟨o, ho, hc, hd⟩ (hat _ hs) (by simp) fun h' hs => h _ (c.lose hs)
  self c hm h := by
    obtain ⟨o, ho, hc, hd⟩ := c.at (List.mem_append_left _ hm)
    exact wpAny_pyIter_keyiter ⟨o, ho, hc, hd⟩ h

theorem collect_dict {kvs : List (Int × LV)} {D : Addr} {pre post : List (Addr × G)} {QL : List Value → Shared → Prop} (c : Cfg w Z b₀ P L loc (pre ++ (D, .dictI kvs) :: post) tt s) (B : Base w Z) (hh : A.handled = none) (hsz : kvs.length ≤ 1000000)
    (h : ∀ s' vs, All2 LV.is ((kvs.map (·.1)).map .int) vs → Cfg w Z b₀ P L loc (pre ++ (D, .dictI kvs) :: post) tt s' → QL vs s') : wpAny (model prg w) A (collect (.ref D)) QL E s := by
  obtain ⟨od, hod, hgd⟩ := c.at (a := D) (g := .dictI kvs) (by simp)
  obtain ⟨ys, hys, h2, hex⟩ := id hgd
  have hkeys : (ys.map fun y => LV.int y.1) = (kvs.map (·.1)).map .int := by
    rw [List.map_map]
    clear hgd hys hsz c h
    induction h2 with
    | nil => rfl
    | cons a _ ih => simp only [List.map_cons, ih, Function.comp]; rw [a.1]
  have hlen := h2.length
  have hsq : ∀ items n, od.data ≠ .seq items n := fun items n e => by
    obtain ⟨o', es', ep', e1, e2, e3, _⟩ := hys _ _ hod
    rw [hod] at e1; cases e1; rw [e] at e3; cases e3
  have c₀ : Cfg w Z b₀ P L loc (pre ++ (D, .obj od) :: post) tt s := c.chgT (tk := s.toks) (h' := s.heap) (Put.right .head pre) (fun b o _ e => e) ⟨od, hod, rfl, hsq⟩
  refine collect_core (T := "dict") (by decide) (by decide) c₀ (ga := .obj od) (by simp) (fun o ho => ho.1 ▸ hex.1) (fun S' s₁ c₁ K E' go => ?_) (fun A' E' Q' s' hT hq => kdl_hint_dict hT hq) hh
  obtain ⟨o', hod', e, _⟩ := c₁.at (a := D) (g := .obj od) (by simp)
  subst e
  obtain ⟨ep, hat⟩ := (hys _ _ hod').dictAt
  obtain ⟨o'', es, e1, hcd, hdd, hrest⟩ := hat
  rw [hod'] at e1; cases e1
  have hat : ∀ h : Heap, h.get? D = some o' → h.DictAt (intKind prg w) D ys ep := fun h e => ⟨_, _, e, hcd, hdd, hrest⟩
  refine wpAny_pyIter_dict (c₁.notSM B (g := .obj o') (by simp)) (hat _ hod') ?_
  have c₂ := c₁.new (a := s₁.heap.objs.size) (g := .fld "dict_keyiterator" #[.ref D, .int (0 : Nat) 0, .int ys.length 0, .int ep 0]) (tk := s₁.toks) (h' := s₁.heap.push { cls := .type "dict_keyiterator", data := .fields #[.ref D, .int (0 : Nat) 0, .int ys.length 0, .int ep 0] }) (fun b o e => Heap.get?_push_of_some _ e) (new_size _) ⟨_, Heap.get?_push_size _ rfl, rfl, rfl⟩
  refine go _ _ (pre ++ (D, .obj o') :: post) tt _ _ _ (nx_dict hat) (fun i acc => by show _ ∈ _; simp) (by rw [List.length_map]; (first | lia | omega)) c₂ ⟨.obj o', by simp, fun o ho => ho.1 ▸ hcd.1⟩ fun s₃ vs hv c₄ => ?_
  rw [hkeys] at hv
  refine h s₃ vs hv ?_
  obtain ⟨o₃, ho₃, e, _⟩ := c₄.at (a := D) (g := .obj o') (by simp)
  exact c₄.chgT (tk := s₃.toks) (h' := s₃.heap) (Put.right .head pre) (fun b o _ e => e) ⟨o₃, ho₃, e ▸ hgd⟩

theorem sort_tail {vs : List Value} {ms ns : List Int} (hv : All2 LV.is (ms.map .int) vs) (hp : ms.Perm ns) (h64 : ns.length < 64) (c : Cfg w Z b₀ P L loc tmp tt s) {PF : Fin → Shared → Prop}
    (h : ∀ d s', Cfg w Z b₀ P L loc ((d, .list ((sortI ns).map .int)) :: tmp) tt s' → PF (.done (.ret (.ref d))) s') :
    wpAny (model prg w) A (do let l ← newList vs; let _ ← holding [l] (call (.builtin "list.sort") [l] []); ret l) PF E s := by
  have hlen : ns.length = vs.length := by rw [← hp.length_eq, ← hv.length, List.length_map]
  refine wpAny_bind (r_newL c hv (by rw [List.length_map, hp.length_eq]; (first | lia | omega)) fun d s₁ c₁ => ?_)
  obtain ⟨ws, n, hl, hws⟩ := c₁.isL (a := d) (ls := ms.map .int) (by simp)
  have hl' : s₁.heap.get? d = some (seqObj "list" ws.toList.toArray n) := by simpa using hl
  refine wpAny_bind (wpAny_holding (wpAny_call_entry slot_list_sort ⟨_, hl', rfl⟩ entry_list_sort (list_sort_tree hl' (ints_of hws) (by rw [← hws.length, List.length_map, hp.length_eq]; exact h64) fun out ns' a1 a2 a3 => ⟨_, rfl, ?_⟩) (args_list_sort _)))
  have e : ns' = sortI ns := sortI_uniq (a2.trans hp) a3
  subst e
  refine wpAny_pure (h d _ ?_)
  obtain ⟨ep, hat⟩ := sortedHeap_at (out := out) hl'
  exact c₁.chgT (tk := s₁.toks) .head (fun b o hb e => (sortedHeap_old hb (Heap.lt_size e)).trans e) ⟨_, hat, _, _, rfl, of_ints a1⟩

theorem r_sortedSet {ns : List Int} (c : Cfg w Z b₀ P L loc ((S, .setI ns) :: tmp) tt s) (hh : A.handled = none) (h64 : ns.length < 64)
    (h : ∀ d s', Cfg w Z b₀ P L loc ((d, .list ((sortI ns).map .int)) :: tmp) tt s' → Q (.ref d) s') : wpAny (model prg w) A (call (.builtin "sorted") [.ref S]) Q E s := by
  refine Calls.call_function_entry kind_sorted plain_sorted entry_sorted (args_sorted1 _) ?_
  unfold Builtin.«sorted»
  refine wpAny_bind (m := checkCount "sorted" 1 1 _) (wpAny_pure ?_)
  refine wpAny_bind (collect_set c hh (by (first | lia | omega)) fun s' vs ms tt' hp hv c' htt => ?_)
  exact sort_tail hv hp h64 c' fun d s'' c'' => ⟨_, rfl, h d s'' (c''.sub (List.Sublist.refl _) fun p hp => List.mem_append_left _ (htt p hp))⟩
theorem r_sortedDict {kvs : List (Int × LV)} {D : Addr} {pre post : List (Addr × G)} (c : Cfg w Z b₀ P L loc (pre ++ (D, .dictI kvs) :: post) tt s) (B : Base w Z) (hh : A.handled = none) (h64 : kvs.length < 64)
    (h : ∀ d s', Cfg w Z b₀ P L loc ((d, .list ((sortI (kvs.map (·.1))).map .int)) :: (pre ++ (D, .dictI kvs) :: post)) tt s' → Q (.ref d) s') : wpAny (model prg w) A (call (.builtin "sorted") [.ref D]) Q E s := by
  refine Calls.call_function_entry kind_sorted plain_sorted entry_sorted (args_sorted1 _) ?_
  unfold Builtin.«sorted»
  refine wpAny_bind (m := checkCount "sorted" 1 1 _) (wpAny_pure ?_)
  refine wpAny_bind (collect_dict c B hh (by (first | lia | omega)) fun s' vs hv c' => ?_)
  exact sort_tail hv (List.Perm.refl _) (by rw [List.length_map]; exact h64) c' fun d s'' c'' => ⟨_, rfl, h d s'' c''⟩
theorem r_sortedList {ns : List Int} {l : Addr} (c : Cfg w Z b₀ P L loc tmp tt s) (hm : (l, .list (ns.map .int)) ∈ tmp ++ P.objs) (h64 : ns.length < 64)
    (h : ∀ d s', Cfg w Z b₀ P L loc ((d, .list ((sortI ns).map .int)) :: tmp) tt s' → Q (.ref d) s') : wpAny (model prg w) A (call (.builtin "sorted") [.ref l]) Q E s := by
  obtain ⟨vs, hl, hv⟩ := c.isList hm
  have hlen := hv.size
  rw [List.length_map] at hlen
  refine sorted_ints (vs := vs.toList) (by simpa using hl) (ints_of hv) (by rw [Array.length_toList, ← hlen]; exact h64) fun out ns' a1 a2 a3 => ?_
  have e : ns' = sortI ns := sortI_uniq a2 a3
  subst e
  obtain ⟨ep, hat⟩ := sortedAll_at s.heap vs.toList out
  have hnone : s.heap.get? (s.heap.objs.size + 1) = none := by
    cases q : s.heap.get? (s.heap.objs.size + 1) with
    | none => rfl
    | some o => exact absurd (Heap.lt_size q) (Nat.not_lt.mpr (Nat.le_succ _))
  exact h _ _ (c.new (tk := s.toks) (fun b o e => sortedAll_old e) ⟨hnone, Nat.le_succ _⟩ ⟨_, hat, _, _, rfl, of_ints a1⟩)
theorem r_lenSet {ns : List Int} (c : Cfg w Z b₀ P L loc tmp tt s) (hm : (S, .setI ns) ∈ tmp ++ P.objs) (h : ∀ t s', Cfg w Z b₀ P L loc tmp tt s' → Q (.int (ns.length : Nat) t) s') :
    wpAny (model prg w) A (call (.builtin "len") [.ref S]) Q E s := by
  obtain ⟨o, ho, hex, es, ep, t, ms, hd, hel, hp, h2, hb, hf, hgd⟩ := c.at hm
  have e : es.size = ns.length := by rw [← h2.size, hp.length_eq]
  refine call_len_set ho hex hd hf (by have : scanBound = 4096 := rfl; (first | lia | omega)) ?_
  rw [e]
  exact h _ _ (c.tok' _)
end
end
section
section
variable {w : World} {Z : Heap} {b₀ : Shared} {P P' : Pers} {L a y C I S D : Addr} {loc loc' : List (Str × LV)} {tmp tmp' : List (Addr × G)} {tt tt' : List (Addr × List LV)} {s s' : Shared} {h' : Heap} {tk : Nat} {g : Nat → G}
  {A : Around} {E : Value → Shared → Prop} {env : Env} {x : Str} {pos px : Pos} {Q : Value → Shared → Prop} {QO : Option Value → Shared → Prop} {QU : Unit → Shared → Prop} {QF : Flow → Shared → Prop} {n : Nat} {fs : List (Str × Value)}
  {xs ys : List LV}
/-- a slice is made -/
theorem r_slice {vl vu : Value} (c : Cfg w Z b₀ P L loc tmp tt s) (h : ∀ d s', Cfg w Z b₀ P L loc ((d, .fld "slice" #[vl, vu, .none]) :: tmp) tt s' → Q (.ref d) s') : wpAny (model prg w) A (newFields "slice" [vl, vu, .none]) Q E s :=
  wpAny_newObj_type (h _ _ (c.new (fun b o e => Heap.get?_push_of_some _ e) (new_size _) ⟨_, Heap.get?_push_size _ rfl, rfl, rfl⟩))
theorem r_Slice_from {lo : Expr} (h : wpAny (model prg w) A (eval lo env) (fun v s' => wpAny (model prg w) A (newFields "slice" [v, .none, .none]) Q E s') E s) : wpAny (model prg w) A (eval (.Slice (some lo) none none pos) env) Q E s := by
  rw [arm_eval_Slice]
  refine wpAny_bind (m := valueOrNone (evalOpt (some lo) env)) (wpAny_mono h (fun v s' h' => ?_) fun _ _ e => e)
  refine wpAny_bind (wpAny_holding (wpAny_pure ?_))
  exact wpAny_bind (wpAny_holding (wpAny_pure h'))
theorem r_Slice_to {up : Expr} (h : wpAny (model prg w) A (eval up env) (fun v s' => wpAny (model prg w) A (newFields "slice" [.none, v, .none]) Q E s') E s) : wpAny (model prg w) A (eval (.Slice none (some up) none pos) env) Q E s := by
  rw [arm_eval_Slice]
  refine wpAny_bind (m := valueOrNone (evalOpt none env)) (wpAny_pure ?_)
  refine wpAny_bind (wpAny_holding (wpAny_mono h (fun v s' h' => ?_) fun _ _ e => e))
  exact wpAny_bind (wpAny_holding (wpAny_pure h'))
theorem Cfg.rowTup (c : Cfg w Z b₀ P L loc tmp tt s) {t : Addr} (ht : (t, xs) ∈ tt ++ P.tups) : ∃ vs, PyProof.Rows.IsTup s.heap t vs ∧ All2 LV.is xs vs.toList := by
  obtain ⟨o, items, n, h1, h2, h3, h4⟩ := c.tup _ ht
  exact ⟨items, ⟨o, h1, h2, n, h3⟩, h4⟩
theorem r_tupAt {value slice : Expr} {t : Addr} {k : Nat} {u : Tok} {l : LV} (c : Cfg w Z b₀ P L loc tmp tt s) (ht : (t, xs) ∈ tt ++ P.tups) (hk : xs[k]? = some l) (hb : k < 1000000) (h : ∀ v, l.is v → Q v s)
    (hs : subscripted slice false (.ref t) (.int (k : Int) u) = operate [.ref t, .int (k : Int) u] (getItem (.ref t) (.int (k : Int) u)) := by with_unfolding_all rfl) :
    wpAny (model prg w) A (subscriptTail value slice (.ref t) (.int (k : Int) u)) Q E s := by
  obtain ⟨vs, hl, hv⟩ := c.rowTup ht
  obtain ⟨v, h1, h2⟩ := hv.get hk
  have h1' : vs[k]? = some v := by simpa using h1
  have hlt := (Array.getElem?_eq_some_iff.mp h1').1
  refine tail_any hl.typeIs PyProof.Rows.slot_tuple_getitem.lookup (PyProof.Rows.getItem_tuple hl (by (first | lia | omega)) (by (first | lia | omega)) (j := k) ?_ h1' (h v h2)) hs
  unfold seqIndex?
  simp; (first | lia | omega)
theorem r_tupFrom {value slice : Expr} {t : Addr} {u : Tok} (c : Cfg w Z b₀ P L loc tmp tt s) (ht : (t, xs) ∈ tt ++ P.tups) (hs : (S, .fld "slice" #[.int 1 u, .none, .none]) ∈ tmp) (h1 : 1 ≤ xs.length) (hz : xs.length ≤ 1000000)
    (h : ∀ d s', Cfg w Z b₀ P L loc tmp ((d, xs.drop 1) :: tt) s' → Q (.ref d) s')
    (hsb : subscripted slice false (.ref t) (.ref S) = operate [.ref S, .ref t] (getItem (.ref t) (.ref S)) := by with_unfolding_all rfl) :
    wpAny (model prg w) A (subscriptTail value slice (.ref t) (.ref S)) Q E s := by
  obtain ⟨vs, hl, hv⟩ := c.rowTup ht
  obtain ⟨os, hos, hc, hd⟩ := c.at (List.mem_append_left _ hs)
  have hn := hv.size
  refine tail_any hl.typeIs PyProof.Rows.slot_tuple_getitem.lookup (getItem_tuple_from (a := 1) hl ⟨os, hos, hc, hd⟩ (Nat.le_refl _) (by (first | lia | omega)) ?_ (by rw [sizeLine_eq]; (first | lia | omega))) hsb
  exact h _ _ (c.newTup (tk := s.toks) (fun b o e => Heap.get?_push_of_some _ e) ⟨_, _, _, Heap.get?_push_size _ rfl, rfl, rfl, by simpa using hv.drop 1⟩)
theorem sliceApplied_to {sl : Addr} {n : Nat} {u : Tok} {Q : Int × Int × Nat → Shared → Prop} (hs : s.heap.IsSliceOf sl .none (.int (1 : Nat) u) .none) (hn : 1 ≤ n) (h : Q (0, 1, 1) s) :
    wpAny (model prg w) A (Builtin.Slice.sliceApplied (.ref sl) (pure (n : Int))) Q E s := by
  obtain ⟨os, hos, hcs, hds⟩ := id hs
  unfold Builtin.Slice.sliceApplied Builtin.Slice.sliceFields
  refine wpAny_bind (wpAny_bind (wpAny_field hos hds (x := .none) rfl (wpAny_bind (wpAny_field hos hds (x := .int (1 : Nat) u) rfl (wpAny_bind (wpAny_field hos hds (x := .none) rfl (wpAny_pure ?_)))))))
  refine wpAny_bind (slicePart_none ?_)
  show wpAny _ _ (if ((1 : Int) == 0) = true then _ else _) _ _ s
  rw [if_neg (by decide)]
  refine wpAny_bind (slicePart_none (wpAny_bind (slicePart_int (wpAny_bind (wpAny_pure ?_)))))
  show wpAny _ _ (match Builtin.Slice.sliceAdjust none (some ((1 : Nat) : Int)) 1 (n : Int) with | (lo, hi) => pure (lo, (1 : Int), Builtin.Slice.slicePlaces lo hi 1)) _ _ s
  have e1 : Builtin.Slice.sliceAdjust none (some ((1 : Nat) : Int)) 1 (n : Int) = (0, 1) := by
    unfold Builtin.Slice.sliceAdjust
    simp
    (first | lia | omega)
  rw [e1]
  exact wpAny_pure h
theorem r_tupTo {value slice : Expr} {t : Addr} {u : Tok} {l : LV} (c : Cfg w Z b₀ P L loc tmp tt s) (ht : (t, l :: xs) ∈ tt ++ P.tups) (hs : (S, .fld "slice" #[.none, .int 1 u, .none]) ∈ tmp) (hz : xs.length ≤ 100000)
    (h : ∀ d s' tt', (d, [l]) ∈ tt' ++ P.tups → (∀ p ∈ tt, p ∈ tt') → Cfg w Z b₀ P L loc tmp tt' s' → Q (.ref d) s')
    (hsb : subscripted slice false (.ref t) (.ref S) = operate [.ref S, .ref t] (getItem (.ref t) (.ref S)) := by with_unfolding_all rfl) :
    wpAny (model prg w) A (subscriptTail value slice (.ref t) (.ref S)) Q E s := by
  obtain ⟨vs, hl, hv⟩ := c.rowTup ht
  obtain ⟨os, hos, hc, hd⟩ := c.at (List.mem_append_left _ hs)
  have hn := hv.size
  rw [List.length_cons] at hn
  have hTs : s.TypeIs (.ref S) "slice" := ⟨os, hos, hc⟩
  refine tail_any hl.typeIs PyProof.Rows.slot_tuple_getitem.lookup ?_ hsb
  unfold getItem
  try with_reducible refine wpAny_holding ?_
  first | refine wpAny_bind (wpAny_pure ?_) | skip
  refine wpAny_bind (wpAny_sequenceKey hl.typeIs (by decide) ?_)
  refine wpAny_bind (wpAny_callSpecial?_slot (name := Str.ofString "__getitem__") hl.typeIs PyProof.Rows.slot_tuple_getitem
    (wpAny_call_entry PyProof.Rows.slot_tuple_getitem hl.typeIs PyProof.Rows.entry_tuple_getitem ?_ (PyProof.Rows.args_tuple_getitem _ _)))
  show wpAny _ _ (Builtin.Tuple.tupleItemsOf (.ref t) >>= _) _ _ s
  refine wpAny_bind (tupleItemsOf_ hl ?_)
  refine wpAny_bind (wpAny_typeOf hTs ?_)
  rw [if_pos (by decide)]
  refine wpAny_bind (sliceApplied_to (n := vs.size) ⟨os, hos, hc, hd⟩ (by (first | lia | omega)) ?_)
  show wpAny _ _ (if ((0 : Int) == 0 && (1 : Int) == 1 && 1 == vs.size) = true then _ else _) _ _ s
  by_cases h1 : vs.size = 1
  · rw [if_pos (by rw [h1]; decide)]
    have hx : xs = [] := List.length_eq_zero_iff.mp (by (first | lia | omega))
    subst hx
    have fin : Q (.ref t) s := h t s tt ht (fun p hp => hp) c
    refine wpAny_bind ?_
    unfold Builtin.Tuple.tupleIsExact
    refine wpAny_bind (wpAny_typeOf hl.typeIs (wpAny_pure ?_))
    rw [if_pos (by decide)]
    exact wpAny_bind (wpAny_rule (wpAny_pure ⟨_, rfl, wpAny_pure fin⟩))
  · rw [if_neg (by simp; (first | lia | omega))]
    obtain ⟨v, hv0, hlv⟩ := hv.get (i := 0) (a := l) rfl
    have hpick : ((List.range 1).filterMap fun (k : Nat) => vs[((0 : Int) + (k : Int) * 1).toNat]?) = [v] := by
      have : vs[0]? = some v := by simpa using hv0
      simp [List.range_succ, this]
    rw [hpick]
    have hdrop : sizeOk (.seq [v].toArray) := by show ([v].toArray).size ≤ sizeLine; rw [sizeLine_eq]; simp
    have c' := c.newTup (a := s.heap.objs.size) (t := [l]) (tk := s.toks) (h' := s.heap.push { cls := .type "tuple", data := .seq [v].toArray }) (fun b o e => Heap.get?_push_of_some _ e) ⟨_, _, _, Heap.get?_push_size _ rfl, rfl, rfl, .cons hlv .nil⟩
    have fin := h _ _ _ (.head _) (fun p hp => .tail _ hp) c'
    first
      | exact wpAny_bind (m := Builtin.Tuple.tupleExact _) (wpAny_newObj_type (wpAny_pure ⟨_, rfl, wpAny_pure fin⟩) hdrop)
      | exact wpAny_bind (m := Builtin.Tuple.tupleExact _) (wpAny_newObj_type (wpAny_bind (wpAny_pure (wpAny_pure ⟨_, rfl, wpAny_pure fin⟩))) hdrop)
      | exact wpAny_bind (wpAny_bind (m := Builtin.Tuple.tupleExact _) (wpAny_newObj_type (wpAny_pure (wpAny_pure ⟨_, rfl, wpAny_pure fin⟩)) hdrop))
      | exact wpAny_bind (wpAny_bind (m := Builtin.Tuple.tupleExact _) (wpAny_newObj_type (wpAny_pure ⟨_, rfl, wpAny_pure fin⟩) hdrop))

theorem r_addT {t b : Addr} {l : LV} (c : Cfg w Z b₀ P L loc tmp tt s) (ht : (t, l :: xs) ∈ tt ++ P.tups) (hb : (b, ys) ∈ tt ++ P.tups) (hz : xs.length + ys.length ≤ 100000)
    (h : ∀ d s' tt', (d, l :: xs ++ ys) ∈ tt' ++ P.tups → (∀ p ∈ tt, p ∈ tt') → Cfg w Z b₀ P L loc tmp tt' s' → Q (.ref d) s') : wpAny (model prg w) A (binaryOp .Add (.ref t) (.ref b)) Q E s := by
  obtain ⟨o1, vs, n1, h1, hc1, hd1, hv⟩ := c.tup _ ht
  obtain ⟨o2, ws, n2, h2, hc2, hd2, hw⟩ := c.tup _ hb
  obtain ⟨cls, dd, data, sl⟩ := o1
  obtain ⟨cls2, dd2, data2, sl2⟩ := o2
  simp only at hc1 hd1 hc2 hd2
  subst hc1; subst hd1; subst hc2; subst hd2
  have e1 := hv.size
  have e2 : ys.length = ws.size := hw.size
  rw [List.length_cons] at e1
  have hne : vs.toList ≠ [] := fun e => by rw [e] at hv; cases hv
  by_cases hw0 : ws.toList = []
  · have hy : ys = [] := by rw [hw0] at hw; cases hw; rfl
    subst hy
    refine concat_meets ⟨_, h1, rfl⟩ ⟨_, h2, rfl⟩ noFill_tuple_add seq_tuple_add PySem.F.slot_tuple_add PySem.F.entry_tuple_add (PySem.F.args_tuple_add_2 _ _)
        (tuple_addW1 t b vs ws n1 n2 dd dd2 sl sl2 (by simpa using hne) (by simpa using hw0)) ⟨h1, h2, ?_⟩
    exact h t s tt (by simpa using ht) (fun p hp => hp) c
  · refine concat_meets ⟨_, h1, rfl⟩ ⟨_, h2, rfl⟩ noFill_tuple_add seq_tuple_add PySem.F.slot_tuple_add PySem.F.entry_tuple_add (PySem.F.args_tuple_add_2 _ _)
        (tuple_addW2 t b vs ws n1 n2 dd dd2 sl sl2 (by simpa using hne) (by simpa using hw0) (by rw [sizeLine_eq]; (first | lia | omega))) ⟨h1, h2, ?_⟩
    exact h _ _ _ (.head _) (fun p hp => .tail _ hp) (c.newTup (tk := s.toks) (fun b o e => Heap.get?_push_of_some _ e) ⟨_, _, _, Heap.get?_push_size _ rfl, rfl, rfl, by rw [Array.toList_append]; exact hv.append hw⟩)
theorem r_tupT {t : Addr} (c : Cfg w Z b₀ P L loc tmp tt s) (ht : (t, xs) ∈ tt ++ P.tups) (h : Q (.ref t) s) : wpAny (model prg w) A (call (.type "tuple") [.ref t]) Q E s := by
  obtain ⟨vs, hl, hv⟩ := c.isTup ht
  exact call_tuple_same hl h
theorem r_tupL {l : Addr} (c : Cfg w Z b₀ P L loc tmp tt s) (hl : (l, .list xs) ∈ tmp ++ P.objs) (hz : xs.length ≤ 1000000) (h : ∀ d s', Cfg w Z b₀ P L loc tmp ((d, xs) :: tt) s' → Q (.ref d) s') : wpAny (model prg w) A (call (.type "tuple") [.ref l]) Q E s := by
  obtain ⟨vs, hl, hv⟩ := c.isList hl
  have e := hv.size
  refine call_tuple_list hl (fun h' hk => ?_) (by rw [sizeLine_eq]; (first | lia | omega))
  have c₁ := c.ext (tk := s.toks) hk
  exact h _ _ (c₁.newTup (tk := s.toks) (fun b o e => Heap.get?_push_of_some _ e) ⟨_, _, _, Heap.get?_push_size _ rfl, rfl, rfl, hv⟩)
theorem r_listL {l : Addr} (c : Cfg w Z b₀ P L loc tmp tt s) (hl : (l, .list xs) ∈ tmp ++ P.objs) (hz : xs.length ≤ 1000000) (h : ∀ d s', Cfg w Z b₀ P L loc ((d, .list xs) :: tmp) tt s' → Q (.ref d) s') : wpAny (model prg w) A (call (.type "list") [.ref l]) Q E s := by
  obtain ⟨vs, n, hl, hv⟩ := c.isL hl
  have e := hv.size
  exact call_list_seq l (.inl rfl) hl rfl rfl (fun h' c' hk hd => h _ _ (c.new (tk := s.toks) hk (new_size _) ⟨_, hd, _, _, rfl, hv⟩)) (by rw [sizeLine_eq]; (first | lia | omega))
theorem r_range1 {k : Int} {t : Tok} (c : Cfg w Z b₀ P L loc tmp tt s) (h : ∀ d s', Cfg w Z b₀ P L loc ((d, .rng 0 k) :: tmp) tt s' → Q (.ref d) s') : wpAny (model prg w) A (call (.type "range") [.int k t]) Q E s :=
  call_range_1 (h _ _ (c.new (fun b o e => Heap.get?_push_of_some _ e) (new_size _) ⟨_, Heap.get?_push_size _ rfl, _, _, _, rfl⟩))
theorem r_range2 {j k : Int} {t u : Tok} (c : Cfg w Z b₀ P L loc tmp tt s) (h : ∀ d s', Cfg w Z b₀ P L loc ((d, .rng j k) :: tmp) tt s' → Q (.ref d) s') : wpAny (model prg w) A (call (.type "range") [.int j t, .int k u]) Q E s :=
  call_range_2 (h _ _ (c.new (fun b o e => Heap.get?_push_of_some _ e) (new_size _) ⟨_, Heap.get?_push_size _ rfl, _, _, _, rfl⟩))
theorem rngSize (j k : Nat) (hjk : j ≤ k) : Builtin.Range.rangeSize (j : Int) (k : Int) 1 = ((k - j : Nat) : Int) := by
  unfold Builtin.Range.rangeSize
  simp
  (first | lia | omega)
theorem rngSmall (j k : Nat) (hjk : j ≤ k) (hk : k ≤ 1000000) : Builtin.Range.small (j : Int) (k : Int) 1 = true := by
  unfold Builtin.Range.small
  rw [rngSize j k hjk]
  unfold Builtin.Range.rangeFitsLong
  simp
  (first | lia | omega)
theorem r_iterR {r : Addr} {j k : Nat} (c : Cfg w Z b₀ P L loc tmp tt s) (hm : (r, .rng (j : Int) (k : Int)) ∈ tmp ++ P.objs) (hjk : j ≤ k) (hk : k ≤ 1000000)
    (h : ∀ I s', Cfg w Z b₀ P L loc ((I, .riter (j : Int) (k - j)) :: tmp) tt s' → Q (.ref I) s') : wpAny (model prg w) A (pyIter (.ref r)) Q E s := by
  obtain ⟨o, ho, t, u, v, rfl⟩ := c.at hm
  refine wpAny_pyIter_range ho (rngSmall j k hjk hk) (h _ _ (c.new (tk := s.toks) (fun b o e => Heap.get?_push_of_some _ e) (new_size _) ⟨_, Heap.get?_push_size _ rfl, ?_⟩))
  rw [rngSize j k hjk]; rfl
theorem r_listR {r : Addr} {k : Nat} (c : Cfg w Z b₀ P L loc tmp tt s) (hh : A.handled = none) (hm : (r, .rng 0 (k : Int)) ∈ tmp ++ P.objs) (hk : k ≤ 1000000)
    (h : ∀ d s', Cfg w Z b₀ P L loc ((d, .list (rngL 0 k)) :: tmp) tt s' → Q (.ref d) s') : wpAny (model prg w) A (call (.type "list") [.ref r]) Q E s := by
  obtain ⟨o, ho, t, u, v, rfl⟩ := c.at hm
  refine call_list_range hh ho (rngSmall 0 k (Nat.zero_le _) hk) (n := k) (rngSize 0 k (Nat.zero_le _)) (by (first | lia | omega)) fun h' tk acc' c' hkk hd hi => h _ _ (c.new (tk := tk) hkk (new_size _) ⟨_, hd, _, _, rfl, ?_⟩)
  obtain ⟨hsz, hi⟩ := hi
  have : ∀ (n : Nat) (l : List Value) (j : Int), l.length = n → (∀ (i : Nat) v, l[i]? = some v → ∃ t, v = Value.int (j + (i : Int)) t) → All2 LV.is ((List.range n).map fun (i : Nat) => LV.int (j + i)) l := by
    intro n
    induction n with
    | zero => intro l j hl _; have := List.length_eq_zero_iff.mp hl; subst this; exact .nil
    | succ n ih =>
      intro l j hl hl2
      cases l with
      | nil => cases hl
      | cons v l =>
        rw [List.range_succ_eq_map, List.map_cons, List.map_map]
        obtain ⟨t, e⟩ := hl2 0 v rfl
        refine .cons ⟨t, by simpa using e⟩ ?_
        have := ih l (j + 1) (by simpa using hl) fun i v hv => by
          obtain ⟨t, e⟩ := hl2 (i + 1) v (by simpa using hv)
          exact ⟨t, by rw [e]; congr 1; (first | lia | omega)⟩
        have e2 : (fun (i : Nat) => LV.int (j + 1 + (i : Int))) = ((fun (i : Nat) => LV.int (j + (i : Int))) ∘ Nat.succ) := by funext i; simp only [Function.comp]; congr 1; (first | lia | omega)
        rw [e2] at this; exact this
  exact this k acc'.toList 0 (by rw [Array.length_toList]; exact hsz) fun i v hv => by
    obtain ⟨t, e⟩ := hi i v (by rw [← Array.getElem?_toList]; exact hv)
    exact ⟨t, by rw [e]; congr 1; (first | lia | omega)⟩
theorem r_sum {l : Addr} {ns : List Int} (c : Cfg w Z b₀ P L loc tmp tt s) (hh : A.handled = none) (hl : (l, .list (ns.map .int)) ∈ tmp ++ P.objs) (h : ∀ k t s', Cfg w Z b₀ P L loc tmp tt s' → Q (.int k t) s') : wpAny (model prg w) A (call (.builtin "sum") [.ref l]) Q E s := by
  obtain ⟨vs, hl, hv⟩ := c.isList hl
  obtain ⟨xs, hx⟩ := (ints_of hv).allInts.items
  have hl' : s.heap.IsList l (intItems xs) := by rw [← hx]; simpa using hl
  exact sum_intListG hh hl' fun h' tk t' hk => h _ _ _ (c.ext hk)
theorem r_max {l : Addr} {ns : List Int} (c : Cfg w Z b₀ P L loc tmp tt s) (hh : A.handled = none) (hl : (l, .list (ns.map .int)) ∈ tmp ++ P.objs) (h0 : 0 < ns.length) (h : ∀ k t s', Cfg w Z b₀ P L loc tmp tt s' → Q (.int k t) s') : wpAny (model prg w) A (call (.builtin "max") [.ref l]) Q E s := by
  obtain ⟨vs, hl, hv⟩ := c.isList hl
  have e := hv.size
  rw [List.length_map] at e
  obtain ⟨xs, hx⟩ := (ints_of hv).allInts.items
  have hx' : vs = intItems xs := by rw [← hx]
  have hl' : s.heap.IsList l (intItems xs) := by rw [← hx']; exact hl
  refine max_intList hh hl' (by have : vs.size = xs.size := by rw [hx']; simp [intItems]
                                (first | lia | omega)) fun v h' tk hv hk => ?_
  obtain ⟨t, rfl⟩ := intItems_at hv
  exact h _ _ _ (c.ext hk)
theorem r_max2 {j k : Int} {t u : Tok} (c : Cfg w Z b₀ P L loc tmp tt s) (hh : A.handled = none) (h : ∀ t s', Cfg w Z b₀ P L loc tmp tt s' → Q (.int (max j k) t) s') : wpAny (model prg w) A (call (.builtin "max") [.int j t, .int k u]) Q E s := by
  refine max_two_ints hh fun h' tk hk => ?_
  have := fun t => h t _ (c.ext (tk := tk) hk)
  split
  · rename_i hb; have e : max j k = k := by (first | lia | omega)
    rw [e] at this; exact this _
  · rename_i hb; have e : max j k = j := by (first | lia | omega)
    rw [e] at this; exact this _
theorem r_min2 {j k : Int} {t u : Tok} (c : Cfg w Z b₀ P L loc tmp tt s) (hh : A.handled = none) (h : ∀ t s', Cfg w Z b₀ P L loc tmp tt s' → Q (.int (min j k) t) s') : wpAny (model prg w) A (call (.builtin "min") [.int j t, .int k u]) Q E s := by
  refine min_two_ints hh fun h' tk hk => ?_
  have := fun t => h t _ (c.ext (tk := tk) hk)
  split
  · rename_i hb; have e : min j k = k := by (first | lia | omega)
    rw [e] at this; exact this _
  · rename_i hb; have e : min j k = j := by (first | lia | omega)
    rw [e] at this; exact this _
theorem r_neL {a b : Addr} {ns ms : List Int} (c : Cfg w Z b₀ P L loc tmp tt s) (r : Room 2 A) (ha : (a, .list (ns.map .int)) ∈ tmp ++ P.objs) (hb : (b, .list (ms.map .int)) ∈ tmp ++ P.objs) (h : Q (.bool (!decide (ns = ms))) s) : wpAny (model prg w) A (compareOp .NotEq (.ref a) (.ref b)) Q E s := by
  obtain ⟨vs, hl, hv⟩ := c.isList ha
  obtain ⟨us, hl2, hv2⟩ := c.isList hb
  exact ne_intsK (vs := vs.toList) (us := us.toList) (by simpa using hl) (ints_of hv) (by simpa using hl2) (ints_of hv2) (by have := r.u; (first | lia | omega)) h
theorem r_lastN {ls : List Int} {value slice : Expr} {u : Tok} (c : Cfg w Z b₀ P L loc tmp tt s) (hm : (a, .list (ls.map .int)) ∈ tmp ++ P.objs) (h0 : 0 < ls.length) (hb : ls.length ≤ 1000000) (h : ∀ t, Q (.int (ls.getD (ls.length - 1) 0) t) s)
    (hs : subscripted slice false (.ref a) (.int (-1) u) = operate [.ref a, .int (-1) u] (getItem (.ref a) (.int (-1) u)) := by with_unfolding_all rfl) :
    wpAny (model prg w) A (subscriptTail value slice (.ref a) (.int (-1) u)) Q E s := by
  obtain ⟨vs, hl, hv⟩ := c.isList hm
  have e := hv.size
  rw [List.length_map] at e
  obtain ⟨v, h1, t, rfl⟩ := hv.get (i := ls.length - 1) (a := .int (ls.getD (ls.length - 1) 0)) (by simp [List.getElem?_map, show ls.length - 1 < ls.length by (first | lia | omega)])
  refine tail_any hl.typeIs slot_list_getitem.lookup (wpAny_getItem_list_neg hl (by (first | lia | omega)) (by (first | lia | omega)) (by (first | lia | omega)) (x := .int (ls.getD (ls.length - 1) 0) t) ?_ (h t)) hs
  have : ((-1 : Int) + (vs.size : Int)).toNat = ls.length - 1 := by (first | lia | omega)
  rw [this]
  simpa using h1
end
end
section
structure Ad where
  hp : Addr
  bk : Addr
  un : Addr
  nodes : Addr
  numbers : Addr
  weights : Addr
  depths : Addr
  uab : Addr
  lots : Addr
  mrg : Addr
  edges : Addr
  forest : Addr
  known : Addr
  hab : Addr
  waiting : Addr
  backs : Value
  stick : Addr
  cells : Addr
  rows : Addr
  pairs : Addr

abbrev Node := Str × List Nat
noncomputable def nlv (ns : List Nat) : List LV := ns.map fun (n : Nat) => .int (n : Int)
noncomputable def nkey (n : Node) : List Atom := .s n.1 :: n.2.map fun (k : Nat) => .i (k : Int)
noncomputable def nlvs (n : Node) : List LV := .str n.1 :: nlv n.2
noncomputable def toI (ns : List Nat) : List Int := ns.map fun (n : Nat) => (n : Int)
theorem nlv_toI (ns : List Nat) : nlv ns = (toI ns).map .int := by simp [nlv, toI, List.map_map]
theorem nkey_lv (n : Node) : (nkey n).map Atom.lv = nlvs n := by simp [nkey, nlvs, nlv, List.map_map, Atom.lv]
theorem toI_inj {a b : List Nat} (h : toI a = toI b) : a = b := by
  induction a generalizing b with
  | nil => cases b with
    | nil => rfl
    | cons => cases h
  | cons x a ih => cases b with
    | nil => cases h
    | cons y b =>
      simp only [toI, List.map_cons, List.cons.injEq] at h
      rw [ih (b := b) h.2]; congr 1; (first | lia | omega)
theorem nkey_inj {a b : Node} (h : nkey a = nkey b) : a = b := by
  obtain ⟨x, k⟩ := a
  obtain ⟨y, l⟩ := b
  simp only [nkey, List.cons.injEq, Atom.s.injEq] at h
  obtain ⟨rfl, h⟩ := h
  have : toI k = toI l := by
    have := congrArg (List.map fun a : Atom => match a with | .i n => n | .s _ => 0) h
    simpa [toI, List.map_map, Function.comp_def] using this
  rw [toI_inj this]
theorem nlv_len (ns : List Nat) : (nlv ns).length = ns.length := by simp [nlv]
theorem nlv_snoc (ns : List Nat) (n : Nat) : nlv (ns ++ [n]) = nlv ns ++ [.int (n : Int)] := by simp [nlv]

structure St where
  nodes : List (Addr × Node)
  numbers : List (Node × Addr × Nat)
  weights : List Int
  depths : List Int
  parent : List Nat
  lots : List (Addr × List Nat)
  mrg : List LV
  edges : List (Addr × Nat × Nat × Addr)
  forest : List Nat
  known : List (Node × Addr × Nat)
  hab : List (Nat × Addr × List Nat)
  waiting : List Nat
  rows : List (Addr × Node)
  pairs : List (Addr × Nat × Nat)
  spot : Nat
  cells : List Int

noncomputable def dT (ks : List (Node × Addr × Nat)) : List (List Atom × Addr × LV) := ks.map fun p => (nkey p.1, p.2.1, .int (p.2.2 : Int))
noncomputable def habD (hab : List (Nat × Addr × List Nat)) : List (Int × LV) := hab.map fun p => ((p.1 : Int), .ref p.2.1)
noncomputable def habL (hab : List (Nat × Addr × List Nat)) : List (Addr × G) := hab.map fun p => (p.2.1, G.list (nlv p.2.2))
noncomputable def lotL (lots : List (Addr × List Nat)) : List (Addr × G) := lots.map fun p => (p.1, G.list (nlv p.2))
noncomputable def refs {α : Type} (l : List (Addr × α)) : List LV := l.map fun p => .ref p.1
noncomputable def edgeT (edges : List (Addr × Nat × Nat × Addr)) : List (Addr × List LV) := edges.map fun p => (p.1, [.int (p.2.1 : Int), .int (p.2.2.1 : Int), .ref p.2.2.2])
noncomputable def nodeT (nodes : List (Addr × Node)) : List (Addr × List LV) := nodes.map fun p => (p.1, nlvs p.2)
noncomputable def keyT (ks : List (Node × Addr × Nat)) : List (Addr × List LV) := ks.map fun p => (p.2.1, nlvs p.1)
noncomputable def pairT (ps : List (Addr × Nat × Nat)) : List (Addr × List LV) := ps.map fun p => (p.1, [.int (p.2.1 : Int), .int (p.2.2 : Int)])
noncomputable def stickD (cells : Addr) (spot : Nat) : List (Str × LV) := [(Str.ofString "cells", .ref cells), (Str.ofString "spot", .int (spot : Int))]

theorem refs_len {α : Type} (l : List (Addr × α)) : (refs l).length = l.length := by simp [refs]
theorem dT_len (l : List (Node × Addr × Nat)) : (dT l).length = l.length := by simp [dT]
theorem habD_len (l : List (Nat × Addr × List Nat)) : (habD l).length = l.length := by simp [habD]
noncomputable def pers (ad : Ad) (σ : St) : Pers where
  objs := (ad.nodes, .list (refs σ.nodes)) ::
    (ad.numbers, .dictT (dT σ.numbers)) ::
    (ad.weights, .list (σ.weights.map .int)) ::
    (ad.depths, .list (σ.depths.map .int)) ::
    (ad.uab, .list (nlv σ.parent)) ::
    (ad.lots, .list (refs σ.lots)) ::
    (ad.mrg, .list σ.mrg) ::
    (ad.edges, .list (refs σ.edges)) ::
    (ad.forest, .list (nlv σ.forest)) ::
    (ad.known, .dictT (dT σ.known)) ::
    (ad.hab, .dictI (habD σ.hab)) ::
    (ad.waiting, .list (nlv σ.waiting)) ::
    (ad.rows, .list (refs σ.rows)) ::
    (ad.pairs, .list (refs σ.pairs)) ::
    (ad.stick, .dictS (stickD ad.cells σ.spot)) ::
    (ad.cells, .list (σ.cells.map .int)) ::
    (lotL σ.lots ++ habL σ.hab)
  tups := nodeT σ.nodes ++ (keyT σ.numbers ++ (edgeT σ.edges ++ (keyT σ.known ++ (nodeT σ.rows ++ pairT σ.pairs))))

abbrev cHeap : Addr := 483
abbrev cBank : Addr := 183
abbrev cUnions : Addr := 351
abbrev fsHeap (ad : Ad) : List (Str × Value) := [(Str.ofString "bank", .ref ad.bk), (Str.ofString "unions", .ref ad.un), (Str.ofString "edges", .ref ad.edges), (Str.ofString "forest", .ref ad.forest),
  (Str.ofString "known", .ref ad.known), (Str.ofString "above", .ref ad.hab), (Str.ofString "waiting", .ref ad.waiting), (Str.ofString "backs", ad.backs)]
abbrev fsBank (ad : Ad) : List (Str × Value) := [(Str.ofString "nodes", .ref ad.nodes), (Str.ofString "numbers", .ref ad.numbers), (Str.ofString "weights", .ref ad.weights), (Str.ofString "depths", .ref ad.depths)]
abbrev fsUnions (ad : Ad) : List (Str × Value) := [(Str.ofString "above", .ref ad.uab), (Str.ofString "lots", .ref ad.lots), (Str.ofString "merged", .ref ad.mrg)]
structure Froz (ad : Ad) (Z : Heap) : Prop where
  hp : Inst Z ad.hp cHeap (fsHeap ad)
  bk : Inst Z ad.bk cBank (fsBank ad)
  un : Inst Z ad.un cUnions (fsUnions ad)

section
variable {ad : Ad} {σ : St} {tmp : List (Addr × G)} {tt : List (Addr × List LV)}
theorem m_nodes : (ad.nodes, G.list (refs σ.nodes)) ∈ tmp ++ (pers ad σ).objs := List.mem_append_right _ (.head _)
theorem m_numbers : (ad.numbers, G.dictT (dT σ.numbers)) ∈ tmp ++ (pers ad σ).objs := List.mem_append_right _ (.tail _ (.head _))
theorem m_weights : (ad.weights, G.list (σ.weights.map .int)) ∈ tmp ++ (pers ad σ).objs := List.mem_append_right _ (.tail _ (.tail _ (.head _)))
theorem m_depths : (ad.depths, G.list (σ.depths.map .int)) ∈ tmp ++ (pers ad σ).objs := List.mem_append_right _ (.tail _ (.tail _ (.tail _ (.head _))))
theorem m_uab : (ad.uab, G.list (nlv σ.parent)) ∈ tmp ++ (pers ad σ).objs := List.mem_append_right _ (.tail _ (.tail _ (.tail _ (.tail _ (.head _)))))
theorem m_lots : (ad.lots, G.list (refs σ.lots)) ∈ tmp ++ (pers ad σ).objs := List.mem_append_right _ (.tail _ (.tail _ (.tail _ (.tail _ (.tail _ (.head _))))))
theorem m_mrg : (ad.mrg, G.list σ.mrg) ∈ tmp ++ (pers ad σ).objs := List.mem_append_right _ (.tail _ (.tail _ (.tail _ (.tail _ (.tail _ (.tail _ (.head _)))))))
theorem m_edges : (ad.edges, G.list (refs σ.edges)) ∈ tmp ++ (pers ad σ).objs := List.mem_append_right _ (.tail _ (.tail _ (.tail _ (.tail _ (.tail _ (.tail _ (.tail _ (.head _))))))))
theorem m_forest : (ad.forest, G.list (nlv σ.forest)) ∈ tmp ++ (pers ad σ).objs := List.mem_append_right _ (.tail _ (.tail _ (.tail _ (.tail _ (.tail _ (.tail _ (.tail _ (.tail _ (.head _)))))))))
theorem m_known : (ad.known, G.dictT (dT σ.known)) ∈ tmp ++ (pers ad σ).objs := List.mem_append_right _ (.tail _ (.tail _ (.tail _ (.tail _ (.tail _ (.tail _ (.tail _ (.tail _ (.tail _ (.head _))))))))))
theorem m_hab : (ad.hab, G.dictI (habD σ.hab)) ∈ tmp ++ (pers ad σ).objs := List.mem_append_right _ (.tail _ (.tail _ (.tail _ (.tail _ (.tail _ (.tail _ (.tail _ (.tail _ (.tail _ (.tail _ (.head _)))))))))))
theorem m_waiting : (ad.waiting, G.list (nlv σ.waiting)) ∈ tmp ++ (pers ad σ).objs := List.mem_append_right _ (.tail _ (.tail _ (.tail _ (.tail _ (.tail _ (.tail _ (.tail _ (.tail _ (.tail _ (.tail _ (.tail _ (.head _))))))))))))
theorem m_rows : (ad.rows, G.list (refs σ.rows)) ∈ tmp ++ (pers ad σ).objs := List.mem_append_right _ (.tail _ (.tail _ (.tail _ (.tail _ (.tail _ (.tail _ (.tail _ (.tail _ (.tail _ (.tail _ (.tail _ (.tail _ (.head _)))))))))))))
theorem m_pairs : (ad.pairs, G.list (refs σ.pairs)) ∈ tmp ++ (pers ad σ).objs := List.mem_append_right _ (.tail _ (.tail _ (.tail _ (.tail _ (.tail _ (.tail _ (.tail _ (.tail _ (.tail _ (.tail _ (.tail _ (.tail _ (.tail _ (.head _))))))))))))))
theorem m_stick : (ad.stick, G.dictS (stickD ad.cells σ.spot)) ∈ tmp ++ (pers ad σ).objs := List.mem_append_right _ (.tail _ (.tail _ (.tail _ (.tail _ (.tail _ (.tail _ (.tail _ (.tail _ (.tail _ (.tail _ (.tail _ (.tail _ (.tail _ (.tail _ (.head _)))))))))))))))
theorem m_cells : (ad.cells, G.list (σ.cells.map .int)) ∈ tmp ++ (pers ad σ).objs := List.mem_append_right _ (.tail _ (.tail _ (.tail _ (.tail _ (.tail _ (.tail _ (.tail _ (.tail _ (.tail _ (.tail _ (.tail _ (.tail _ (.tail _ (.tail _ (.tail _ (.head _))))))))))))))))
theorem objs_tail {p : Addr × G} (h : p ∈ lotL σ.lots ++ habL σ.hab) : p ∈ tmp ++ (pers ad σ).objs :=
  List.mem_append_right _ (.tail _ (.tail _ (.tail _ (.tail _ (.tail _ (.tail _ (.tail _ (.tail _ (.tail _ (.tail _ (.tail _ (.tail _ (.tail _ (.tail _ (.tail _ (.tail _ h))))))))))))))))
theorem m_lot {p : Addr × List Nat} (h : p ∈ σ.lots) : (p.1, G.list (nlv p.2)) ∈ tmp ++ (pers ad σ).objs := objs_tail (List.mem_append_left _ (List.mem_map.mpr ⟨p, h, rfl⟩))
theorem m_habl {p : Nat × Addr × List Nat} (h : p ∈ σ.hab) : (p.2.1, G.list (nlv p.2.2)) ∈ tmp ++ (pers ad σ).objs := objs_tail (List.mem_append_right _ (List.mem_map.mpr ⟨p, h, rfl⟩))
theorem t_node {p : Addr × Node} (h : p ∈ σ.nodes) : (p.1, nlvs p.2) ∈ tt ++ (pers ad σ).tups := List.mem_append_right _ (List.mem_append_left _ (List.mem_map.mpr ⟨p, h, rfl⟩))
theorem t_number {p : Node × Addr × Nat} (h : p ∈ σ.numbers) : (p.2.1, nlvs p.1) ∈ tt ++ (pers ad σ).tups := List.mem_append_right _ (List.mem_append_right _ (List.mem_append_left _ (List.mem_map.mpr ⟨p, h, rfl⟩)))
theorem t_edge {p : Addr × Nat × Nat × Addr} (h : p ∈ σ.edges) : (p.1, [LV.int (p.2.1 : Int), .int (p.2.2.1 : Int), .ref p.2.2.2]) ∈ tt ++ (pers ad σ).tups := List.mem_append_right _ (List.mem_append_right _ (List.mem_append_right _ (List.mem_append_left _ (List.mem_map.mpr ⟨p, h, rfl⟩))))
theorem t_known {p : Node × Addr × Nat} (h : p ∈ σ.known) : (p.2.1, nlvs p.1) ∈ tt ++ (pers ad σ).tups := List.mem_append_right _ (List.mem_append_right _ (List.mem_append_right _ (List.mem_append_right _ (List.mem_append_left _ (List.mem_map.mpr ⟨p, h, rfl⟩)))))
theorem t_row {p : Addr × Node} (h : p ∈ σ.rows) : (p.1, nlvs p.2) ∈ tt ++ (pers ad σ).tups := List.mem_append_right _ (List.mem_append_right _ (List.mem_append_right _ (List.mem_append_right _ (List.mem_append_right _ (List.mem_append_left _ (List.mem_map.mpr ⟨p, h, rfl⟩))))))
theorem t_pair {p : Addr × Nat × Nat} (h : p ∈ σ.pairs) : (p.1, [LV.int (p.2.1 : Int), .int (p.2.2 : Int)]) ∈ tt ++ (pers ad σ).tups := List.mem_append_right _ (List.mem_append_right _ (List.mem_append_right _ (List.mem_append_right _ (List.mem_append_right _ (List.mem_append_right _ (List.mem_map.mpr ⟨p, h, rfl⟩))))))

theorem p_nodes {l} : Put (tmp ++ (pers ad σ).objs) ad.nodes (G.list (refs σ.nodes)) (G.list (refs l)) (tmp ++ (pers ad { σ with nodes := l }).objs) := Put.right .head _
theorem p_numbers {l} : Put (tmp ++ (pers ad σ).objs) ad.numbers (G.dictT (dT σ.numbers)) (G.dictT (dT l)) (tmp ++ (pers ad { σ with numbers := l }).objs) := Put.right (.tail .head) _
theorem p_weights {l} : Put (tmp ++ (pers ad σ).objs) ad.weights (G.list (σ.weights.map .int)) (G.list (l.map .int)) (tmp ++ (pers ad { σ with weights := l }).objs) := Put.right (.tail (.tail .head)) _
theorem p_depths {l} : Put (tmp ++ (pers ad σ).objs) ad.depths (G.list (σ.depths.map .int)) (G.list (l.map .int)) (tmp ++ (pers ad { σ with depths := l }).objs) := Put.right (.tail (.tail (.tail .head))) _
theorem p_uab {l} : Put (tmp ++ (pers ad σ).objs) ad.uab (G.list (nlv σ.parent)) (G.list (nlv l)) (tmp ++ (pers ad { σ with parent := l }).objs) := Put.right (.tail (.tail (.tail (.tail .head)))) _
theorem p_mrg {l} : Put (tmp ++ (pers ad σ).objs) ad.mrg (G.list σ.mrg) (G.list l) (tmp ++ (pers ad { σ with mrg := l }).objs) := Put.right (.tail (.tail (.tail (.tail (.tail (.tail .head)))))) _
theorem p_edges {l} : Put (tmp ++ (pers ad σ).objs) ad.edges (G.list (refs σ.edges)) (G.list (refs l)) (tmp ++ (pers ad { σ with edges := l }).objs) := Put.right (.tail (.tail (.tail (.tail (.tail (.tail (.tail .head))))))) _
theorem p_forest {l} : Put (tmp ++ (pers ad σ).objs) ad.forest (G.list (nlv σ.forest)) (G.list (nlv l)) (tmp ++ (pers ad { σ with forest := l }).objs) := Put.right (.tail (.tail (.tail (.tail (.tail (.tail (.tail (.tail .head)))))))) _
theorem p_known {l} : Put (tmp ++ (pers ad σ).objs) ad.known (G.dictT (dT σ.known)) (G.dictT (dT l)) (tmp ++ (pers ad { σ with known := l }).objs) := Put.right (.tail (.tail (.tail (.tail (.tail (.tail (.tail (.tail (.tail .head))))))))) _
theorem p_waiting {l} : Put (tmp ++ (pers ad σ).objs) ad.waiting (G.list (nlv σ.waiting)) (G.list (nlv l)) (tmp ++ (pers ad { σ with waiting := l }).objs) := Put.right (.tail (.tail (.tail (.tail (.tail (.tail (.tail (.tail (.tail (.tail (.tail .head))))))))))) _
theorem p_rows {l} : Put (tmp ++ (pers ad σ).objs) ad.rows (G.list (refs σ.rows)) (G.list (refs l)) (tmp ++ (pers ad { σ with rows := l }).objs) := Put.right (.tail (.tail (.tail (.tail (.tail (.tail (.tail (.tail (.tail (.tail (.tail (.tail .head)))))))))))) _
theorem p_pairs {l} : Put (tmp ++ (pers ad σ).objs) ad.pairs (G.list (refs σ.pairs)) (G.list (refs l)) (tmp ++ (pers ad { σ with pairs := l }).objs) := Put.right (.tail (.tail (.tail (.tail (.tail (.tail (.tail (.tail (.tail (.tail (.tail (.tail (.tail .head))))))))))))) _
theorem p_stick {n} : Put (tmp ++ (pers ad σ).objs) ad.stick (G.dictS (stickD ad.cells σ.spot)) (G.dictS (stickD ad.cells n)) (tmp ++ (pers ad { σ with spot := n }).objs) := Put.right (.tail (.tail (.tail (.tail (.tail (.tail (.tail (.tail (.tail (.tail (.tail (.tail (.tail (.tail .head)))))))))))))) _
theorem put_tail {a : Addr} {g g' : G} {l' : List (Addr × G)} (h : Put (lotL σ.lots ++ habL σ.hab) a g g' l') : Put (pers ad σ).objs a g g' ((pers ad σ).objs.take 16 ++ l') :=
  .tail (.tail (.tail (.tail (.tail (.tail (.tail (.tail (.tail (.tail (.tail (.tail (.tail (.tail (.tail (.tail h)))))))))))))))
end
section
variable {w : World} {Z : Heap} {b₀ : Shared} {P P' : Pers} {L a : Addr} {loc : List (Str × LV)} {tmp tmp' : List (Addr × G)} {tt tt' : List (Addr × List LV)} {s : Shared} {A : Around} {E : Value → Shared → Prop} {Q : Value → Shared → Prop}
/-- what stands where: the shelf and the bench may trade -/
theorem Cfg.reP (c : Cfg w Z b₀ P L loc tmp tt s) (h : (tmp' ++ P'.objs).Perm (tmp ++ P.objs)) (ht : ∀ p ∈ tt' ++ P'.tups, p ∈ tt ++ P.tups) : Cfg w Z b₀ P' L loc tmp' tt' s :=
  { c with led := fun p hp => c.led p (h.mem_iff.mp hp), nd := ((h.map (·.1)).cons L).nodup_iff.mpr c.nd, tup := fun p hp => c.tup p (ht p hp) }
theorem Cfg.subP (c : Cfg w Z b₀ P L loc tmp tt s) (h : (tmp' ++ P'.objs).Sublist (tmp ++ P.objs)) (ht : ∀ p ∈ tt' ++ P'.tups, p ∈ tt ++ P.tups) : Cfg w Z b₀ P' L loc tmp' tt' s :=
  { c with led := fun p hp => c.led p (h.subset hp), nd := List.Nodup.sublist ((h.map _).cons_cons L) c.nd, tup := fun p hp => c.tup p (ht p hp) }
inductive Lv (L : Addr) (fo : Obj) (tmp : List (Addr × G)) : List (Addr × G) → Prop
  | head : Lv L fo tmp ((L, .obj fo) :: tmp)
  | tail {x l} : Lv L fo tmp l → Lv L fo tmp (x :: l)
theorem Lv.split {L : Addr} {fo : Obj} {tmp l : List (Addr × G)} (h : Lv L fo tmp l) : ∃ pre, l = pre ++ (L, .obj fo) :: tmp := by
  induction h with
  | head => exact ⟨[], rfl⟩
  | tail _ ih => obtain ⟨pre, rfl⟩ := ih; exact ⟨_ :: pre, rfl⟩
theorem Cfg.leave {fo : Obj} {L₂ : Addr} {loc₂ : List (Str × LV)} {l : List (Addr × G)} {tt₂ : List (Addr × List LV)} (B : Back w Z b₀ L loc fo) (c : Cfg w Z b₀ P L₂ loc₂ l tt₂ s) (h : Lv L fo tmp l) (ht : ∀ p ∈ tt, p ∈ tt₂ ++ P.tups) : Cfg w Z b₀ P L loc tmp tt s := by
  obtain ⟨pre, rfl⟩ := h.split
  exact (B _ _ _ _ _ _ _ c).sub (List.sublist_append_right _ _) ht
theorem r_itemN {ns : List Nat} {value slice : Expr} {k : Nat} {u : Tok} (c : Cfg w Z b₀ P L loc tmp tt s) (hm : (a, .list (nlv ns)) ∈ tmp ++ P.objs) (hk : k < ns.length) (hb : ns.length ≤ 1000000) (h : ∀ t, Q (.int (ns.getD k 0 : Nat) t) s)
    (hs : subscripted slice false (.ref a) (.int (k : Int) u) = operate [.ref a, .int (k : Int) u] (getItem (.ref a) (.int (k : Int) u)) := by with_unfolding_all rfl) :
    wpAny (model prg w) A (subscriptTail value slice (.ref a) (.int (k : Int) u)) Q E s := r_itemI c hm (by (first | lia | omega)) (by (first | lia | omega)) (by simp [nlv, hk]) h hs
theorem r_itemRef {α : Type} {ns : List (Addr × α)} {value slice : Expr} {k : Nat} {u : Tok} (c : Cfg w Z b₀ P L loc tmp tt s) (hm : (a, .list (refs ns)) ∈ tmp ++ P.objs) {p : Addr × α} (hk : ns[k]? = some p) (hb : ns.length ≤ 1000000) (h : Q (.ref p.1) s)
    (hs : subscripted slice false (.ref a) (.int (k : Int) u) = operate [.ref a, .int (k : Int) u] (getItem (.ref a) (.int (k : Int) u)) := by with_unfolding_all rfl) :
    wpAny (model prg w) A (subscriptTail value slice (.ref a) (.int (k : Int) u)) Q E s := r_itemR c hm (by (first | lia | omega)) (by have := (List.getElem?_eq_some_iff.mp hk).1; (first | lia | omega)) (by simp [refs, hk]) h hs
theorem r_itemInt {ns : List Int} {value slice : Expr} {k : Nat} {u : Tok} (c : Cfg w Z b₀ P L loc tmp tt s) (hm : (a, .list (ns.map .int)) ∈ tmp ++ P.objs) (hk : k < ns.length) (hb : ns.length ≤ 1000000) (h : ∀ t, Q (.int (ns.getD k 0) t) s)
    (hs : subscripted slice false (.ref a) (.int (k : Int) u) = operate [.ref a, .int (k : Int) u] (getItem (.ref a) (.int (k : Int) u)) := by with_unfolding_all rfl) :
    wpAny (model prg w) A (subscriptTail value slice (.ref a) (.int (k : Int) u)) Q E s := r_itemI c hm (by (first | lia | omega)) (by (first | lia | omega)) (by simp [hk]) h hs
theorem r_node0 {nd : Node} {value slice : Expr} {t : Addr} {u : Tok} (c : Cfg w Z b₀ P L loc tmp tt s) (ht : (t, nlvs nd) ∈ tt ++ P.tups) (h : ∀ t, Q (.str nd.1 t) s)
    (hs : subscripted slice false (.ref t) (.int 0 u) = operate [.ref t, .int 0 u] (getItem (.ref t) (.int 0 u)) := by with_unfolding_all rfl) :
    wpAny (model prg w) A (subscriptTail value slice (.ref t) (.int 0 u)) Q E s := r_tupAt (k := 0) c ht rfl (by (first | lia | omega)) (fun v hv => by obtain ⟨t, rfl⟩ := hv; exact h t) hs
theorem r_nodeFrom {nd : Node} {value slice : Expr} {t S : Addr} {u : Tok} (c : Cfg w Z b₀ P L loc tmp tt s) (ht : (t, nlvs nd) ∈ tt ++ P.tups) (hs : (S, .fld "slice" #[.int 1 u, .none, .none]) ∈ tmp) (hz : nd.2.length ≤ 100000)
    (h : ∀ d s', Cfg w Z b₀ P L loc tmp ((d, nlv nd.2) :: tt) s' → Q (.ref d) s')
    (hsb : subscripted slice false (.ref t) (.ref S) = operate [.ref S, .ref t] (getItem (.ref t) (.ref S)) := by with_unfolding_all rfl) :
    wpAny (model prg w) A (subscriptTail value slice (.ref t) (.ref S)) Q E s := r_tupFrom c ht hs (by simp [nlvs]) (by rw [nlvs, List.length_cons, nlv_len]; (first | lia | omega)) h hsb
theorem r_lenN {ns : List Nat} (c : Cfg w Z b₀ P L loc tmp tt s) (hm : (a, .list (nlv ns)) ∈ tmp ++ P.objs) (hz : ns.length ≤ 1000000) (h : ∀ t s', Cfg w Z b₀ P L loc tmp tt s' → Q (.int (ns.length : Nat) t) s') :
    wpAny (model prg w) A (call (.builtin "len") [.ref a]) Q E s := r_lenL c hm (by rw [nlv_len]; exact hz) (by rw [nlv_len]; exact h)
theorem r_lenInt {ns : List Int} (c : Cfg w Z b₀ P L loc tmp tt s) (hm : (a, .list (ns.map .int)) ∈ tmp ++ P.objs) (hz : ns.length ≤ 1000000) (h : ∀ t s', Cfg w Z b₀ P L loc tmp tt s' → Q (.int (ns.length : Nat) t) s') :
    wpAny (model prg w) A (call (.builtin "len") [.ref a]) Q E s := r_lenL c hm (by rw [List.length_map]; exact hz) (by rw [List.length_map]; exact h)
theorem r_lenR {α : Type} {ns : List (Addr × α)} (c : Cfg w Z b₀ P L loc tmp tt s) (hm : (a, .list (refs ns)) ∈ tmp ++ P.objs) (hz : ns.length ≤ 1000000) (h : ∀ t s', Cfg w Z b₀ P L loc tmp tt s' → Q (.int (ns.length : Nat) t) s') :
    wpAny (model prg w) A (call (.builtin "len") [.ref a]) Q E s := r_lenL c hm (by rw [refs_len]; exact hz) (by rw [refs_len]; exact h)
end

/-- the forest of parents -/
structure PW (p : List Nat) : Prop where
  falls : ∀ i, p.getD i 0 ≤ i
  len : p.length ≤ 64
/-- the least of a class: the way up to the root -/
noncomputable def root (p : List Nat) (a : Nat) : Nat := WellFounded.fix (C := fun _ => Nat) Nat.lt_wfRel.wf (fun a f => if h : p.getD a 0 < a then f (p.getD a 0) h else a) a
theorem root_eq (p : List Nat) (a : Nat) : root p a = if p.getD a 0 < a then root p (p.getD a 0) else a := by
  unfold root
  rw [WellFounded.fix_eq]
  exact dite_eq_ite
theorem root_at {p : List Nat} {a : Nat} (h : p.getD a 0 = a) : root p a = a := by rw [root_eq, if_neg (by (first | lia | omega))]
theorem root_up {p : List Nat} {a : Nat} (h : p.getD a 0 < a) : root p a = root p (p.getD a 0) := by rw [root_eq, if_pos h]
noncomputable def Falls (p : List Nat) : Prop := ∀ i, p.getD i 0 ≤ i
theorem root_le {p : List Nat} (a : Nat) : root p a ≤ a := by
  induction a using Nat.strongRecOn with
  | ind a ih =>
    rw [root_eq]
    split
    · rename_i h; exact Nat.le_trans (ih _ h) (Nat.le_of_lt h)
    · exact Nat.le_refl _
theorem root_root {p : List Nat} (hf : Falls p) (a : Nat) : p.getD (root p a) 0 = root p a := by
  induction a using Nat.strongRecOn with
  | ind a ih =>
    rw [root_eq]
    split
    · rename_i h; exact ih _ h
    · have := hf a; (first | lia | omega)
end
section
section
variable {w : World} {Z : Heap} {b₀ : Shared} {P P' : Pers} {L a y C I S D : Addr} {loc loc' : List (Str × LV)} {tmp tmp' : List (Addr × G)} {tt tt' : List (Addr × List LV)} {s s' : Shared} {h' : Heap} {tk : Nat} {g : Nat → G}
  {A : Around} {E : Value → Shared → Prop} {env : Env} {x : Str} {pos px : Pos} {Q : Value → Shared → Prop} {QO : Option Value → Shared → Prop} {QU : Unit → Shared → Prop} {QF : Flow → Shared → Prop} {n : Nat} {fs : List (Str × Value)}
  {xs ys : List LV} {need : Pers → List (Addr × G) → List (Addr × List LV) → Prop}
/-- what stands at the end of a ledger still stands -/
inductive Suf {α : Type} (l : List α) : List α → Prop
  | refl : Suf l l
  | tail {x l'} : Suf l l' → Suf l (x :: l')
theorem Suf.split {α : Type} {l l' : List α} (h : Suf l l') : ∃ pre, l' = pre ++ l := by
  induction h with
  | refl => exact ⟨[], rfl⟩
  | tail _ ih => obtain ⟨pre, rfl⟩ := ih; exact ⟨_ :: pre, rfl⟩
theorem Suf.mem {α : Type} {l l' : List α} (h : Suf l l') {p : α} (hp : p ∈ l) : p ∈ l' := by
  obtain ⟨pre, rfl⟩ := h.split; exact List.mem_append_right _ hp
/-- the value of an element, and what still stands -/
noncomputable def EltQ (w : World) (Z : Heap) (b₀ : Shared) (P : Pers) (C : Addr) (x : Str) (led : List (Addr × G)) (tt : List (Addr × List LV)) (l : LV) (v : Value) (s : Shared) : Prop :=
  l.is v ∧ ∃ lv ex et, Cfg w Z b₀ P C [(x, lv)] (ex ++ led) et s ∧ ∀ p ∈ tt, p ∈ et ++ P.tups
theorem EltQ.mk {lv l : LV} {led led' : List (Addr × G)} {et : List (Addr × List LV)} {v : Value} (hv : l.is v) (c : Cfg w Z b₀ P C [(x, lv)] led' et s) (h : Suf led led') (ht : Suf tt et) : EltQ w Z b₀ P C x led tt l v s := by
  obtain ⟨pre, rfl⟩ := h.split
  exact ⟨hv, lv, pre, et, c, fun p hp => List.mem_append_left _ (ht.mem hp)⟩
/-- the test of an element, and what still stands -/
noncomputable def TestQ (w : World) (Z : Heap) (b₀ : Shared) (P : Pers) (C : Addr) (x : Str) (l : LV) (led : List (Addr × G)) (tt : List (Addr × List LV)) (b : Bool) (v : Bool) (s : Shared) : Prop :=
  v = b ∧ ∃ ex et, Cfg w Z b₀ P C [(x, l)] (ex ++ led) et s ∧ ∀ p ∈ tt, p ∈ et ++ P.tups
theorem TestQ.mk {l : LV} {led led' : List (Addr × G)} {et : List (Addr × List LV)} {b v : Bool} (hv : v = b) (c : Cfg w Z b₀ P C [(x, l)] led' et s) (h : Suf led led') (ht : Suf tt et) : TestQ w Z b₀ P C x l led tt b v s := by
  obtain ⟨pre, rfl⟩ := h.split
  exact ⟨hv, pre, et, c, fun p hp => List.mem_append_left _ (ht.mem hp)⟩

/-- a list comprehension that turns nothing: [f x for x in xs] -/
theorem r_LCmap {α : Type} {elt iter : Expr} {scope : Scope} {cl : List (Str × Addr)} {use : Option (Value → Sem Unit)} (ns : List α) (inn out : α → LV) (N : Nx w Z b₀ I (ns.map inn) g need) (hh : A.handled = none)
    (hcell : ∀ y ∈ scope.names, y.2 ≠ .cell) (hkind : scope.kind = .function) (hx : scope.names.lookup x = some .local)
    (hneed : ∀ D fo i acc, need P ((L, .obj fo) :: (D, .list acc) :: (I, g i) :: tmp) tt) (hsz : ns.length ≤ 1000000)
    (turn : ∀ C D fo i acc s k, ns[i]? = some k → Cfg w Z b₀ P C [(x, inn k)] ((L, .obj fo) :: (D, .list acc) :: (I, g (i + 1)) :: tmp) tt s →
      wpAny (model prg w) A (eval elt (compEnvC scope cl C env)) (EltQ w Z b₀ P C x ((L, .obj fo) :: (D, .list acc) :: (I, g (i + 1)) :: tmp) tt (out k)) F0 s)
    (fin : ∀ C D fo s lv, Back w Z b₀ L loc fo → Cfg w Z b₀ P C [(x, lv)] ((L, .obj fo) :: (D, .list (ns.map out)) :: tmp) tt s → compPost (model prg w) A E use Q (.ref D) C (.ok .next) s)
    (c : Cfg w Z b₀ P L loc ((I, g 0) :: tmp) tt s) (ht : ∀ v, letOwnedTupleGo (.Name x px) (.ref I) v = pure () := by intro _; rfl) :
    LCgo w A env scope cl (.ListComp elt [⟨.Name x px, iter, [], 0⟩] scope pos) (newList []) use Q E (.ref I) s := by
  refine r_LCgo N hh (fun i P' acc => P' = P ∧ acc = (ns.map out).take i ∧ i ≤ ns.length) hcell hkind hx (fun D fo i P' acc j => by obtain ⟨rfl, rfl, _⟩ := j; exact hneed _ _ _ _) (fun i P' acc j => by obtain ⟨_, rfl, _⟩ := j; rw [List.length_take]; (first | lia | omega))
    (fun C D fo i P' acc s l hl j c => ?_) (fun C D fo P' acc s lv hb j c => ?_) ⟨rfl, rfl, Nat.zero_le _⟩ c ht
  · obtain ⟨rfl, rfl, _⟩ := j
    rw [List.getElem?_map] at hl
    obtain ⟨k, hk, rfl⟩ := Option.map_eq_some_iff.mp hl
    refine wpAny_tests_nil ?_
    rw [if_pos rfl]
    refine wpAny_mono (turn C D fo i _ s k hk c) (fun v s' h => ?_) fun _ _ e => e.elim
    obtain ⟨hv, lv, ex, et, c', het⟩ := h
    have hlt := (List.getElem?_eq_some_iff.mp hk).1
    refine ⟨P', out k, lv, ex, et, hv, ⟨rfl, ?_, hlt⟩, c', het⟩
    rw [List.take_add_one, List.getElem?_map, hk]; rfl
  · obtain ⟨rfl, rfl, _⟩ := j
    rw [List.length_map, List.take_of_length_le (by simp)] at c
    exact fin C D fo s lv hb c
/-- with one test: [f x for x in xs if p x] -/
theorem r_LCfilter {α : Type} {elt test iter : Expr} {scope : Scope} {cl : List (Str × Addr)} {use : Option (Value → Sem Unit)} (ns : List α) (inn out : α → LV) (p : α → Bool) (N : Nx w Z b₀ I (ns.map inn) g need) (hh : A.handled = none)
    (hcell : ∀ y ∈ scope.names, y.2 ≠ .cell) (hkind : scope.kind = .function) (hx : scope.names.lookup x = some .local)
    (hneed : ∀ D fo i acc, need P ((L, .obj fo) :: (D, .list acc) :: (I, g i) :: tmp) tt) (hsz : ns.length ≤ 1000000)
    (tst : ∀ C D fo i acc s k, ns[i]? = some k → Cfg w Z b₀ P C [(x, inn k)] ((L, .obj fo) :: (D, .list acc) :: (I, g (i + 1)) :: tmp) tt s →
      wpAny (model prg w) A (isTrue test (compEnvC scope cl C env) (eval test (compEnvC scope cl C env))) (TestQ w Z b₀ P C x (inn k) ((L, .obj fo) :: (D, .list acc) :: (I, g (i + 1)) :: tmp) tt (p k)) F0 s)
    (turn : ∀ C D fo i acc s k, ns[i]? = some k → p k = true → Cfg w Z b₀ P C [(x, inn k)] ((L, .obj fo) :: (D, .list acc) :: (I, g (i + 1)) :: tmp) tt s →
      wpAny (model prg w) A (eval elt (compEnvC scope cl C env)) (EltQ w Z b₀ P C x ((L, .obj fo) :: (D, .list acc) :: (I, g (i + 1)) :: tmp) tt (out k)) F0 s)
    (fin : ∀ C D fo s lv, Back w Z b₀ L loc fo → Cfg w Z b₀ P C [(x, lv)] ((L, .obj fo) :: (D, .list ((ns.filter p).map out)) :: tmp) tt s → compPost (model prg w) A E use Q (.ref D) C (.ok .next) s)
    (c : Cfg w Z b₀ P L loc ((I, g 0) :: tmp) tt s) (ht : ∀ v, letOwnedTupleGo (.Name x px) (.ref I) v = pure () := by intro _; rfl) :
    LCgo w A env scope cl (.ListComp elt [⟨.Name x px, iter, [test], 0⟩] scope pos) (newList []) use Q E (.ref I) s := by
  refine r_LCgo N hh (fun i P' acc => P' = P ∧ acc = ((ns.take i).filter p).map out ∧ i ≤ ns.length) hcell hkind hx (fun D fo i P' acc j => by obtain ⟨rfl, rfl, _⟩ := j; exact hneed _ _ _ _)
    (fun i P' acc j => by obtain ⟨_, rfl, _⟩ := j; rw [List.length_map]; have := List.length_filter_le p (ns.take i); rw [List.length_take] at this; (first | lia | omega))
    (fun C D fo i P' acc s l hl j c => ?_) (fun C D fo P' acc s lv hb j c => ?_) ⟨rfl, by simp, Nat.zero_le _⟩ c ht
  · obtain ⟨rfl, rfl, _⟩ := j
    rw [List.getElem?_map] at hl
    obtain ⟨k, hk, rfl⟩ := Option.map_eq_some_iff.mp hl
    have hlt := (List.getElem?_eq_some_iff.mp hk).1
    have htk : ns.take (i + 1) = ns.take i ++ [k] := by rw [List.take_add_one, hk]; rfl
    refine wpAny_tests_one (wpAny_mono (tst C D fo i _ s k hk c) (fun v s' h => ?_) fun _ _ e => e.elim)
    obtain ⟨rfl, ex, et, c', het⟩ := h
    cases hp : p k with
    | true =>
      rw [if_pos rfl]
      have c'' := c'.sub (tmp' := (L, .obj fo) :: (D, .list _) :: (I, g (i + 1)) :: tmp) (List.sublist_append_right _ _) het
      refine wpAny_mono (turn C D fo i _ s' k hk hp c'') (fun v s' h => ?_) fun _ _ e => e.elim
      obtain ⟨hv, lv, ex, et, c', het⟩ := h
      refine ⟨P', out k, lv, ex, et, hv, ⟨rfl, ?_, hlt⟩, c', het⟩
      rw [htk, List.filter_append, List.map_append]; simp [hp]
    | false =>
      rw [if_neg Bool.false_ne_true]
      refine ⟨P', inn k, ex, et, ⟨rfl, ?_, hlt⟩, c', het⟩
      rw [htk, List.filter_append]; simp [hp]
  · obtain ⟨rfl, rfl, _⟩ := j
    rw [List.length_map, List.take_of_length_le (Nat.le_refl _)] at c
    exact fin C D fo s lv hb c
/-- the same on numbers that count -/
theorem r_LCnat {α : Type} {elt iter : Expr} {scope : Scope} {cl : List (Str × Addr)} {use : Option (Value → Sem Unit)} (ns : List α) (inn : α → LV) (f : α → Nat) (N : Nx w Z b₀ I (ns.map inn) g need) (hh : A.handled = none)
    (hcell : ∀ y ∈ scope.names, y.2 ≠ .cell) (hkind : scope.kind = .function) (hx : scope.names.lookup x = some .local)
    (hneed : ∀ D fo i acc, need P ((L, .obj fo) :: (D, .list acc) :: (I, g i) :: tmp) tt) (hsz : ns.length ≤ 1000000)
    (turn : ∀ C D fo i acc s k, ns[i]? = some k → Cfg w Z b₀ P C [(x, inn k)] ((L, .obj fo) :: (D, .list acc) :: (I, g (i + 1)) :: tmp) tt s →
      wpAny (model prg w) A (eval elt (compEnvC scope cl C env)) (EltQ w Z b₀ P C x ((L, .obj fo) :: (D, .list acc) :: (I, g (i + 1)) :: tmp) tt (.int (f k : Nat))) F0 s)
    (fin : ∀ C D fo s lv, Back w Z b₀ L loc fo → Cfg w Z b₀ P C [(x, lv)] ((L, .obj fo) :: (D, .list (nlv (ns.map f))) :: tmp) tt s → compPost (model prg w) A E use Q (.ref D) C (.ok .next) s)
    (c : Cfg w Z b₀ P L loc ((I, g 0) :: tmp) tt s) (ht : ∀ v, letOwnedTupleGo (.Name x px) (.ref I) v = pure () := by intro _; rfl) :
    LCgo w A env scope cl (.ListComp elt [⟨.Name x px, iter, [], 0⟩] scope pos) (newList []) use Q E (.ref I) s :=
  r_LCmap ns inn (fun k => .int (f k : Nat)) N hh hcell hkind hx hneed hsz turn (fun C D fo s lv hb c => fin C D fo s lv hb (by rw [nlv, List.map_map]; exact c)) c ht
theorem r_LCnatF {α : Type} {elt test iter : Expr} {scope : Scope} {cl : List (Str × Addr)} {use : Option (Value → Sem Unit)} (ns : List α) (inn : α → LV) (f : α → Nat) (p : α → Bool) (N : Nx w Z b₀ I (ns.map inn) g need) (hh : A.handled = none)
    (hcell : ∀ y ∈ scope.names, y.2 ≠ .cell) (hkind : scope.kind = .function) (hx : scope.names.lookup x = some .local)
    (hneed : ∀ D fo i acc, need P ((L, .obj fo) :: (D, .list acc) :: (I, g i) :: tmp) tt) (hsz : ns.length ≤ 1000000)
    (tst : ∀ C D fo i acc s k, ns[i]? = some k → Cfg w Z b₀ P C [(x, inn k)] ((L, .obj fo) :: (D, .list acc) :: (I, g (i + 1)) :: tmp) tt s →
      wpAny (model prg w) A (isTrue test (compEnvC scope cl C env) (eval test (compEnvC scope cl C env))) (TestQ w Z b₀ P C x (inn k) ((L, .obj fo) :: (D, .list acc) :: (I, g (i + 1)) :: tmp) tt (p k)) F0 s)
    (turn : ∀ C D fo i acc s k, ns[i]? = some k → p k = true → Cfg w Z b₀ P C [(x, inn k)] ((L, .obj fo) :: (D, .list acc) :: (I, g (i + 1)) :: tmp) tt s →
      wpAny (model prg w) A (eval elt (compEnvC scope cl C env)) (EltQ w Z b₀ P C x ((L, .obj fo) :: (D, .list acc) :: (I, g (i + 1)) :: tmp) tt (.int (f k : Nat))) F0 s)
    (fin : ∀ C D fo s lv, Back w Z b₀ L loc fo → Cfg w Z b₀ P C [(x, lv)] ((L, .obj fo) :: (D, .list (nlv ((ns.filter p).map f))) :: tmp) tt s → compPost (model prg w) A E use Q (.ref D) C (.ok .next) s)
    (c : Cfg w Z b₀ P L loc ((I, g 0) :: tmp) tt s) (ht : ∀ v, letOwnedTupleGo (.Name x px) (.ref I) v = pure () := by intro _; rfl) :
    LCgo w A env scope cl (.ListComp elt [⟨.Name x px, iter, [test], 0⟩] scope pos) (newList []) use Q E (.ref I) s :=
  r_LCfilter ns inn (fun k => .int (f k : Nat)) p N hh hcell hkind hx hneed hsz tst turn (fun C D fo s lv hb c => fin C D fo s lv hb (by rw [nlv, List.map_map]; exact c)) c ht
theorem r_setN {l : Addr} {ns : List Nat} (c : Cfg w Z b₀ P L loc tmp tt s) (hh : A.handled = none) (hm : (l, .list (nlv ns)) ∈ tmp ++ P.objs) (hn : ns.length + 1 < scanBound)
    (h : ∀ d s', Cfg w Z b₀ P L loc ((d, .setI (setOf (toI ns))) :: tmp) tt s' → Q (.ref d) s') : wpAny (model prg w) A (call (.type "set") [.ref l]) Q E s :=
  r_set c hh (by rw [← nlv_toI]; exact hm) (by simpa [toI] using hn) h
theorem r_sumN {l : Addr} {ns : List Nat} (c : Cfg w Z b₀ P L loc tmp tt s) (hh : A.handled = none) (hl : (l, .list (nlv ns)) ∈ tmp ++ P.objs) (h : ∀ k t s', Cfg w Z b₀ P L loc tmp tt s' → Q (.int k t) s') : wpAny (model prg w) A (call (.builtin "sum") [.ref l]) Q E s :=
  r_sum (ns := toI ns) c hh (by rw [← nlv_toI]; exact hl) h
theorem post_Q {fo : Obj} {L₂ : Addr} {loc₂ : List (Str × LV)} {acc : Value} {f : Flow} (h : ∀ s', Cfg w Z b₀ P L loc tmp tt s' → Q acc s') (B : Back w Z b₀ L loc fo) (c : Cfg w Z b₀ P L₂ loc₂ ((L, .obj fo) :: tmp) tt s) :
    compPost (model prg w) A E none Q acc L₂ (.ok f) s := post_none B c h
end
end
section
section
variable {w : World} {Z : Heap} {b₀ : Shared} {P P' : Pers} {L a C I S D : Addr} {loc loc' : List (Str × LV)} {tmp tmp' : List (Addr × G)} {tt tt' : List (Addr × List LV)} {s s' : Shared} {h' : Heap} {tk : Nat} {g : Nat → G}
  {A : Around} {E : Value → Shared → Prop} {env : Env} {x y : Str} {pos px py : Pos} {Q : Value → Shared → Prop} {QU : Unit → Shared → Prop} {n : Nat}
  {xs ys : List LV} {need : Pers → List (Addr × G) → List (Addr × List LV) → Prop}
theorem r_draw (N : Nx w Z b₀ I xs g need) (hh : A.handled = none) (hneed : ∀ i, need P ((I, g i) :: tmp) tt) : ∀ (k i : Nat) (s : Shared) (QL : List Value → Shared → Prop), i + k ≤ xs.length → Cfg w Z b₀ P L loc ((I, g i) :: tmp) tt s →
    (∀ vs s', All2 LV.is ((xs.drop i).take k) vs → Cfg w Z b₀ P L loc ((I, g (i + k)) :: tmp) tt s' → QL vs s') → wpAny (model prg w) A (draw (.ref I) k) QL E s
  | 0, i, s, QL, hk, c, h => by
    show wpAny _ _ (pure []) QL E s
    exact wpAny_pure (h [] s .nil c)
  | k + 1, i, s, QL, hk, c, h => by
    have hlt : i < xs.length := by (first | lia | omega)
    show wpAny _ _ (pyNext (.ref I) >>= _) QL E s
    refine wpAny_bind (N.item hh c (hneed i) .head (List.getElem?_eq_getElem hlt) fun v s₁ hv c₁ => ?_)
    refine wpAny_bind (wpAny_holding (r_draw N hh hneed k (i + 1) s₁ _ (by (first | lia | omega)) c₁ fun vs s₂ hvs c₂ => wpAny_pure (h (v :: vs) s₂ ?_ (by rw [show i + (k + 1) = i + 1 + k by (first | lia | omega)]; exact c₂))))
    rw [List.drop_eq_getElem_cons hlt, List.take_succ_cons]
    exact .cons hv hvs
theorem r_unpackL {t : Addr} {targets : List (Bool × (Value → Sem Unit))} (c : Cfg w Z b₀ P L loc tmp tt s) (hh : A.handled = none) (ht : (t, .list xs) ∈ tmp ++ P.objs) (hn : targets.length = xs.length) (hstar : targets.findIdx? (·.1) = none)
    (h : ∀ vs s', All2 LV.is xs vs → Cfg w Z b₀ P L loc tmp tt s' → wpAny (model prg w) A (assignInOrder (targets.map (·.2)) vs) QU E s') : wpAny (model prg w) A (unpack (.ref t) targets) QU E s := by
  obtain ⟨us, hl, _⟩ := c.isList ht
  unfold unpack
  rw [hn, hstar]
  refine wpAny_bind (wpAny_holding ?_)
  unfold unpackItems
  refine wpAny_bind ?_
  unfold notIterableAtAll
  refine wpAny_bind (wpAny_specialOf hl.typeIs slot_list_iter.lookup ?_)
  refine wpAny_pure ?_
  simp only [Bool.false_eq_true, if_false]
  refine wpAny_bind (wpAny_holding (r_iterL c ht fun I s₁ c₁ => ?_))
  have N : Nx w Z b₀ I xs (G.liter t) (NeedL t xs) := nx_list
  refine wpAny_bind (wpAny_holding (r_draw N hh (fun i => .tail _ ht) xs.length 0 s₁ _ (by (first | lia | omega)) c₁ fun vs s₂ hvs c₂ => ?_))
  rw [List.drop_zero, List.take_of_length_le (Nat.le_refl _)] at hvs
  have e := hvs.length
  rw [if_neg (by simp [e])]
  rw [Nat.zero_add] at c₂
  refine wpAny_bind (wpAny_holding (N.done (pre := []) hh c₂ (.tail _ ht) fun s₃ c₃ => ?_))
  simp only [Option.isSome_none, Bool.false_eq_true, if_false]
  exact wpAny_pure (h vs s₃ hvs c₃)
theorem r_assign2L {t : Addr} {k} {l1 l2 : LV} (c : Cfg w Z b₀ P L loc tmp tt s) (hh : A.handled = none) (ht : (t, .list [l1, l2]) ∈ tmp ++ P.objs)
    (h : ∀ v1 v2 s', l1.is v1 → l2.is v2 → Cfg w Z b₀ P L loc tmp tt s' → wpAny (model prg w) A (storeName env x v1) (fun _ s₁ => wpAny (model prg w) A (storeName env y v2) QU E s₁) E s') :
    wpAny (model prg w) A (assign (.Tuple [.Name x px, .Name y py] k pos) env (.ref t)) QU E s := by
  rw [arm_assign_Tuple]
  refine wpAny_bind (wpAny_standAt (r_unpackL (targets := assignEach [.Name x px, .Name y py] env) c hh ht rfl rfl fun vs s' hvs c' => ?_))
  obtain ⟨v1, v2, rfl, h1, h2⟩ : ∃ v1 v2, vs = [v1, v2] ∧ l1.is v1 ∧ l2.is v2 := by
    cases hvs with | cons h1 hvs => cases hvs with | cons h2 hvs => cases hvs; exact ⟨_, _, rfl, h1, h2⟩
  refine assignInOrder_cons (wpAny_assign_Name ?_)
  refine wpAny_mono (h _ _ s' h1 h2 c') (fun _ s₁ hq => ?_) fun _ _ e => e
  exact assignInOrder_cons (wpAny_assign_Name (wpAny_mono hq (fun _ s₂ hq => assignInOrder_nil hq) fun _ _ e => e))
theorem r_assign2T {t : Addr} {k} {l1 l2 : LV} (c : Cfg w Z b₀ P L loc tmp tt s) (hh : A.handled = none) (ht : (t, [l1, l2]) ∈ tt ++ P.tups)
    (h : ∀ v1 v2 s', l1.is v1 → l2.is v2 → Cfg w Z b₀ P L loc tmp tt s' → wpAny (model prg w) A (storeName env x v1) (fun _ s₁ => wpAny (model prg w) A (storeName env y v2) QU E s₁) E s') :
    wpAny (model prg w) A (assign (.Tuple [.Name x px, .Name y py] k pos) env (.ref t)) QU E s := by
  obtain ⟨us, hl, hv⟩ := c.rowTup ht
  have e := hv.size
  have hu : ∃ v1 v2, us.toList = [v1, v2] ∧ l1.is v1 ∧ l2.is v2 := by
    generalize us.toList = l at hv
    cases hv with | cons h1 hv => cases hv with | cons h2 hv => cases hv; exact ⟨_, _, rfl, h1, h2⟩
  obtain ⟨v1, v2, e2, h1, h2⟩ := hu
  refine assign_Tuple_tuple hh hl (by rw [← e]; rfl) rfl fun h' he => ?_
  rw [e2]
  have c' : Cfg w Z b₀ P L loc tmp tt { s with heap := h', toks := s.toks } := c.ext fun b o hb => he b o (fun q => by rw [q, get?_size] at hb; cases hb) hb
  refine assignInOrder_cons (wpAny_assign_Name ?_)
  refine wpAny_mono (h _ _ _ h1 h2 c') (fun _ s₁ hq => ?_) fun _ _ e => e
  exact assignInOrder_cons (wpAny_assign_Name (wpAny_mono hq (fun _ s₂ hq => assignInOrder_nil hq) fun _ _ e => e))
theorem r_assignIIL {t : Addr} {k} {i j : Int} (c : Cfg w Z b₀ P L loc tmp tt s) (hh : A.handled = none) (ht : (t, .list [.int i, .int j]) ∈ tmp ++ P.objs)
    (h : ∀ t1 t2 s', Cfg w Z b₀ P L loc tmp tt s' → wpAny (model prg w) A (storeName env x (.int i t1)) (fun _ s₁ => wpAny (model prg w) A (storeName env y (.int j t2)) QU E s₁) E s') :
    wpAny (model prg w) A (assign (.Tuple [.Name x px, .Name y py] k pos) env (.ref t)) QU E s := r_assign2L c hh ht fun v1 v2 s' h1 h2 c' => by obtain ⟨t1, rfl⟩ := h1; obtain ⟨t2, rfl⟩ := h2; exact h t1 t2 s' c'
theorem r_assignII {t : Addr} {k} {i j : Int} (c : Cfg w Z b₀ P L loc tmp tt s) (hh : A.handled = none) (ht : (t, [.int i, .int j]) ∈ tt ++ P.tups)
    (h : ∀ t1 t2 s', Cfg w Z b₀ P L loc tmp tt s' → wpAny (model prg w) A (storeName env x (.int i t1)) (fun _ s₁ => wpAny (model prg w) A (storeName env y (.int j t2)) QU E s₁) E s') :
    wpAny (model prg w) A (assign (.Tuple [.Name x px, .Name y py] k pos) env (.ref t)) QU E s := r_assign2T c hh ht fun v1 v2 s' h1 h2 c' => by obtain ⟨t1, rfl⟩ := h1; obtain ⟨t2, rfl⟩ := h2; exact h t1 t2 s' c'
theorem r_assignIR {t : Addr} {k} {i : Int} {b : Addr} (c : Cfg w Z b₀ P L loc tmp tt s) (hh : A.handled = none) (ht : (t, [.int i, .ref b]) ∈ tt ++ P.tups)
    (h : ∀ t1 s', Cfg w Z b₀ P L loc tmp tt s' → wpAny (model prg w) A (storeName env x (.int i t1)) (fun _ s₁ => wpAny (model prg w) A (storeName env y (.ref b)) QU E s₁) E s') :
    wpAny (model prg w) A (assign (.Tuple [.Name x px, .Name y py] k pos) env (.ref t)) QU E s := r_assign2T c hh ht fun v1 v2 s' h1 h2 c' => by obtain ⟨t1, rfl⟩ := h1; cases h2; exact h t1 s' c'
theorem r_sorted2 {l : Addr} {i j : Nat} (c : Cfg w Z b₀ P L loc tmp tt s) (hm : (l, .list [.int (i : Int), .int (j : Int)]) ∈ tmp ++ P.objs)
    (h : ∀ d s', Cfg w Z b₀ P L loc ((d, .list [.int ((min i j : Nat) : Int), .int ((max i j : Nat) : Int)]) :: tmp) tt s' → Q (.ref d) s') : wpAny (model prg w) A (call (.builtin "sorted") [.ref l]) Q E s := by
  refine r_sortedList (ns := [(i : Int), (j : Int)]) c hm (Nat.le_of_ble_eq_true rfl) fun d s' c' => h d s' ?_
  have e : sortI [(i : Int), (j : Int)] = [((min i j : Nat) : Int), ((max i j : Nat) : Int)] := by
    refine (sortI_uniq ?_ ?_).symm
    · rcases Nat.le_total i j with hij | hij
      · rw [Nat.min_eq_left hij, Nat.max_eq_right hij]
      · rw [Nat.min_eq_right hij, Nat.max_eq_left hij]; exact .swap ..
    · simp; (first | lia | omega)
  rw [e] at c'
  exact c'
end
end
section
section
variable {w : World} {Z : Heap} {b₀ : Shared} {P P' : Pers} {L a y C I S : Addr} {loc loc' : List (Str × LV)} {tmp tmp' : List (Addr × G)} {tt tt' : List (Addr × List LV)} {s s' : Shared} {h' : Heap} {tk : Nat} {g : Nat → G}
  {A : Around} {E : Value → Shared → Prop} {env : Env} {x : Str} {pos px : Pos} {Q : Value → Shared → Prop} {QO : Option Value → Shared → Prop} {QU : Unit → Shared → Prop} {QF : Flow → Shared → Prop} {n : Nat} {fs : List (Str × Value)}
  {xs ys : List LV} {need : Pers → List (Addr × G) → List (Addr × List LV) → Prop}
theorem r_eqL {a b : Addr} {ns ms : List Int} (c : Cfg w Z b₀ P L loc tmp tt s) (r : Room 2 A) (ha : (a, .list (ns.map .int)) ∈ tmp ++ P.objs) (hb : (b, .list (ms.map .int)) ∈ tmp ++ P.objs) (h : Q (.bool (decide (ns = ms))) s) : wpAny (model prg w) A (compareOp .Eq (.ref a) (.ref b)) Q E s := by
  obtain ⟨vs, hl, hv⟩ := c.isList ha
  obtain ⟨us, hl2, hv2⟩ := c.isList hb
  exact eq_intsK (vs := vs.toList) (us := us.toList) (by simpa using hl) (ints_of hv) (by simpa using hl2) (ints_of hv2) (by have := r.u; (first | lia | omega)) h

noncomputable def sIt (x : Str) (t : Tok) (i : Nat) : G := .fld "str_ascii_iterator" #[.str x t, .int i 0]
theorem nx_str {k : Nat} {t : Tok} : Nx w Z b₀ I [LV.str ⟨#[k]⟩] (sIt ⟨#[k]⟩ t) NeedN where
  item {_ _ _ _ _ _ _ _ _ _ i l} hh c hn U hx h := by
    obtain ⟨o, ho, hc, hd⟩ := c.at (List.mem_append_left _ U.mem)
    have hi : i = 0 := by have := (List.getElem?_eq_some_iff.mp hx).1; simpa using this
    subst hi
    have hl : l = .str ⟨#[k]⟩ := by simpa using hx.symm
    subst hl
    refine wpAny_pyNext_ascii_item ⟨o, ho, hc, hd⟩ (c := k) (by simp) fun h' hi' hs => ?_
    obtain ⟨o', ho', hc', hd'⟩ := hi'
    exact h _ _ ⟨_, rfl⟩ (c.chgT U hs.extBut ⟨o', ho', hc', hd'⟩)
  done hh c hn h := by
    obtain ⟨o, ho, hc, hd⟩ := c.at (a := I) (g := sIt ⟨#[k]⟩ t 1) (by simp)
    exact wpAny_pyNext_ascii_end hh ⟨o, ho, hc, hd⟩ (by simp) fun h' hs => h _ (c.lose hs)
  self c hm h := by
    obtain ⟨o, ho, hc, hd⟩ := c.at (List.mem_append_left _ hm)
    exact wpAny_pyIter_striter_ascii ⟨o, ho, hc, hd⟩ h
theorem r_iterS {k : Nat} {t : Tok} (c : Cfg w Z b₀ P L loc tmp tt s) (hk : k < 128) (h : ∀ I s', Cfg w Z b₀ P L loc ((I, sIt ⟨#[k]⟩ t 0) :: tmp) tt s' → Q (.ref I) s') : wpAny (model prg w) A (pyIter (.str ⟨#[k]⟩ t)) Q E s :=
  wpAny_pyIter_ascii (by simpa using hk) (h _ _ (c.new (tk := s.toks) (fun b o e => Heap.get?_push_of_some _ e) (new_size _) ⟨_, Heap.get?_push_size _ rfl, rfl, rfl⟩))

theorem r_forT {l : Addr} {elts : List Expr} {x1 : Nat} {pt : Pos} {body orelse : List Stmt} (hh : A.handled = none) (J : Nat → Pers → List (Str × LV) → List (Addr × G) → List (Addr × List LV) → Prop) {rs : List (Addr × Nat × Nat)}
    (hneed : ∀ i P loc tmp tt, J i P loc tmp tt → (l, .list (rs.map fun p => LV.ref p.1)) ∈ tmp ++ P.objs)
    (turn : ∀ i P loc tmp tt s p, rs[i]? = some p → J i P loc tmp tt → Cfg w Z b₀ P L loc ((I, .liter l (i + 1)) :: tmp) tt s →
      wpAny (model prg w) A (assign (.Tuple elts x1 pt) env (.ref p.1)) (fun _ s₂ => wpAny (model prg w) A (execs body env) (BodyQ w Z b₀ L J I (G.liter l) i QF) F0 s₂) F0 s)
    (done : ∀ P loc tmp tt s, J rs.length P loc tmp tt → Cfg w Z b₀ P L loc tmp tt s → wpAny (model prg w) A (execs orelse env) QF F0 s)
    (j0 : J 0 P loc tmp tt) (c : Cfg w Z b₀ P L loc ((I, .liter l 0) :: tmp) tt s) :
    codeAny (model prg w) A (.forLoop (.Tuple elts x1 pt) (.ref I) body orelse env) (fun r s' => match r with | .ok f => QF f s' | .error e => cameBackBy (model prg w) A env E e s') s := by
  have el : (rs.map fun p => LV.ref p.1).length = rs.length := by simp
  refine codeAny_forLoop_any (fun k s => ∃ i P loc tmp tt, i ≤ rs.length ∧ k = rs.length - i ∧ J i P loc tmp tt ∧ Cfg w Z b₀ P L loc ((I, .liter l i) :: tmp) tt s) (fun k s hI => ?_) rs.length ⟨0, P, loc, tmp, tt, Nat.zero_le _, rfl, j0, c⟩
  obtain ⟨i, P, loc, tmp, tt, hi, rfl, j, c⟩ := hI
  have N : Nx w Z b₀ I (rs.map fun p => LV.ref p.1) (G.liter l) (NeedL l (rs.map fun p => LV.ref p.1)) := nx_list
  have hn := hneed _ _ _ _ _ j
  have hn' : ∀ g : G, (l, G.list (rs.map fun p => LV.ref p.1)) ∈ ((I, g) :: tmp) ++ P.objs := fun g => List.mem_cons_of_mem _ hn
  rcases Nat.lt_or_eq_of_le hi with hlt | rfl
  · refine N.item hh c (hn' _) .head (l := .ref rs[i].1) (by simp [hlt]) fun v s' hv c' => ?_
    cases hv
    obtain ⟨o, ho, hc, hd⟩ := c'.at (a := I) (g := .liter l (i + 1)) (by simp)
    refine wpAny_letOwnedTupleGo_listiter ⟨o, ho, hc, hd⟩ ?_
    refine wpAny_mono (turn i P loc tmp tt s' _ (List.getElem?_eq_getElem hlt) j c') (fun _ s₂ h₂ => wpAny_mono h₂ (fun f s₃ h₃ => ?_) fun _ _ e => e.elim) fun _ _ e => e.elim
    have fin : (∃ P loc tmp tt, J (i + 1) P loc tmp tt ∧ Cfg w Z b₀ P L loc ((I, .liter l (i + 1)) :: tmp) tt s₃) →
        ∃ m, m < rs.length - i ∧ ∃ i P loc tmp tt, i ≤ rs.length ∧ m = rs.length - i ∧ J i P loc tmp tt ∧ Cfg w Z b₀ P L loc ((I, .liter l i) :: tmp) tt s₃ := fun ⟨P, loc, tmp, tt, j, c⟩ => ⟨rs.length - (i + 1), by (first | lia | omega), i + 1, P, loc, tmp, tt, hlt, rfl, j, c⟩
    cases f with
    | next => exact fin h₃
    | cont => exact fin h₃
    | brk => exact h₃
    | ret v => exact h₃
  · rw [← el] at c
    refine N.done (pre := []) hh c (hn' _) fun s' c' => ?_
    exact wpAny_mono (done P loc tmp tt s' j c') (fun f s₃ h₃ => h₃) fun _ _ e => e.elim

noncomputable def enO (it : Addr) (i : Int) (old : Value) : Obj := { cls := .type "enumerate", dict := none, data := .fields #[.none, .bool false, .ref it, rawInt i, .none, old], slots := #[] }
noncomputable def BodyE (w : World) (Z : Heap) (b₀ : Shared) (L : Addr) (J : Nat → Pers → List (Str × LV) → List (Addr × G) → List (Addr × List LV) → Prop) (e it l : Addr) (i : Nat) (QF : Flow → Shared → Prop) (f : Flow) (s : Shared) : Prop :=
  match f with
  | .next | .cont => ∃ P loc tmp tt old, J (i + 1) P loc tmp tt ∧ Cfg w Z b₀ P L loc ((e, .obj (enO it ((i + 1 : Nat) : Int) old)) :: (it, .liter l (i + 1)) :: tmp) tt s
  | .brk => QF .next s
  | .ret v => QF (.ret v) s
theorem r_enum {l : Addr} (c : Cfg w Z b₀ P L loc tmp tt s) (hm : (l, .list xs) ∈ tmp ++ P.objs)
    (h : ∀ e it s', Cfg w Z b₀ P L loc ((e, .obj (enO it 0 .none)) :: (it, .liter l 0) :: tmp) tt s' → Q (.ref e) s') : wpAny (model prg w) A (call (.type "enumerate") [.ref l]) Q E s := by
  obtain ⟨vs, hl, hv⟩ := c.isList hm
  refine call_enumerate_list hl fun h' he hi hz hk => ?_
  obtain ⟨o, ho, hc, hd⟩ := hi
  have c1 : Cfg w Z b₀ P L loc ((s.heap.objs.size, .liter l 0) :: tmp) tt { s with heap := h' } := c.new (tk := s.toks) hk (new_size _) ⟨o, ho, hc, hd⟩
  refine h (s.heap.objs.size + 1) s.heap.objs.size _ ?_
  have hn := List.nodup_cons.mp c1.nd
  have hfr : ∀ b, b < s.heap.objs.size + 1 → s.heap.objs.size + 1 ≠ b := fun b hb => by (first | lia | omega)
  have hx : s.heap.get? (s.heap.objs.size + 1) = none := by
    cases q : s.heap.get? (s.heap.objs.size + 1) with
    | none => rfl
    | some o => exact absurd (Heap.lt_size q) (Nat.not_lt.mpr (Nat.le_succ _))
  refine { c1 with led := fun p hp => ?_, nd := ?_ }
  · rcases List.mem_cons.mp hp with rfl | hp
    · exact ⟨⟨_, he, rfl, fun i n e => by cases e⟩, c.fresh ⟨hx, Nat.le_succ _⟩⟩
    · exact c1.led p hp
  · show (L :: (s.heap.objs.size + 1) :: (((s.heap.objs.size, G.liter l 0) :: tmp) ++ P.objs).map (·.1)).Nodup
    rw [List.nodup_cons, List.nodup_cons]
    refine ⟨fun hm => ?_, fun hm => ?_, hn.2⟩
    · rcases List.mem_cons.mp hm with e | hm
      · exact absurd (show s.heap.objs.size + 1 < s.heap.objs.size from e ▸ c.lt) (Nat.not_lt.mpr (Nat.le_succ _))
      · exact hn.1 hm
    · obtain ⟨p, hp, e⟩ := List.mem_map.mp hm
      rcases List.mem_cons.mp hp with rfl | hp
      · exact absurd (show s.heap.objs.size = s.heap.objs.size + 1 from e) (Nat.ne_of_lt (Nat.lt_succ_self _))
      · obtain ⟨⟨o, ho, _⟩, _⟩ := c.led p hp
        rw [e, hx] at ho; cases ho
theorem r_iterE {e it : Addr} {old : Value} {i : Int} (c : Cfg w Z b₀ P L loc tmp tt s) (hm : (e, .obj (enO it i old)) ∈ tmp) (h : Q (.ref e) s) : wpAny (model prg w) A (pyIter (.ref e)) Q E s := by
  obtain ⟨o, ho, rfl, _⟩ := c.at (List.mem_append_left _ hm)
  exact wpAny_pyIter_enum ho h
theorem r_forE {e it l : Addr} {elts : List Expr} {x1 : Nat} {pt : Pos} {body orelse : List Stmt} (hh : A.handled = none) (J : Nat → Pers → List (Str × LV) → List (Addr × G) → List (Addr × List LV) → Prop)
    (hneed : ∀ i P loc tmp tt, J i P loc tmp tt → (l, .list xs) ∈ tmp ++ P.objs)
    (turn : ∀ i P loc tmp tt s T old l', xs[i]? = some l' → J i P loc tmp tt → Cfg w Z b₀ P L loc ((e, .obj (enO it ((i + 1 : Nat) : Int) old)) :: (it, .liter l (i + 1)) :: tmp) ((T, [.int (i : Int), l']) :: tt) s →
      wpAny (model prg w) A (assign (.Tuple elts x1 pt) env (.ref T)) (fun _ s₂ => wpAny (model prg w) A (execs body env) (BodyE w Z b₀ L J e it l i QF) F0 s₂) F0 s)
    (done : ∀ P loc tmp tt s, J xs.length P loc tmp tt → Cfg w Z b₀ P L loc tmp tt s → wpAny (model prg w) A (execs orelse env) QF F0 s)
    (j0 : J 0 P loc tmp tt) (c : Cfg w Z b₀ P L loc ((e, .obj (enO it 0 .none)) :: (it, .liter l 0) :: tmp) tt s) :
    codeAny (model prg w) A (.forLoop (.Tuple elts x1 pt) (.ref e) body orelse env) (fun r s' => match r with | .ok f => QF f s' | .error e => cameBackBy (model prg w) A env E e s') s := by
  refine codeAny_forLoop_any (fun k s => ∃ i P loc tmp tt old, i ≤ xs.length ∧ k = xs.length - i ∧ J i P loc tmp tt ∧ Cfg w Z b₀ P L loc ((e, .obj (enO it ((i : Nat) : Int) old)) :: (it, .liter l i) :: tmp) tt s) (fun k s hI => ?_) xs.length ⟨0, P, loc, tmp, tt, .none, Nat.zero_le _, rfl, j0, c⟩
  obtain ⟨i, P, loc, tmp, tt, old, hi, rfl, j, c⟩ := hI
  have hn := hneed _ _ _ _ _ j
  obtain ⟨o, ho, rfl, _⟩ := c.at (a := e) (g := .obj (enO it ((i : Nat) : Int) old)) (by simp)
  obtain ⟨oi, hoi, hci, hdi⟩ := c.at (a := it) (g := .liter l i) (by simp)
  obtain ⟨vs, hl, hv⟩ := c.isList (a := l) (ls := xs) (List.mem_cons_of_mem _ (List.mem_cons_of_mem _ hn))
  have hnd := List.nodup_cons.mp c.nd
  have hne : e ≠ it := fun q => (List.nodup_cons.mp hnd.2).1 (by rw [q]; simp)
  rcases Nat.lt_or_eq_of_le hi with hlt | rfl
  · obtain ⟨v, hv1, hv2⟩ := hv.get (i := i) (a := xs[i]) (List.getElem?_eq_getElem hlt)
    refine wpAny_pyNext_enum_item ho ⟨oi, hoi, hci, hdi⟩ hl (x := v) (by simpa using hv1) hne fun h' he' hi' ht' hz' hk' => ?_
    refine wpAny_letOwnedTupleGo_enum he' fun h2 he2 hs2 => ?_
    have hsT : s.heap.objs.size ≠ e := Nat.ne_of_gt (Heap.lt_size ho)
    have c2 : Cfg w Z b₀ P L loc ((e, .obj (enO it (((i + 1 : Nat)) : Int) v)) :: (it, .liter l (i + 1)) :: tmp) ((s.heap.objs.size, [.int (i : Int), xs[i]]) :: tt) { s with heap := h2, toks := s.toks + 1 } := by
      have kk : ∀ b o, b ≠ e → b ≠ it → s.heap.get? b = some o → h2.get? b = some o := fun b o h1 h3 h4 => (hs2.2 b h1).trans (hk' b o h1 h3 h4)
      have hte : ∀ p ∈ tt ++ P.tups, p.1 ≠ e ∧ p.1 ≠ it := fun p hp => by
        obtain ⟨ot, items, n, h1, h2, h3, _⟩ := c.tup p hp
        refine ⟨fun q => ?_, fun q => ?_⟩
        · rw [q, ho] at h1; cases h1; cases h3
        · rw [q, hoi] at h1; cases h1; rw [hdi] at h3; cases h3
      refine ⟨fun b o hb => kk b o (fun q => ?_) (fun q => ?_) (c.keep b o hb), c.os, c.gens, ?_, c.nl, c.newL, fun p hp => ?_, c.nd, fun p hp => ?_⟩
      · rw [q, (c.led (e, .obj (enO it ((i : Nat) : Int) old)) (List.mem_append_left _ (.head _))).2.1] at hb; cases hb
      · rw [q, (c.led (it, .liter l i) (List.mem_append_left _ (.tail _ (.head _)))).2.1] at hb; cases hb
      · obtain ⟨m, h1, h3⟩ := c.ns
        refine ⟨m, ?_, h3⟩
        obtain ⟨ol, es, ep, e1, e2, e3, e4⟩ := h1
        refine ⟨ol, es, ep, kk _ _ (fun q => hnd.1 (by rw [q]; simp)) (fun q => hnd.1 (by rw [q]; simp)) e1, e2, e3, e4⟩
      · rcases List.mem_cons.mp hp with rfl | hp
        · exact ⟨⟨_, he2, rfl, fun _ _ q => by cases q⟩, (c.led (e, .obj (enO it ((i : Nat) : Int) old)) (List.mem_append_left _ (.head _))).2⟩
        · rcases List.mem_cons.mp hp with rfl | hp
          · obtain ⟨o', ho', hc', hd'⟩ := hi'
            exact ⟨⟨o', (hs2.2 it hne.symm).trans ho', hc', hd'⟩, (c.led (it, .liter l i) (List.mem_append_left _ (.tail _ (.head _)))).2⟩
          · obtain ⟨⟨o', h1, h3⟩, h4⟩ := c.led p (List.mem_cons_of_mem _ (List.mem_cons_of_mem _ hp))
            have hp1 := (List.nodup_cons.mp hnd.2)
            refine ⟨⟨o', kk _ _ (fun q => hp1.1 ?_) (fun q => (List.nodup_cons.mp hp1.2).1 ?_) h1, h3⟩, h4⟩
            · exact List.mem_cons_of_mem _ (List.mem_map.mpr ⟨p, hp, q⟩)
            · exact List.mem_map.mpr ⟨p, hp, q⟩
      · rcases List.mem_cons.mp hp with rfl | hp
        · exact ⟨_, _, _, (hs2.2 _ hsT).trans ht', rfl, rfl, .cons ⟨_, rfl⟩ (.cons hv2 .nil)⟩
        · obtain ⟨ot, items, n, h1, r⟩ := c.tup p hp
          exact ⟨ot, items, n, kk _ _ (hte p hp).1 (hte p hp).2 h1, r⟩
    refine wpAny_mono (turn i P loc tmp tt _ _ v _ (List.getElem?_eq_getElem hlt) j c2) (fun _ s₂ h₂ => wpAny_mono h₂ (fun f s₃ h₃ => ?_) fun _ _ e => e.elim) fun _ _ e => e.elim
    cases f with
    | next => obtain ⟨P, loc, tmp, tt, old, j, c⟩ := h₃; exact ⟨xs.length - (i + 1), by (first | lia | omega), i + 1, P, loc, tmp, tt, old, hlt, rfl, j, c⟩
    | cont => obtain ⟨P, loc, tmp, tt, old, j, c⟩ := h₃; exact ⟨xs.length - (i + 1), by (first | lia | omega), i + 1, P, loc, tmp, tt, old, hlt, rfl, j, c⟩
    | brk => exact h₃
    | ret v => exact h₃
  · have e1 := hv.size
    refine wpAny_pyNext_enum_end hh ho ⟨oi, hoi, hci, hdi⟩ hl (by simp [e1]) fun h' hs => ?_
    have c3 := c.lose (pre := [(e, _)]) (tk := s.toks) hs
    exact wpAny_mono (done P loc tmp tt _ j (c3.sub (List.sublist_cons_self _ _) fun p hp => List.mem_append_left _ hp)) (fun f s₃ h₃ => h₃) fun _ _ e => e.elim
/-- a loop, once its iterator stands -/
noncomputable def FORgo (w : World) (A : Around) (env : Env) (target : Expr) (body orelse : List Stmt) (QF : Flow → Shared → Prop) (E : Value → Shared → Prop) (it : Value) (s : Shared) : Prop :=
  codeAny (model prg w) A (.forLoop target it body orelse env) (fun r s' => match r with | .ok f => QF f s' | .error e => cameBackBy (model prg w) A env E e s') s
theorem r_For {target iter : Expr} {body orelse : List Stmt} (h : wpAny (model prg w) A (eval iter env) (fun x s₁ => wpAny (model prg w) A (pyIter x) (FORgo w A env target body orelse QF E) E s₁) E s)
    (hs : ∀ x, foldedSetIterable iter env x = pure x := by intro _; rfl) : wpAny (model prg w) A (exec (.For target iter body orelse pos) env) QF E s := wpAny_For h hs
theorem BodyQ.next {i : Nat} {J : Nat → Pers → List (Str × LV) → List (Addr × G) → List (Addr × List LV) → Prop} {led : List (Addr × G)} {et : List (Addr × List LV)} (c : Cfg w Z b₀ P L loc led et s) (h : Suf ((I, g (i + 1)) :: tmp) led) (ht : Suf tt et)
    (j : J (i + 1) P loc tmp tt) : BodyQ w Z b₀ L J I g i QF .next s := by
  obtain ⟨pre, rfl⟩ := h.split
  exact ⟨P, loc, tmp, tt, j, c.sub (List.sublist_append_right _ _) fun p hp => List.mem_append_left _ (ht.mem hp)⟩
theorem BodyE.next {e it l : Addr} {i : Nat} {old : Value} {J : Nat → Pers → List (Str × LV) → List (Addr × G) → List (Addr × List LV) → Prop} {led : List (Addr × G)} {et : List (Addr × List LV)} (c : Cfg w Z b₀ P L loc led et s)
    (h : Suf ((e, .obj (enO it ((i + 1 : Nat) : Int) old)) :: (it, .liter l (i + 1)) :: tmp) led) (ht : Suf tt et) (j : J (i + 1) P loc tmp tt) : BodyE w Z b₀ L J e it l i QF .next s := by
  obtain ⟨pre, rfl⟩ := h.split
  exact ⟨P, loc, tmp, tt, old, j, c.sub (List.sublist_append_right _ _) fun p hp => List.mem_append_left _ (ht.mem hp)⟩
/-- a loop in which the state is known at each turn -/
noncomputable def BodyV (w : World) (Z : Heap) (b₀ : Shared) (L : Addr) (P : Pers) (f : LV → List (Str × LV)) (tmp : List (Addr × G)) (tt : List (Addr × List LV)) (QF : Flow → Shared → Prop) (fl : Flow) (s : Shared) : Prop :=
  match fl with
  | .next | .cont => ∃ lv, Cfg w Z b₀ P L (f lv) tmp tt s
  | .brk => QF .next s
  | .ret v => QF (.ret v) s
theorem BodyV.next {f : LV → List (Str × LV)} {lv : LV} {led : List (Addr × G)} {et : List (Addr × List LV)} (c : Cfg w Z b₀ P L (f lv) led et s) (h : Suf tmp led) (ht : Suf tt et) : BodyV w Z b₀ L P f tmp tt QF .next s := by
  obtain ⟨pre, rfl⟩ := h.split
  exact ⟨lv, c.sub (List.sublist_append_right _ _) fun p hp => List.mem_append_left _ (ht.mem hp)⟩
theorem r_forV {target : Expr} {body orelse : List Stmt} {l0 : LV} (f : LV → List (Str × LV)) (Pf : Nat → Pers) (Tf : Nat → List (Addr × G)) (N : Nx w Z b₀ I xs g need) (hh : A.handled = none)
    (hneed : ∀ i, need (Pf i) ((I, g i) :: Tf i) tt)
    (turn : ∀ i s v l lv, xs[i]? = some l → l.is v → Cfg w Z b₀ (Pf i) L (f lv) ((I, g (i + 1)) :: Tf i) tt s →
      wpAny (model prg w) A (assign target env v) (fun _ s₂ => wpAny (model prg w) A (execs body env) (BodyV w Z b₀ L (Pf (i + 1)) f ((I, g (i + 1)) :: Tf (i + 1)) tt QF) F0 s₂) F0 s)
    (done : ∀ lv s, Cfg w Z b₀ (Pf xs.length) L (f lv) (Tf xs.length) tt s → wpAny (model prg w) A (execs orelse env) QF F0 s)
    (c : Cfg w Z b₀ (Pf 0) L (f l0) ((I, g 0) :: Tf 0) tt s) (ht : ∀ v, letOwnedTupleGo target (.ref I) v = pure () := by intro _; rfl) :
    FORgo w A env target body orelse QF E (.ref I) s := by
  refine r_for N hh (fun i P' loc' tmp' tt' => P' = Pf i ∧ tmp' = Tf i ∧ tt' = tt ∧ ∃ lv, loc' = f lv) (fun i P' loc' tmp' tt' j => by obtain ⟨rfl, rfl, rfl, _⟩ := j; exact hneed i)
    (fun i P' loc' tmp' tt' s v l hx hv j c => ?_) (fun P' loc' tmp' tt' s j c => ?_) ⟨rfl, rfl, rfl, l0, rfl⟩ c ht
  · obtain ⟨rfl, rfl, rfl, lv, rfl⟩ := j
    refine wpAny_mono (turn i s v l lv hx hv c) (fun _ s₂ h₂ => wpAny_mono h₂ (fun fl s₃ h₃ => ?_) fun _ _ e => e) fun _ _ e => e
    cases fl with
    | next => obtain ⟨lv, c⟩ := h₃; exact ⟨_, _, _, _, ⟨rfl, rfl, rfl, lv, rfl⟩, c⟩
    | cont => obtain ⟨lv, c⟩ := h₃; exact ⟨_, _, _, _, ⟨rfl, rfl, rfl, lv, rfl⟩, c⟩
    | brk => exact h₃
    | ret v => exact h₃
  · obtain ⟨rfl, rfl, rfl, lv, rfl⟩ := j
    exact done lv s c
theorem r_forC {target : Expr} {body orelse : List Stmt} {l0 : LV} (f : LV → List (Str × LV)) (N : Nx w Z b₀ I xs g need) (hh : A.handled = none)
    (hneed : ∀ i, need P ((I, g i) :: tmp) tt)
    (turn : ∀ i s v l lv, xs[i]? = some l → l.is v → Cfg w Z b₀ P L (f lv) ((I, g (i + 1)) :: tmp) tt s →
      wpAny (model prg w) A (assign target env v) (fun _ s₂ => wpAny (model prg w) A (execs body env) (BodyV w Z b₀ L P f ((I, g (i + 1)) :: tmp) tt QF) F0 s₂) F0 s)
    (done : ∀ lv s, Cfg w Z b₀ P L (f lv) tmp tt s → wpAny (model prg w) A (execs orelse env) QF F0 s)
    (c : Cfg w Z b₀ P L (f l0) ((I, g 0) :: tmp) tt s) (ht : ∀ v, letOwnedTupleGo target (.ref I) v = pure () := by intro _; rfl) :
    FORgo w A env target body orelse QF E (.ref I) s :=
  r_forV f (fun _ => P) (fun _ => tmp) N hh hneed turn done c ht
theorem r_LCint {α : Type} {elt iter : Expr} {scope : Scope} {cl : List (Str × Addr)} {use : Option (Value → Sem Unit)} (ns : List α) (inn : α → LV) (f : α → Int) (N : Nx w Z b₀ I (ns.map inn) g need) (hh : A.handled = none)
    (hcell : ∀ y ∈ scope.names, y.2 ≠ .cell) (hkind : scope.kind = .function) (hx : scope.names.lookup x = some .local)
    (hneed : ∀ D fo i acc, need P ((L, .obj fo) :: (D, .list acc) :: (I, g i) :: tmp) tt) (hsz : ns.length ≤ 1000000)
    (turn : ∀ C D fo i acc s k, ns[i]? = some k → Cfg w Z b₀ P C [(x, inn k)] ((L, .obj fo) :: (D, .list acc) :: (I, g (i + 1)) :: tmp) tt s →
      wpAny (model prg w) A (eval elt (compEnvC scope cl C env)) (EltQ w Z b₀ P C x ((L, .obj fo) :: (D, .list acc) :: (I, g (i + 1)) :: tmp) tt (.int (f k))) F0 s)
    (fin : ∀ C D fo s lv, Back w Z b₀ L loc fo → Cfg w Z b₀ P C [(x, lv)] ((L, .obj fo) :: (D, .list ((ns.map f).map .int)) :: tmp) tt s → compPost (model prg w) A E use Q (.ref D) C (.ok .next) s)
    (c : Cfg w Z b₀ P L loc ((I, g 0) :: tmp) tt s) (ht : ∀ v, letOwnedTupleGo (.Name x px) (.ref I) v = pure () := by intro _; rfl) :
    LCgo w A env scope cl (.ListComp elt [⟨.Name x px, iter, [], 0⟩] scope pos) (newList []) use Q E (.ref I) s :=
  r_LCmap ns inn (fun k => .int (f k)) N hh hcell hkind hx hneed hsz turn (fun C D fo s lv hb c => fin C D fo s lv hb (by rw [List.map_map]; exact c)) c ht
theorem r_max0 {l : Addr} {ns : List Int} (c : Cfg w Z b₀ P L loc tmp tt s) (hh : A.handled = none) (hl : (l, .list (ns.map .int ++ [.int 0])) ∈ tmp ++ P.objs) (h : ∀ k t s', Cfg w Z b₀ P L loc tmp tt s' → Q (.int k t) s') : wpAny (model prg w) A (call (.builtin "max") [.ref l]) Q E s :=
  r_max (ns := ns ++ [0]) c hh (by rw [List.map_append]; exact hl) (by simp) h
noncomputable def rgO (a : Int) (n i : Nat) : G := .riter (a + i) (n - i)
theorem nx_rg {a : Int} {n : Nat} : Nx w Z b₀ I (rngL a n) (rgO a n) NeedN := nx_range
theorem r_range1N {k : Nat} {t : Tok} (c : Cfg w Z b₀ P L loc tmp tt s) (h : ∀ d s', Cfg w Z b₀ P L loc ((d, .rng ((0 : Nat) : Int) (k : Int)) :: tmp) tt s' → Q (.ref d) s') : wpAny (model prg w) A (call (.type "range") [.int (k : Int) t]) Q E s := r_range1 c h
theorem r_iterG {r : Addr} {j k : Nat} (c : Cfg w Z b₀ P L loc tmp tt s) (hm : (r, .rng (j : Int) (k : Int)) ∈ tmp ++ P.objs) (hjk : j ≤ k) (hk : k ≤ 1000000)
    (h : ∀ I s', Cfg w Z b₀ P L loc ((I, rgO (j : Int) (k - j) 0) :: tmp) tt s' → Q (.ref I) s') : wpAny (model prg w) A (pyIter (.ref r)) Q E s :=
  r_iterR c hm hjk hk fun I s' c' => h I s' (by
    have e : rgO (j : Int) (k - j) 0 = .riter (j : Int) (k - j) := by
      unfold rgO
      have e1 : (j : Int) + ((0 : Nat) : Int) = j := by (first | lia | omega)
      rw [e1, Nat.sub_zero]
      try (first | lia | omega)
    rw [e]; exact c')
theorem r_iterG0 {r : Addr} {k : Nat} (c : Cfg w Z b₀ P L loc tmp tt s) (hm : (r, .rng ((0 : Nat) : Int) (k : Int)) ∈ tmp ++ P.objs) (hk : k ≤ 1000000)
    (h : ∀ I s', Cfg w Z b₀ P L loc ((I, rgO 0 k 0) :: tmp) tt s' → Q (.ref I) s') : wpAny (model prg w) A (pyIter (.ref r)) Q E s := r_iterG (j := 0) c hm (Nat.zero_le _) hk h
theorem rngL_at {a : Int} {n i : Nat} {l : LV} (h : (rngL a n)[i]? = some l) : i < n ∧ l = .int (a + i) := by
  have hi : i < n := by have := List.getElem?_eq_some_iff.mp h; simpa [rngL] using this.1
  refine ⟨hi, ?_⟩
  simp [rngL, hi] at h; exact h.symm
theorem rngL_len {a : Int} {n : Nat} : (rngL a n).length = n := by simp [rngL]
theorem r_add1 {v : Nat} {t u : Tok} (c : Cfg w Z b₀ P L loc tmp tt s) (h : ∀ t s', Cfg w Z b₀ P L loc tmp tt s' → Q (.int ((v + 1 : Nat) : Int) t) s') : wpAny (model prg w) A (binaryOp .Add (.int 1 t) (.int (v : Int) u)) Q E s :=
  add_int (by rw [show (1 : Int) + (v : Int) = ((v + 1 : Nat) : Int) by (first | lia | omega)]; exact h _ _ c.tok)
theorem n_cellR {k b : Addr} (hx : env.kindOf x = some .cell) (c : Cfg w Z b₀ P L loc tmp tt s) (hc : env.cells.lookup x = some b) (hm : (b, .cell (.ref k)) ∈ tmp) (h : Q (.ref k) s) (hk : env.scope.kind = .function := by rfl) (hd : (x == ("__debug__" : Str)) = false := by decide) :
    wpAny (model prg w) A (eval (.Name x pos) env) Q E s := r_cellR c hc hm h hk hx hd
theorem n_cellI {k : Int} {b : Addr} (hx : env.kindOf x = some .cell) (c : Cfg w Z b₀ P L loc tmp tt s) (hc : env.cells.lookup x = some b) (hm : (b, .cell (.int k)) ∈ tmp) (h : ∀ t, Q (.int k t) s) (hk : env.scope.kind = .function := by rfl) (hd : (x == ("__debug__" : Str)) = false := by decide) :
    wpAny (model prg w) A (eval (.Name x pos) env) Q E s := r_cellI c hc hm h hk hx hd
/-- what a turn leaves to what follows, by a name -/
theorem turn_cut {M : Model} {Bq : Flow → Shared → Prop} {m : Sem Unit} {b : Sem Flow} {E1 E2 : Value → Shared → Prop} (h : ∀ K : Flow → Shared → Prop, (∀ f s, Bq f s → K f s) → wpAny M A m (fun _ s₂ => wpAny M A b K E1 s₂) E2 s) : wpAny M A m (fun _ s₂ => wpAny M A b Bq E1 s₂) E2 s := h Bq fun _ _ x => x
/-- a loop that turns one object of the bench -/
theorem r_forD {target : Expr} {body orelse : List Stmt} {l0 : LV} {D : Addr} (f : LV → List (Str × LV)) (Gf : Nat → G) (N : Nx w Z b₀ I xs g need) (hh : A.handled = none)
    (hneed : ∀ i, need P ((I, g i) :: (D, Gf i) :: tmp) tt)
    (turn : ∀ i s v l lv, xs[i]? = some l → l.is v → Cfg w Z b₀ P L (f lv) ((I, g (i + 1)) :: (D, Gf i) :: tmp) tt s →
      wpAny (model prg w) A (assign target env v) (fun _ s₂ => wpAny (model prg w) A (execs body env) (BodyV w Z b₀ L P f ((I, g (i + 1)) :: (D, Gf (i + 1)) :: tmp) tt QF) F0 s₂) F0 s)
    (done : ∀ lv s, Cfg w Z b₀ P L (f lv) ((D, Gf xs.length) :: tmp) tt s → wpAny (model prg w) A (execs orelse env) QF F0 s)
    (c : Cfg w Z b₀ P L (f l0) ((I, g 0) :: (D, Gf 0) :: tmp) tt s) (ht : ∀ v, letOwnedTupleGo target (.ref I) v = pure () := by intro _; rfl) :
    FORgo w A env target body orelse QF E (.ref I) s :=
  r_forV f (fun _ => P) (fun i => (D, Gf i) :: tmp) N hh hneed turn done c ht
theorem r_setK {D : Addr} {ns : List Int} {k : Int} {t : Tok} (c : Cfg w Z b₀ P L loc tmp tt s) (U : Put tmp D (.dictI (keysD ns)) (.dictI (keysD (addK ns k))) tmp') (hz : ns.length ≤ 1000000) (h : ∀ s', Cfg w Z b₀ P L loc tmp' tt s' → QU () s') :
    wpAny (model prg w) A (setItem (.ref D) (.int k t) (.bool true)) QU E s :=
  r_setDI (l := .bool true) (P' := P) (tmp' := tmp') c (by rw [putK_true]; exact Put.left U _) (fun p hp => hp) rfl (by simp only [keysD, List.length_map]; exact hz) h
theorem keysD_keys (ns : List Int) : (keysD ns).map (·.1) = ns := by simp [keysD, List.map_map, Function.comp_def]
theorem keysD_len (ns : List Int) : (keysD ns).length = ns.length := by simp [keysD]
theorem r_sortedK {D : Addr} {ns : List Int} (c : Cfg w Z b₀ P L loc ((D, .dictI (keysD ns)) :: tmp) tt s) (B : Base w Z) (hh : A.handled = none) (h64 : ns.length < 64)
    (h : ∀ d s', Cfg w Z b₀ P L loc ((d, .list ((sortI ns).map .int)) :: (D, .dictI (keysD ns)) :: tmp) tt s' → Q (.ref d) s') : wpAny (model prg w) A (call (.builtin "sorted") [.ref D]) Q E s :=
  r_sortedDict (pre := []) c B hh (by rw [keysD_len]; exact h64) (by rw [keysD_keys]; exact h)
theorem post_storeS {fo : Obj} {L₂ D : Addr} {loc₂ : List (Str × LV)} {f : Flow} {z : Str} {pz : Pos} {l : LV} {QS : Shared → Prop} (B : Back w Z b₀ L loc fo) (c : Cfg w Z b₀ P L₂ loc₂ ((L, .obj fo) :: tmp) tt s) (U : Put loc z l (.ref D) loc')
    (h : ∀ s', Cfg w Z b₀ P L loc' tmp tt s' → QS s')
    (he : env.locals = L := by rfl) (hx : env.kindOf z = some .local := by rfl) (hp : (env.scope.kind == .class || (env.scope.kind == .module && env.locals != env.globals)) = false := by rfl) :
    compPost (model prg w) A E (some (assign (.Name z pz) env)) (fun _ s' => QS s') (.ref D) L₂ (.ok f) s :=
  post_store (QF := fun _ s' => QS s') B c U h he hx hp
end
end
section
theorem putT {α β : Type} {zz1 : α × β} {zz2 : α} {zz3 zz4 : β} {zz5 zz6 : List (α × β)} (zz7 : Put zz5 zz2 zz3 zz4 zz6) : Put (zz1 :: zz5) zz2 zz3 zz4 (zz1 :: zz6) := .tail zz7
theorem all2T {α β : Type} {zR : α → β → Prop} {zz1 : α} {zz2 : β} {zz3 : List α} {zz4 : List β} (zz5 : zR zz1 zz2) (zz6 : All2 zR zz3 zz4) : All2 zR (zz1 :: zz3) (zz2 :: zz4) := .cons zz5 zz6
section
variable {w : World} {Z : Heap} {b₀ : Shared} {P P' : Pers} {L a C I S : Addr} {loc loc' : List (Str × LV)} {tmp tmp' : List (Addr × G)} {tt tt' : List (Addr × List LV)} {s s' : Shared} {h' : Heap} {tk : Nat} {g : Nat → G}
  {A : Around} {E : Value → Shared → Prop} {env : Env} {x y : Str} {pos px py : Pos} {Q : Value → Shared → Prop} {QO : Option Value → Shared → Prop} {QU : Unit → Shared → Prop} {QF : Flow → Shared → Prop} {n : Nat} {fs : List (Str × Value)}
/-- a list that a comprehension walks within a turn -/
noncomputable def In2Q (w : World) (Z : Heap) (b₀ : Shared) (P : Pers) (C : Addr) (x y : Str) (k : Nat) (base : List (Addr × G)) (tt : List (Addr × List LV)) (us : List Nat) (v : Value) (s : Shared) : Prop :=
  ∃ U ly, v = .ref U ∧ Cfg w Z b₀ P C [(x, .int (k : Int)), (y, ly)] ((U, .list (nlv us)) :: base) tt s
noncomputable def Elt2Q (w : World) (Z : Heap) (b₀ : Shared) (P : Pers) (C : Addr) (x y : Str) (led : List (Addr × G)) (tt : List (Addr × List LV)) (l : LV) (v : Value) (s : Shared) : Prop :=
  l.is v ∧ ∃ lx ly, Cfg w Z b₀ P C [(x, lx), (y, ly)] led tt s
theorem r_LCtwo {elt i0 i1 : Expr} {scope : Scope} {cl : List (Str × Addr)} {use : Option (Value → Sem Unit)} {l : Addr} (ns : List Nat) (us : Nat → List Nat) (f : Nat → Nat) (hh : A.handled = none)
    (hcell : ∀ z ∈ scope.names, z.2 ≠ .cell) (hkind : scope.kind = .function) (hx : scope.names.lookup x = some .local) (hy : scope.names.lookup y = some .local) (hxy : x ≠ y) (hl : (l, .list (nlv ns)) ∈ tmp ++ P.objs)
    (hsz : ∀ i j k : Nat, ns[i]? = some k → (((ns.take i).flatMap fun k => (us k).map f) ++ ((us k).take j).map f).length ≤ 1000000)
    (inner : ∀ C D fo (i : Nat) acc s (k : Nat) ly, ns[i]? = some k → Cfg w Z b₀ P C [(x, .int (k : Int)), (y, ly)] ((L, .obj fo) :: (D, .list acc) :: (I, .liter l (i + 1)) :: tmp) tt s →
      wpAny (model prg w) A (eval i1 (compEnvC scope cl C env)) (In2Q w Z b₀ P C x y k ((L, .obj fo) :: (D, .list acc) :: (I, .liter l (i + 1)) :: tmp) tt (us k)) F0 s)
    (turn : ∀ C D fo (i : Nat) acc s (k u : Nat) lx I2 U j, ns[i]? = some k → u ∈ us k → Cfg w Z b₀ P C [(x, lx), (y, .int (u : Int))] ((I2, .liter U j) :: (U, .list (nlv (us k))) :: (L, .obj fo) :: (D, .list acc) :: (I, .liter l (i + 1)) :: tmp) tt s →
      wpAny (model prg w) A (eval elt (compEnvC scope cl C env)) (Elt2Q w Z b₀ P C x y ((I2, .liter U j) :: (U, .list (nlv (us k))) :: (L, .obj fo) :: (D, .list acc) :: (I, .liter l (i + 1)) :: tmp) tt (.int (f u : Nat))) F0 s)
    (fin : ∀ C D fo s lx ly, Back w Z b₀ L loc fo → Cfg w Z b₀ P C [(x, lx), (y, ly)] ((L, .obj fo) :: (D, .list (nlv (ns.flatMap fun k => (us k).map f))) :: tmp) tt s → compPost (model prg w) A E use Q (.ref D) C (.ok .next) s)
    (c : Cfg w Z b₀ P L loc ((I, .liter l 0) :: tmp) tt s) (hs : ∀ env' x, foldedSetIterable i1 env' x = pure x := by intro _ _; rfl) :
    LCgo w A env scope cl (.ListComp elt [⟨.Name x px, i0, [], 0⟩, ⟨.Name y py, i1, [], 0⟩] scope pos) (newList []) use Q E (.ref I) s := by
  refine r_newL c (vs := []) .nil (by simp) fun D s₁ c₁ => ?_
  refine r_newComp c₁ hcell hkind [x, y] (by simpa using hxy) fun C fo s₂ hb c₂ => ?_
  have hxk : (compEnvC scope cl C env).kindOf x = some .local := lookup_relabel_local hx
  have hyk : (compEnvC scope cl C env).kindOf y = some .local := lookup_relabel_local hy
  have hpk : ((compEnvC scope cl C env).scope.kind == .class || ((compEnvC scope cl C env).scope.kind == .module && (compEnvC scope cl C env).locals != (compEnvC scope cl C env).globals)) = false := by simp [compEnvC, relabel, hkind]
  have N : Nx w Z b₀ I (nlv ns) (G.liter l) (NeedL l (nlv ns)) := nx_list
  have hl' : ∀ pre : List (Addr × G), (l, G.list (nlv ns)) ∈ (pre ++ tmp) ++ P.objs := fun pre => by
    rw [List.append_assoc]; exact List.mem_append_right _ hl
  have go : ∀ s₂, Cfg w Z b₀ P C [(x, .unset), (y, .unset)] ((L, .obj fo) :: (D, .list []) :: (I, .liter l 0) :: tmp) tt s₂ →
      codeAny (model prg w) A (.compLoop (.ListComp elt [⟨.Name x px, i0, [], 0⟩, ⟨.Name y py, i1, [], 0⟩] scope pos) 0 (.ref I) (.ref D) (compEnvC scope cl C env)) (compPost (model prg w) A E use Q (.ref D) C) s₂ := fun s₂ c₂ => by
    refine compLoop_two0 (fun m s => ∃ i lx ly, i ≤ ns.length ∧ m = ns.length - i ∧ Cfg w Z b₀ P C [(x, lx), (y, ly)] ((L, .obj fo) :: (D, .list (nlv ((ns.take i).flatMap fun k => (us k).map f))) :: (I, .liter l i) :: tmp) tt s) (fun m s hI => ?_) ns.length ⟨0, .unset, .unset, Nat.zero_le _, rfl, c₂⟩ (by intro _; rfl) (hs _)
    obtain ⟨i, lx, ly, hi, rfl, c⟩ := hI
    rcases Nat.lt_or_eq_of_le hi with hlt | rfl
    · have hk : ns[i]? = some ns[i] := List.getElem?_eq_getElem hlt
      generalize ns[i] = k at hk
      refine N.item hh c (hl' [(L, .obj fo), (D, _), (I, _)]) (.tail (.tail .head)) (i := i) (l := .int (k : Int)) (by simp [nlv, hk]) fun v s' hv c' => ?_
      refine wpAny_assign_Name (r_st (l' := .int (k : Int)) c' hv .head (fun s'' c'' => ?_) rfl hxk hpk)
      refine wpAny_mono (inner C D fo i _ s'' k ly hk c'') (fun v s₃ h₃ => ?_) fun _ _ e => e.elim
      obtain ⟨U, ly2, rfl, c₃⟩ := h₃
      refine r_iterL c₃ (.head _) fun I2 s₄ c₄ => ?_
      have N2 : Nx w Z b₀ I2 (nlv (us k)) (G.liter U) (NeedL U (nlv (us k))) := nx_list
      have inn : ∀ s₄, Cfg w Z b₀ P C [(x, .int (k : Int)), (y, ly2)] ((I2, .liter U 0) :: (U, .list (nlv (us k))) :: (L, .obj fo) :: (D, .list (nlv ((ns.take i).flatMap fun k => (us k).map f))) :: (I, .liter l (i + 1)) :: tmp) tt s₄ →
          codeAny (model prg w) A (.compLoop (.ListComp elt [⟨.Name x px, i0, [], 0⟩, ⟨.Name y py, i1, [], 0⟩] scope pos) 1 (.ref I2) (.ref D) (compEnvC scope cl C env)) (fun r s₆ => ∃ f', r = .ok f' ∧ ∃ m, m < ns.length - i ∧ ∃ i lx ly, i ≤ ns.length ∧ m = ns.length - i ∧ Cfg w Z b₀ P C [(x, lx), (y, ly)] ((L, .obj fo) :: (D, .list (nlv ((ns.take i).flatMap fun k => (us k).map f))) :: (I, .liter l i) :: tmp) tt s₆) s₄ := fun s₄ c₄ => by
        refine compLoop_two1 (fun m s => ∃ j lx ly, j ≤ (us k).length ∧ m = (us k).length - j ∧ Cfg w Z b₀ P C [(x, lx), (y, ly)] ((I2, .liter U j) :: (U, .list (nlv (us k))) :: (L, .obj fo) :: (D, .list (nlv (((ns.take i).flatMap fun k => (us k).map f) ++ ((us k).take j).map f))) :: (I, .liter l (i + 1)) :: tmp) tt s)
          (fun m s hI => ?_) (us k).length ⟨0, .int (k : Int), ly2, Nat.zero_le _, rfl, by simpa using c₄⟩ (by intro _; rfl)
        obtain ⟨j, lx, ly, hj, rfl, c⟩ := hI
        rcases Nat.lt_or_eq_of_le hj with hlt2 | rfl
        · have hu : (us k)[j]? = some (us k)[j] := List.getElem?_eq_getElem hlt2
          generalize (us k)[j] = u at hu
          refine N2.item hh c (.tail _ (.head _)) .head (i := j) (l := .int (u : Int)) (by simp [nlv, hu]) fun v s' hv c' => ?_
          refine wpAny_assign_Name (r_st (l' := .int (u : Int)) c' hv (.tail .head) (fun s'' c'' => ?_) rfl hyk hpk)
          refine wpAny_mono (turn C D fo i _ s'' k u lx I2 U (j + 1) hk (List.mem_of_getElem? hu) c'') (fun v s₃ h₃ => ?_) fun _ _ e => e.elim
          obtain ⟨hv, lx3, ly3, c₅⟩ := h₃
          refine r_append (l := .int (f u : Nat)) (P' := P) c₅ (Put.left (.tail (.tail (.tail .head))) P.objs) (fun p hp => hp) hv (by rw [nlv_len]; exact hsz i j k hk) fun s₅ c₆ => ⟨(us k).length - (j + 1), by (first | lia | omega), j + 1, lx3, ly3, hlt2, rfl, ?_⟩
          have e : nlv (((ns.take i).flatMap fun k => (us k).map f) ++ ((us k).take (j + 1)).map f) = nlv (((ns.take i).flatMap fun k => (us k).map f) ++ ((us k).take j).map f) ++ [.int (f u : Nat)] := by
            rw [List.take_add_one, hu]; simp [nlv]
          rw [e]; exact c₆
        · rw [← nlv_len (us k)] at c
          refine N2.done (pre := []) hh c (.tail _ (.head _)) fun s' c' => ?_
          rw [nlv_len, List.take_length] at c'
          refine ⟨_, rfl, ns.length - (i + 1), by (first | lia | omega), i + 1, lx, ly, hlt, rfl, ?_⟩
          have e : (ns.take (i + 1)).flatMap (fun k => (us k).map f) = ((ns.take i).flatMap fun k => (us k).map f) ++ (us k).map f := by
            rw [List.take_add_one, hk]; simp
          rw [e]
          exact c'.sub (List.sublist_cons_self _ _) fun p hp => List.mem_append_left _ hp
      exact compStart_two1 (inn _ c₄) (N2.self c₄ (i := 0) (.head _) (inn _ c₄))
    · rw [← nlv_len ns] at c
      refine N.done (pre := [(L, .obj fo), (D, _)]) hh c (hl' [(L, .obj fo), (D, _), (I, _)]) fun s' c' => ?_
      rw [nlv_len, List.take_length] at c'
      exact fin C D fo s' lx ly hb c'
  exact codeAny_compStart_list (go _ c₂) (N.self c₂ (i := 0) (by simp) (go _ c₂))
end
end
section
open Builtin Builtin.ObjectAttr
section
variable {w : World} {Z : Heap} {b₀ : Shared} {P P' : Pers} {L a x C dx : Addr} {loc loc' : List (Str × LV)} {tmp tmp' : List (Addr × G)} {tt tt' : List (Addr × List LV)} {s s' : Shared}
  {A : Around} {E : Value → Shared → Prop} {K : Frag} {ox : Obj} {es : List DictEntry} {n : Nat} {name : Str} {v : Value} {QU : Unit → Shared → Prop}
theorem setAttr_raw (X : K.In s.heap) (I : InstAt s.heap x ox C (some (dictOf es n))) (hx : s.heap.get? x = some ox) (hcls : ox.cls = .ref C) (hd : ox.dict = some dx) (D : s.heap.get? dx = some (dictOf es n))
    (hs : findIn K (.ref C) "__setattr__" = some (some (.builtin "object.__setattr__"))) (hp : plainOver K C = true) (ht : takerIn K C name = some none) (hh : hasDictIn K C = true) (hl : (getL name es).isSome = true)
    (hz : (putL name (PyData.keyHash w.params name) (.str name (s.toks + 1)) v es).length ≤ 1000)
    (h : ∀ h', h'.get? dx = some (dictOf (putL name (PyData.keyHash w.params name) (.str name (s.toks + 1)) v es) (putN name es n)) → Heap.SameBut dx s.heap h' → QU () { s with heap := h', toks := s.toks + 2 }) :
    wpAny (model prg w) A (setAttr (.ref x) name v) QU E s := by
  refine set_plain X I hs (osa_open (s := { s with toks := s.toks + 1 }) X I hp ht fun b => ?_)
  obtain ⟨cd, hc, hcd⟩ := any_some hh
  obtain ⟨oc, odi, oda, osl⟩ := ox
  dsimp only at hcls hd
  subst hcls hd
  have D' : (s.heap.update dx (Obj.putName name (PyData.keyHash w.params name) (.str name (s.toks + 1)) v)).get? dx = some (dictOf (putL name (PyData.keyHash w.params name) (.str name (s.toks + 1)) v es) (putN name es n)) := by
    rw [← putName_dict]
    exact Heap.get?_update_self _ D (by rw [putName_dict]; rfl)
  refine wpAny_bind (wpAny_pure (wpAny_bind (wpAny_bind (wpAny_loadPart hx (wpAny_bind (Looks.here (s := { s with toks := s.toks + 1 }) (looks_clsIn X hc) ?_))))))
  rw [hcd]
  refine wpAny_pure (a := some dx) (wpAny_bind (wpAny_pure (wpAny_bind ?_)))
  unfold nsSet
  refine wpAny_bind (wpAny_bind (wpAny_askSetting (wpAny_pure (wpAny_bind (wpAny_mkText (wpAny_bind (wpAny_loadPart D ?_)))))))
  dsimp only
  have hno : (!es.toArray.any (·.key.isStr name) && es.toArray.any (·.refKey)) = false := by
    rw [← Array.any_toList, ← Array.any_toList]
    unfold getL at hl
    cases hf : es.find? (·.key.isStr name) with
    | some e => rw [List.any_eq_true.mpr ⟨e, List.mem_of_find?_eq_some hf, List.find?_some hf⟩]; rfl
    | none =>
      rw [hf] at hl
      by_cases hr : es.any (·.refKey) = true
      · simp [hr] at hl
      · rw [Bool.not_eq_true] at hr; rw [hr, Bool.and_false]
  rw [aRefKeyMayBeTheName_at, hno]
  refine wpAny_updatePart D ?_
  refine wpAny_bind (wpAny_lookBehind D' (by exact pastItsLine_dict (by rw [List.size_toArray, sizeLine_eq]; (first | lia | omega))) ?_)
  exact wpAny_pure (h _ D' (Heap.SameBut.update ..))
/-- the fields of an object in the making -/
noncomputable def FldsE (fs : List (Str × Value)) (es : List DictEntry) : Prop := All2 (fun (p : Str × Value) (e : DictEntry) => (∃ t, e.key = .str p.1 t) ∧ e.val = p.2) fs es
theorem isStr_key {e : DictEntry} {y z : Str} {t : Tok} (h : e.key = .str y t) : e.key.isStr z = (y == z) := by rw [h]; rfl
theorem refKey_str {e : DictEntry} {y : Str} {t : Tok} (h : e.key = .str y t) : e.refKey = false := by unfold DictEntry.refKey; rw [h]
theorem FldsE.put {fs : List (Str × Value)} {hsh : Int} {t : Tok} (h : FldsE fs es) (hn : name ∉ fs.map (·.1)) : FldsE (fs ++ [(name, v)]) (putL name hsh (.str name t) v es) := by
  induction h with
  | nil => exact .cons ⟨⟨t, rfl⟩, rfl⟩ .nil
  | @cons p e fs es h0 h1 ih =>
    rw [List.map_cons, List.mem_cons, not_or] at hn
    obtain ⟨⟨u, hu⟩, hv⟩ := h0
    unfold putL
    rw [isStr_key hu, if_neg (by simpa using fun q => hn.1 q.symm)]
    exact .cons ⟨⟨u, hu⟩, hv⟩ (ih hn.2)
theorem FldsE.noref {fs : List (Str × Value)} (h : FldsE fs es) : es.any (·.refKey) = false := by
  induction h with
  | nil => rfl
  | cons h0 _ ih =>
    obtain ⟨⟨u, hu⟩, _⟩ := h0
    rw [List.any_cons, refKey_str hu, ih]; rfl
theorem FldsE.gone {fs : List (Str × Value)} (h : FldsE fs es) {f : Str} (hf : f ∉ fs.map (·.1)) : getL f es = some none := by
  have hr := h.noref
  have : es.find? (·.key.isStr f) = none := by
    clear hr
    induction h with
    | nil => rfl
    | @cons p e fs es h0 h1 ih =>
      rw [List.map_cons, List.mem_cons, not_or] at hf
      obtain ⟨⟨u, hu⟩, _⟩ := h0
      rw [List.find?_cons, isStr_key hu, show (p.1 == f) = false by simpa using fun q => hf.1 q.symm]
      exact ih hf.2
  unfold getL
  rw [this, hr]; rfl
theorem FldsE.stands {fs : List (Str × Value)} (h : FldsE fs es) (hn : (fs.map (·.1)).Nodup) {p : Str × Value} (hp : p ∈ fs) : getL p.1 es = some (some p.2) := by
  have : ∃ e, es.find? (·.key.isStr p.1) = some e ∧ e.val = p.2 := by
    induction h with
    | nil => cases hp
    | @cons q e fs es h0 h1 ih =>
      rw [List.map_cons, List.nodup_cons] at hn
      obtain ⟨⟨u, hu⟩, hv⟩ := h0
      rw [List.find?_cons, isStr_key hu]
      rcases List.mem_cons.mp hp with rfl | hp
      · exact ⟨e, by simp, hv⟩
      · rw [show (q.1 == p.1) = false by simpa using fun e => hn.1 (List.mem_map.mpr ⟨p, hp, e.symm⟩)]
        exact ih hn.2 hp
  obtain ⟨e, h1, h2⟩ := this
  unfold getL
  rw [h1]
  simp [h2]
theorem FldsE.len {fs : List (Str × Value)} (h : FldsE fs es) : fs.length = es.length := h.length
theorem r_setA {fs : List (Str × Value)} {f : Obj → List (Addr × G)} (c : Cfg w Z b₀ P L loc tmp tt s) (B : Base w Z) (hx : (x, .obj (instObj C dx)) ∈ tmp) (U : ∀ o, Put tmp dx (.obj (dictOf es n)) (.obj o) (f o)) (he : FldsE fs es) (hn : name ∉ fs.map (·.1)) (h9 : fs.length ≤ 100)
    (hs : findIn (hd.heap_39 w.params) (.ref C) "__setattr__" = some (some (.builtin "object.__setattr__"))) (hp : plainOver (hd.heap_39 w.params) C = true) (ht : takerIn (hd.heap_39 w.params) C name = some none) (hh : hasDictIn (hd.heap_39 w.params) C = true)
    (h : ∀ es' n' s', FldsE (fs ++ [(name, v)]) es' → Cfg w Z b₀ P L loc (f (dictOf es' n')) tt s' → QU () s') : wpAny (model prg w) A (setAttr (.ref x) name v) QU E s := by
  obtain ⟨o, ho, rfl, _⟩ := c.at (List.mem_append_left _ hx)
  obtain ⟨od, hod, rfl, _⟩ := c.at (List.mem_append_left _ (U default).mem)
  have hl := he.len
  refine setAttr_raw (c.base B).K ⟨ho, rfl, rfl, hod⟩ ho rfl rfl hod hs hp ht hh (by rw [he.gone hn]; rfl) ?_ fun h' h1 h2 => ?_
  · have := (he.put (hsh := PyData.keyHash w.params name) (t := s.toks + 1) (v := v) hn).len
    rw [← this, List.length_append]; simp; (first | lia | omega)
  · exact h _ _ _ (he.put hn) (c.chgT (U _) h2.extBut ⟨_, h1, rfl, fun i m q => by cases q⟩)
theorem r_make {m : Nat} {Q : Value → Shared → Prop} {f : Addr} {args : List Value} {binds : Addr → List (Str × Value)} {name qual : Str} {params : Arguments} {body : List Stmt} {scope : Scope} {dV kV doc pm cdv ct oc : Value} {an od : Option Addr} {osl : Array (Option Value)}
    (c : Cfg w Z b₀ P L loc tmp tt s) (B : Base w Z) (r : Room (m + 2) A) (hm : makesIn (hd.heap_39 w.params) C = true) (hi : findIn (hd.heap_39 w.params) (.ref C) "__init__" = some (some (.ref f))) (hf : typeIn (hd.heap_39 w.params) (.ref f) = some (.type "function"))
    (ho : (hd.heap_39 w.params).lookup f = some ⟨oc, od, .func (fnX name qual params body scope [] dV kV doc pm an cdv ct), osl⟩) (hcd : codeIn (hd.heap_39 w.params) cdv qual = true)
    (hbind : ∀ x s', BindsTo s' (fnX name qual params body scope [] dV kV doc pm an cdv ct) ⟨.ref x :: args, []⟩ (binds x)) (hloc : ∀ x, ∀ y ∈ binds x, scope.names.lookup y.1 = some .local) (hcell : ∀ x ∈ scope.names, x.2 ≠ .cell)
    (loc' : Addr → List (Str × LV)) (hl : ∀ x, ∀ p ∈ loc' x, p.2.ok ((binds x).reverse.lookup p.1)) (hd : ∀ x, ((loc' x).map (·.1)).Nodup)
    (h : ∀ x dx L' fo A' s', Back w Z b₀ L loc fo → Room m A' → Cfg w Z b₀ P L' (loc' x) ((L, .obj fo) :: (x, .obj (instObj C dx)) :: (dx, .obj (dictOf [] 0)) :: tmp) tt s' →
      wpAny (model prg w) A' (execs body (envX qual scope L' f cdv [])) (fun fl s'' => retOf fl = .none ∧ Q (.ref x) s'') (fun _ _ => False) s')
    (hco : scope.isCoroutine = false := by rfl) (hgen : scope.isGenerator = false := by rfl) (hk : scope.kind = .function := by rfl) :
    wpAny (model prg w) A (call (.ref C) args) Q E s := by
  have K := (c.base B).K
  have c1 : Cfg w Z b₀ P L loc ((s.heap.objs.size, .obj (dictOf [] 0)) :: tmp) tt { s with heap := s.heap.push emptyDict } := c.new (tk := s.toks) (fun b o e => Heap.get?_push_of_some _ e) (new_size _) ⟨_, Heap.get?_push_size _ rfl, rfl, fun i n q => by cases q⟩
  have hsz : (s.heap.push emptyDict).objs.size = s.heap.objs.size + 1 := Heap.size_push ..
  have c2 : Cfg w Z b₀ P L loc ((s.heap.objs.size + 1, .obj (instObj C s.heap.objs.size)) :: (s.heap.objs.size, .obj (dictOf [] 0)) :: tmp) tt { s with heap := (s.heap.push emptyDict).push (instObj C s.heap.objs.size) } := by
    have := c1.new (tk := s.toks) (h' := (s.heap.push emptyDict).push (instObj C s.heap.objs.size)) (g := .obj (instObj C s.heap.objs.size)) (fun b o e => Heap.get?_push_of_some _ e) (new_size (s.heap.push emptyDict)) ⟨_, Heap.get?_push_size _ rfl, rfl, fun i n q => by cases q⟩
    rw [hsz] at this
    exact this
  have K2 := (c2.base B).K
  obtain ⟨fo, hfo, hfd, hb⟩ := c2.back
  obtain ⟨fo', hfo', hfd', hb'⟩ := c.back
  have hL : s.heap.get? L = some fo' := hfo'
  refine wpAny_call ?_
  obtain ⟨hh, g, d, tk, os⟩ := s
  refine make_core (makes_of K hm) (looks_findIn K hi) (fun self => bind_fn K self hf) (.inl rfl) ?_
  have r1 : Room (m + 1) (A.under (.builtin "type.__call__" ⟨.ref C :: args, []⟩)) := by
    have e1 : (Code.builtin "type.__call__" ⟨.ref C :: args, []⟩).weight = 1 := by kernel_rfl
    have e2 : (Code.builtin "type.__call__" ⟨.ref C :: args, []⟩).cUnits ≤ 40 := by
      have : (Code.builtin "type.__call__" ⟨.ref C :: args, []⟩).cUnits = 1 := by kernel_rfl
      (first | lia | omega)
    refine ⟨?_, ?_, r.h⟩
    · have := r.d; unfold Around.under; dsimp only; rw [e1]; (first | lia | omega)
    · have := r.u; unfold Around.under; dsimp only; (first | lia | omega)
  refine codeAny_call_def (fd := fnX name qual params body scope [] dV kV doc pm an cdv ct) (body := body) (binds := binds (hh.objs.size + 1)) r1.depth (K2 _ _ ho) rfl (c2.base B).lim (codeRec_of K2 hcd) rfl (hbind _ _) hcell (hloc _) (fun h₁ hns hk₁ => ?_) hco hgen hk
  · refine wpAny_mono (h (hh.objs.size + 1) hh.objs.size _ fo' _ _ hb' r1.deeper (c2.enter (fo := fo') (by exact Heap.get?_push_of_some _ (Heap.get?_push_of_some _ hL)) hfd' hk₁ (new_size _) hns (hl _) (hd _))) (fun fl s' hq => ?_) fun _ _ e => e.elim
    cases fl <;> exact hq
end
end
section
/-- a heap in which one place is void -/
noncomputable def wipe (h : Heap) (a : Addr) : Heap := h.update a fun _ => { cls := .type "object", data := .freed }
theorem wipe_none (h : Heap) (a : Addr) : (wipe h a).get? a = none := by
  cases q : (wipe h a).get? a with
  | none => rfl
  | some o =>
    obtain ⟨h1, h2⟩ := Heap.get?_some_iff.mp q
    obtain ⟨objs, l⟩ := h
    have h1 : (objs.modify a fun _ => ({ cls := .type "object", data := .freed } : Obj))[a]? = some o := h1
    rw [Array.getElem?_modify, if_pos rfl] at h1
    obtain ⟨o', _, rfl⟩ := Option.map_eq_some_iff.mp h1
    cases h2
theorem wipe_other (h : Heap) {a b : Addr} (hab : b ≠ a) : (wipe h a).get? b = h.get? b := (Heap.SameBut.update h a _).2 b hab
noncomputable def wipes (h : Heap) (l : List Addr) : Heap := l.foldl wipe h
theorem wipes_out : ∀ (l : List Addr) (h : Heap) {a : Addr}, a ∉ l → (wipes h l).get? a = h.get? a
  | [], _, _, _ => rfl
  | b :: l, h, a, hn => by
    rw [List.mem_cons, not_or] at hn
    show (wipes (wipe h b) l).get? a = _
    rw [wipes_out l _ hn.2, wipe_other h hn.1]
theorem wipes_in : ∀ (l : List Addr) (h : Heap) {a : Addr}, a ∈ l → (wipes h l).get? a = none
  | b :: l, h, a, hm => by
    show (wipes (wipe h b) l).get? a = none
    by_cases h2 : a ∈ l
    · exact wipes_in l _ h2
    · rw [wipes_out l _ h2]
      rcases List.mem_cons.mp hm with rfl | h3
      · exact wipe_none h a
      · exact absurd h3 h2
section
variable {w : World} {Z : Heap} {b₀ : Shared} {P : Pers} {L : Addr} {loc : List (Str × LV)} {tmp : List (Addr × G)} {tt : List (Addr × List LV)} {s : Shared}
/-- objects that turn no more join what stands -/
theorem Cfg.freeze {fz : List (Addr × Obj)} (c : Cfg w Z b₀ P L loc (tmp ++ fz.map fun p => (p.1, G.obj p.2)) tt s) :
    ∃ Z', (∀ b o, Z.get? b = some o → Z'.get? b = some o) ∧ (∀ p ∈ fz, Z'.get? p.1 = some p.2) ∧ Cfg w Z' b₀ P L loc tmp tt s := by
  have c1 : Cfg w Z b₀ P L loc tmp tt s := c.sub (List.sublist_append_left _ _) fun p hp => List.mem_append_left _ hp
  have hnone : ∀ a ∈ L :: (tmp ++ P.objs).map (·.1), Nw Z a := fun a ha => by
    rcases List.mem_cons.mp ha with rfl | ha
    · exact c1.newL
    · obtain ⟨p, hp, rfl⟩ := List.mem_map.mp ha
      exact (c1.led p hp).2
  refine ⟨wipes s.heap (L :: (tmp ++ P.objs).map (·.1)), fun b o e => ?_, fun p hp => ?_, ⟨fun b o e => ?_, c.os, c.gens, c.ns, c.nl, ⟨wipes_in _ _ (.head _), c1.newL.2⟩, fun p hp => ⟨(c1.led p hp).1, wipes_in _ _ (.tail _ (List.mem_map_of_mem hp)), (c1.led p hp).2.2⟩, c1.nd, c1.tup⟩⟩
  · rw [wipes_out _ _ fun hm => by rw [(hnone b hm).1] at e; cases e]
    exact c.keep b o e
  · have hm : (p.1, G.obj p.2) ∈ (tmp ++ fz.map fun p => (p.1, G.obj p.2)) ++ P.objs := List.mem_append_left _ (List.mem_append_right _ (List.mem_map.mpr ⟨p, hp, rfl⟩))
    obtain ⟨⟨o, ho, rfl, _⟩, _⟩ := c.led _ hm
    rw [wipes_out _ _ fun hm2 => ?_]
    · exact ho
    · have hn := c.nd
      rcases List.mem_cons.mp hm2 with e | hm2
      · exact (List.nodup_cons.mp hn).1 (e ▸ List.mem_map_of_mem hm)
      · have hn2 := (List.nodup_cons.mp hn).2
        have hp1 : (((tmp ++ fz.map fun p => (p.1, G.obj p.2)) ++ P.objs).map (·.1)).Perm ((fz.map (·.1)) ++ ((tmp ++ P.objs).map (·.1))) := by
          have : ((tmp ++ fz.map fun p => (p.1, G.obj p.2)) ++ P.objs).Perm ((fz.map fun p => (p.1, G.obj p.2)) ++ (tmp ++ P.objs)) := by
            rw [← List.append_assoc]
            exact (List.perm_append_comm).append_right _
          have h3 := this.map (·.1)
          have e3 : ((fz.map fun p => (p.1, G.obj p.2)) ++ (tmp ++ P.objs)).map (·.1) = (fz.map (·.1)) ++ ((tmp ++ P.objs).map (·.1)) := by
            rw [List.map_append, List.map_map]; rfl
          rw [e3] at h3
          exact h3
        have hn3 := hp1.nodup_iff.mp hn2
        exact (List.nodup_append.mp hn3).2.2 p.1 (List.mem_map_of_mem hp) p.1 hm2 rfl
  · by_cases hm : b ∈ L :: (tmp ++ P.objs).map (·.1)
    · rw [wipes_in _ _ hm] at e; cases e
    · rw [wipes_out _ _ hm] at e; exact e
/-- an object whose making is over -/
theorem Inst.of {x dx C : Addr} {es : List DictEntry} {n : Nat} {fs : List (Str × Value)} (h1 : Z.get? x = some (instObj C dx)) (h2 : Z.get? dx = some (dictOf es n)) (h : FldsE fs es) (hn : (fs.map (·.1)).Nodup) : Inst Z x C fs :=
  ⟨dx, es, n, #[], h1, h2, fun p hp => h.stands hn hp, fun f hf => h.gone fun hm => by
    obtain ⟨p, hp, rfl⟩ := List.mem_map.mp hm
    rw [List.lookup_eq_none_iff] at hf
    have := hf p hp
    simp at this⟩
end
end
section
section
variable {w : World} {Z : Heap} {b₀ : Shared} {P P' : Pers} {L a y C I S : Addr} {loc loc' : List (Str × LV)} {tmp tmp' : List (Addr × G)} {tt tt' : List (Addr × List LV)} {s s' : Shared} {h' : Heap} {tk : Nat} {g g' : G}
  {A : Around} {E : Value → Shared → Prop} {env : Env} {x : Str} {pos : Pos} {Q : Value → Shared → Prop} {QU : Unit → Shared → Prop} {QF : Flow → Shared → Prop} {n : Nat} {fs : List (Str × Value)} {ad : Ad} {σ : St}
theorem ints_all2 {vs : List Value} {ns : List Int} (h : IntsAre vs ns) : All2 LV.is (ns.map .int) vs := by
  induction h with
  | nil => exact .nil
  | cons n t _ ih => exact .cons ⟨t, rfl⟩ ih
/-- a list that stands in Z, from its head -/
theorem r_listTo {value slice : Expr} {l : Addr} {vs : List Value} {ns : List Int} {m : Nat} {k : Int} {u : Tok} (c : Cfg w Z b₀ P L loc tmp tt s) (hZ : Z.IsList l vs.toArray) (hi : IntsAre vs ns) (hz : ns.length ≤ 1000000) (hs : (S, .fld "slice" #[.none, .int k u, .none]) ∈ tmp) (hk : k = (m : Int))
    (h : ∀ d s', Cfg w Z b₀ P L loc ((d, .list ((ns.take m).map .int)) :: tmp) tt s' → Q (.ref d) s')
    (hsb : subscripted slice false (.ref l) (.ref S) = operate [.ref S, .ref l] (getItem (.ref l) (.ref S)) := by with_unfolding_all rfl) (ht : ∀ r, letTemporaryGo value (.ref l) r = pure () := by intro _; with_unfolding_all rfl) :
    wpAny (model prg w) A (subscriptTail value slice (.ref l) (.ref S)) Q E s := by
  obtain ⟨os, hos, hc, hd⟩ := c.at (List.mem_append_left _ hs)
  have hl : s.heap.IsList l vs.toArray := by
    obtain ⟨o, h1, h2⟩ := hZ
    exact ⟨o, c.keep _ _ h1, h2⟩
  have hpick := kmk_upto (y := k) hi (by (first | lia | omega))
  rw [show k.toNat = m by (first | lia | omega)] at hpick
  refine subscriptTail_ops hl.typeIs list_getitem_lookup (wpAny_getItem_list_slice hl ⟨os, hos, hc, hd⟩ .none (.int k u) .none (by simp) ?_ (by rw [List.size_toArray, hi.length, sizeLine_eq]; (first | lia | omega))) hsb ht
  exact h _ _ (c.new (tk := s.toks) (fun b o e => Heap.get?_push_of_some _ e) (new_size _) ⟨_, Heap.get?_push_size _ rfl, _, 0, rfl, ints_all2 hpick⟩)
theorem r_int {k : Int} {t : Tok} (h : Q (.int k t) s) : wpAny (model prg w) A (call (.type "int") [.int k t]) Q E s := call_int_int h
theorem r_modI {k m : Int} {t u : Tok} (c : Cfg w Z b₀ P L loc tmp tt s) (hm : m ≠ 0) (h : ∀ t s', Cfg w Z b₀ P L loc tmp tt s' → Q (.int (k.fmod m) t) s') : wpAny (model prg w) A (binaryOp .Mod (.int k t) (.int m u)) Q E s := mod_int hm (h _ _ c.tok)
theorem r_add2 {v : Nat} {t u : Tok} (c : Cfg w Z b₀ P L loc tmp tt s) (h : ∀ t s', Cfg w Z b₀ P L loc tmp tt s' → Q (.int ((v + 2 : Nat) : Int) t) s') : wpAny (model prg w) A (binaryOp .Add (.int 2 t) (.int (v : Int) u)) Q E s :=
  add_int (by rw [show (2 : Int) + (v : Int) = ((v + 2 : Nat) : Int) by (first | lia | omega)]; exact h _ _ c.tok)
/-- a display of two keys -/
noncomputable def DictQ2 (w : World) (Z : Heap) (b₀ : Shared) (P : Pers) (L D : Addr) (loc : List (Str × LV)) (Q : Value → Shared → Prop) (k1 v1 k2 v2 : Value) (s : Shared) : Prop :=
  ∃ x1 t1 l1 x2 t2 l2 tmp1 tmp2 tt, k1 = .str x1 t1 ∧ l1.is v1 ∧ k2 = .str x2 t2 ∧ l2.is v2 ∧ x1 ≠ x2 ∧ Cfg w Z b₀ P L loc tmp1 tt s ∧ Put tmp1 D (.dictS []) (.dictS [(x1, l1), (x2, l2)]) tmp2 ∧ ∀ s', Cfg w Z b₀ P L loc tmp2 tt s' → Q (.ref D) s'
theorem r_DictS2 {k1 k2 v1 v2 : Expr} (c : Cfg w Z b₀ P L loc tmp tt s)
    (h : ∀ D s0, Cfg w Z b₀ P L loc ((D, .dictS []) :: tmp) tt s0 → wpAny (model prg w) A (eval k1 env) (fun kv1 s1 => wpAny (model prg w) A (eval v1 env) (fun vv1 s2 => wpAny (model prg w) A (eval k2 env) (fun kv2 s3 => wpAny (model prg w) A (eval v2 env) (fun vv2 s4 =>
      DictQ2 w Z b₀ P L D loc Q kv1 vv1 kv2 vv2 s4) E s3) E s2) E s1) E s0) :
    wpAny (model prg w) A (eval (.Dict [some k1, some k2] [v1, v2] pos) env) Q E s := by
  refine wpAny_Dict_walk (knd := PySem.strKind prg w) rfl rfl (by simp) (by simp) ?_
  have c1 : Cfg w Z b₀ P L loc ((s.heap.objs.size, .dictS []) :: tmp) tt { s with heap := s.heap.push { cls := .type "dict", data := .dict #[] } } := by
    refine c.new (tk := s.toks) (fun b o e => Heap.get?_push_of_some _ e) (new_size _) ?_
    obtain ⟨o, h1, h2, h3⟩ := dictOf_any (Heap.DictOf.new (knd := PySem.strKind prg w) s.heap)
    exact ⟨o, h1, [], h2, .nil, h3⟩
  refine pairTrees_cons_walk (wpAny_mono (h _ _ c1) (fun kv1 s1 q => ?_) fun _ _ e => e)
  refine wpAny_mono q (fun vv1 s2 q => ?_) fun _ _ e => e
  refine pairTrees_cons_walk (wpAny_mono q (fun kv2 s3 q => ?_) fun _ _ e => e)
  refine wpAny_mono q (fun vv2 s4 q => ?_) fun _ _ e => e
  refine pairTrees_nil_walk ?_
  obtain ⟨x1, t1, l1, x2, t2, l2, tmp1, tmp2, tt1, rfl, e1, rfl, e2, hne, c4, U, hq⟩ := q
  obtain ⟨ys, hd, hy⟩ := c4.isDS (List.mem_append_left _ U.mem)
  cases hy
  refine ⟨[(x1, vv1), (x2, vv2)], ⟨is_str, rfl, is_str, rfl, trivial⟩, hd, fun h' hd' hs => ?_⟩
  obtain ⟨o, h3, h4, h5⟩ := dictOf_any hd'
  have em : merged [] [(x1, vv1), (x2, vv2)] = [(x1, vv1), (x2, vv2)] := by simp [merged, stored, hne]
  rw [em] at h4
  exact hq _ (c4.chgT U hs.extBut ⟨o, h3, _, h4, .cons ⟨rfl, e1⟩ (.cons ⟨rfl, e2⟩ .nil), h5⟩)
end
end
section
noncomputable def st0 (rows : List (Addr × Node)) (cells : List Int) : St where
  nodes := []
  numbers := []
  weights := []
  depths := []
  parent := []
  lots := []
  mrg := []
  edges := []
  forest := []
  known := []
  hab := []
  waiting := []
  rows := rows
  pairs := []
  spot := 0
  cells := cells
section
variable {w : World} {Z : Heap} {b₀ : Shared} {P P' : Pers} {L a y C I : Addr} {loc loc' : List (Str × LV)} {tmp tmp' : List (Addr × G)} {tt tt' : List (Addr × List LV)} {s s' : Shared} {h' : Heap} {tk : Nat} {g g' : G}
  {A : Around} {E : Value → Shared → Prop} {env : Env} {x : Str} {pos : Pos} {Q : Value → Shared → Prop} {QU : Unit → Shared → Prop} {QF : Flow → Shared → Prop} {n : Nat} {fs : List (Str × Value)} {ad : Ad} {σ : St}
theorem dictT_I {o : Obj} (h : (G.dictT []).is w o) : (G.dictI []).is w o := by
  obtain ⟨h1, ys, es, ep, h2, h3, _, h4⟩ := h
  cases h4
  have e : es = #[] := by
    have : es.toList = [] := h3
    simpa using this
  subst e
  exact ⟨[], fun h a ha => ⟨o, #[], ep, ha, h1, h2, fun e he => by simp at he, .nil, List.nodup_nil⟩, .nil, h1⟩
theorem Cfg.recast {pre post : List (Addr × G)} {g g' : G} (c : Cfg w Z b₀ P L loc (pre ++ (a, g) :: post) tt s) (h : ∀ o, g.is w o → g'.is w o) : Cfg w Z b₀ P L loc (pre ++ (a, g') :: post) tt s :=
  { c with
    led := fun p hp => by
      have hm : p = (a, g') ∨ p ∈ (pre ++ (a, g) :: post) ++ P.objs := by
        simp only [List.append_assoc, List.cons_append, List.mem_append, List.mem_cons] at hp ⊢
        rcases hp with hp | hp | hp | hp
        · exact .inr (.inl hp)
        · exact .inl hp
        · exact .inr (.inr (.inr (.inl hp)))
        · exact .inr (.inr (.inr (.inr hp)))
      rcases hm with rfl | hm
      · obtain ⟨⟨o, h1, h2⟩, h3⟩ := c.led (a, g) (by simp)
        exact ⟨⟨o, h1, h _ h2⟩, h3⟩
      · exact c.led p hm
    nd := by have := c.nd; simpa using this }
theorem perm_idx {α : Type} (f : Nat → α) {is : List Nat} {n : Nat} (h : is.Perm (List.range n)) {l l' : List α} (h1 : l' = is.map f) (h2 : l = (List.range n).map f) : l'.Perm l := by
  rw [h1, h2]; exact h.map f
abbrev rows0 (ra rb : Addr) : List (Addr × Node) := [(ra, (⟨#[97]⟩, [])), (rb, (⟨#[98]⟩, []))]
abbrev ad0 (x xb xu a1 a2 a3 a4 u1 u2 u3 ed fr kn ab wt : Addr) (bt : Tok) (ds D dr dp : Addr) : Ad := ⟨x, xb, xu, a1, a2, a3, a4, u1, u2, u3, ed, fr, kn, ab, wt, .int 0 bt, ds, D, dr, dp⟩
theorem str_a : Str.ofString "a" = ⟨#[97]⟩ := by decide +kernel
theorem str_b : Str.ofString "b" = ⟨#[98]⟩ := by decide +kernel
theorem nodH (ad : Ad) : ((fsHeap ad).map (·.1)).Nodup := by simp only [fsHeap, List.map_cons, List.map_nil]; decide +kernel
theorem nodB (ad : Ad) : ((fsBank ad).map (·.1)).Nodup := by simp only [fsBank, List.map_cons, List.map_nil]; decide +kernel
theorem nodU (ad : Ad) : ((fsUnions ad).map (·.1)).Nodup := by simp only [fsUnions, List.map_cons, List.map_nil]; decide +kernel
set_option maxHeartbeats 1000000 in
theorem start_cfg {x dx xb dxb xu dxu a1 a2 a3 a4 u1 u2 u3 ed fr kn ab wt ds D dr dp ra rb t3 d5 d6 : Addr} {es eb eu : List DictEntry} {n nb nu : Nat} {bt : Tok} {cells : List Int} {g5 g6 : G} {l3 : List LV}
    (c : Cfg w Z b₀ ⟨[], []⟩ L loc [(dp, .list []), (dr, .list [.ref ra, .ref rb]), (wt, .list []), (ab, .dictT []), (kn, .dictT []), (fr, .list []), (ed, .list []), (u3, .list []), (u2, .list []), (u1, .list []), (xu, .obj (instObj cUnions dxu)), (dxu, .obj (dictOf eu nu)),
      (a4, .list []), (a3, .list []), (a2, .dictT []), (a1, .list []), (xb, .obj (instObj cBank dxb)), (dxb, .obj (dictOf eb nb)), (x, .obj (instObj cHeap dx)), (dx, .obj (dictOf es n)),
      (D, .list (cells.map .int)), (d5, g5), (d6, g6), (ds, .dictS [(Str.ofString "cells", .ref D), (Str.ofString "spot", .int 0)]), (L + 1 + 1, .cell .unset), (L + 1, .cell (.ref ds))]
      [(t3, l3), (rb, [.str (Str.ofString "b")]), (ra, [.str (Str.ofString "a")])] s)
    (he : FldsE [(Str.ofString "bank", .ref xb), (Str.ofString "unions", .ref xu), (Str.ofString "edges", .ref ed), (Str.ofString "forest", .ref fr), (Str.ofString "known", .ref kn), (Str.ofString "above", .ref ab), (Str.ofString "waiting", .ref wt), (Str.ofString "backs", .int 0 bt)] es)
    (hb : FldsE [(Str.ofString "nodes", .ref a1), (Str.ofString "numbers", .ref a2), (Str.ofString "weights", .ref a3), (Str.ofString "depths", .ref a4)] eb)
    (hu : FldsE [(Str.ofString "above", .ref u1), (Str.ofString "lots", .ref u2), (Str.ofString "merged", .ref u3)] eu) :
    ∃ Z', (∀ b o, Z.get? b = some o → Z'.get? b = some o) ∧ Froz (ad0 x xb xu a1 a2 a3 a4 u1 u2 u3 ed fr kn ab wt bt ds D dr dp) Z' ∧
      Cfg w Z' b₀ (pers (ad0 x xb xu a1 a2 a3 a4 u1 u2 u3 ed fr kn ab wt bt ds D dr dp) (st0 (rows0 ra rb) cells)) L loc [(L + 1 + 1, .cell .unset), (L + 1, .cell (.ref ds))] [] s := by
  have c1 : Cfg w Z b₀ ⟨[], []⟩ L loc ([(dp, .list []), (dr, .list [.ref ra, .ref rb]), (wt, .list [])] ++ (ab, .dictT []) :: [(kn, .dictT []), (fr, .list []), (ed, .list []), (u3, .list []), (u2, .list []), (u1, .list []), (xu, .obj (instObj cUnions dxu)), (dxu, .obj (dictOf eu nu)),
      (a4, .list []), (a3, .list []), (a2, .dictT []), (a1, .list []), (xb, .obj (instObj cBank dxb)), (dxb, .obj (dictOf eb nb)), (x, .obj (instObj cHeap dx)), (dx, .obj (dictOf es n)),
      (D, .list (cells.map .int)), (ds, .dictS [(Str.ofString "cells", .ref D), (Str.ofString "spot", .int 0)]), (L + 1 + 1, .cell .unset), (L + 1, .cell (.ref ds))])
      [(t3, l3), (rb, [.str (Str.ofString "b")]), (ra, [.str (Str.ofString "a")])] s := by
    refine c.sub ?_ fun p hp => List.mem_append_left _ hp
    iterate 21 refine List.Sublist.cons_cons _ ?_
    refine List.Sublist.cons _ (List.Sublist.cons _ (List.Sublist.refl _))
  have c2 := c1.recast (g' := .dictI []) (fun o h => dictT_I h)
  have c3 : Cfg w Z b₀ ⟨[], []⟩ L loc (([(L + 1 + 1, .cell .unset), (L + 1, .cell (.ref ds))] ++ (pers (ad0 x xb xu a1 a2 a3 a4 u1 u2 u3 ed fr kn ab wt bt ds D dr dp) (st0 (rows0 ra rb) cells)).objs) ++
      [(x, instObj cHeap dx), (dx, dictOf es n), (xb, instObj cBank dxb), (dxb, dictOf eb nb), (xu, instObj cUnions dxu), (dxu, dictOf eu nu)].map fun p => (p.1, G.obj p.2))
      [(t3, l3), (rb, [.str (Str.ofString "b")]), (ra, [.str (Str.ofString "a")])] s :=
    c2.perm (perm_idx (fun i => ([(dp, .list []), (dr, .list [.ref ra, .ref rb]), (wt, .list []), (ab, .dictI []), (kn, .dictT []), (fr, .list []), (ed, .list []), (u3, .list []), (u2, .list []), (u1, .list []), (xu, .obj (instObj cUnions dxu)), (dxu, .obj (dictOf eu nu)),
      (a4, .list []), (a3, .list []), (a2, .dictT []), (a1, .list []), (xb, .obj (instObj cBank dxb)), (dxb, .obj (dictOf eb nb)), (x, .obj (instObj cHeap dx)), (dx, .obj (dictOf es n)),
      (D, .list (cells.map .int)), (ds, .dictS [(Str.ofString "cells", .ref D), (Str.ofString "spot", .int 0)]), (L + 1 + 1, .cell .unset), (L + 1, .cell (.ref ds))] : List (Addr × G)).getD i (L, .any))
      (is := [22, 23, 15, 14, 13, 12, 9, 8, 7, 6, 5, 4, 3, 2, 1, 0, 21, 20, 18, 19, 16, 17, 10, 11]) (n := 24) (by decide) rfl rfl)
  obtain ⟨Z', k, hz, c4⟩ := c3.freeze
  refine ⟨Z', k, ⟨Inst.of (hz _ (.head _)) (hz _ (.tail _ (.head _))) he (nodH _), Inst.of (hz _ (.tail _ (.tail _ (.head _)))) (hz _ (.tail _ (.tail _ (.tail _ (.head _))))) hb (nodB _), Inst.of (hz _ (.tail _ (.tail _ (.tail _ (.tail _ (.head _)))))) (hz _ (.tail _ (.tail _ (.tail _ (.tail _ (.tail _ (.head _))))))) hu (nodU _)⟩, ?_⟩
  refine c4.reP (by rw [List.append_nil]) fun p hp => ?_
  have hp2 : p ∈ [(ra, nlvs (⟨#[97]⟩, [])), (rb, nlvs (⟨#[98]⟩, []))] := hp
  rw [str_a, str_b]
  simp only [List.mem_cons, List.not_mem_nil, or_false] at hp2
  rcases hp2 with rfl | rfl
  · exact .tail _ (.tail _ (.head _))
  · exact .tail _ (.head _)
end
end
local macro_rules | `(tactic| walk_at "And") => `(tactic| k_extra "And")
local macro_rules | `(tactic| walk_at "callWith ref") => `(tactic| k_extra "callWith ref")
local macro_rules | `(tactic| walk_at "eval Constant int") => `(tactic| k_extra "eval Constant int")
local macro_rules | `(tactic| walk_at "eval Dict") => `(tactic| k_extra "eval Dict")
local macro_rules | `(tactic| walk_at "eval DictComp") => `(tactic| k_extra "eval DictComp")
local macro_rules | `(tactic| walk_at "eval ListComp") => `(tactic| k_extra "eval ListComp")
local macro_rules | `(tactic| walk_at "eval Name") => `(tactic| k_extra "eval Name")
local macro_rules | `(tactic| walk_at "eval Slice") => `(tactic| k_extra "eval Slice")
local macro_rules | `(tactic| walk_at "exec Assign") => `(tactic| k_extra "exec Assign")
local macro_rules | `(tactic| walk_at "getAttr ref") => `(tactic| k_extra "getAttr ref")
local macro_rules | `(tactic| walk_at "getMethod ref") => `(tactic| k_extra "getMethod ref")
local macro_rules | `(tactic| walk_at "setAttr ref") => `(tactic| k_extra "setAttr ref")
local macro_rules | `(tactic| walk_at "storeName") => `(tactic| k_extra "storeName")
local macro_rules | `(tactic| walk_at "subscriptTail") => `(tactic| k_extra "subscriptTail")
theorem wordsW : True := by
  k_with "cfg" => (first | assumption | exact Cfg.tok (by assumption) | exact Cfg.tok (Cfg.tok (by assumption)) | exact Cfg.tok (Cfg.tok (Cfg.tok (by assumption))) | exact Cfg.tok (Cfg.tok (Cfg.tok (Cfg.tok (by assumption)))) | exact Cfg.tok (Cfg.tok (Cfg.tok (Cfg.tok (Cfg.tok (by assumption))))) | exact Cfg.tok (Cfg.tok (Cfg.tok (Cfg.tok (Cfg.tok (Cfg.tok (by assumption)))))) | exact Cfg.tok (Cfg.tok (Cfg.tok (Cfg.tok (Cfg.tok (Cfg.tok (Cfg.tok (by assumption))))))) | exact Cfg.tok (Cfg.tok (Cfg.tok (Cfg.tok (Cfg.tok (Cfg.tok (Cfg.tok (Cfg.tok (by assumption)))))))))
  k_with "mem" => (first | with_reducible exact List.mem_cons_self | (with_reducible refine List.mem_cons_of_mem _ ?_; k_extra "mem") | (with_reducible refine List.mem_append_left _ ?_; k_extra "mem") | with_reducible assumption)
  k_with "lv" => (first | with_reducible exact Lv.head | (with_reducible refine Lv.tail ?_; k_extra "lv"))
  k_with "hp" => (first | assumption | (refine List.mem_cons_of_mem _ ?_; k_extra "hp"))
  k_with "leaveM" => (refine Cfg.leave (by assumption) (by k_extra "cfg") (by k_extra "lv") ?_)
  k_with "leave" => (refine Cfg.leave (by assumption) (by k_extra "cfg") (by k_extra "lv") (by (intro p hp; refine List.mem_append_left _ ?_; k_extra "hp")))
  k_with "memP" => (first | with_reducible exact m_uab | with_reducible exact m_nodes | with_reducible exact m_numbers | with_reducible exact m_weights | with_reducible exact m_depths | with_reducible exact m_lots | with_reducible exact m_mrg | with_reducible exact m_edges | with_reducible exact m_forest | with_reducible exact m_known | with_reducible exact m_hab | with_reducible exact m_waiting | with_reducible exact m_rows | with_reducible exact m_pairs | with_reducible exact m_stick | with_reducible exact m_cells | (with_reducible exact m_lot (List.mem_of_getElem? (by assumption))) | (with_reducible exact m_habl (List.mem_of_getElem? (by assumption))) | (with_reducible exact m_habl (p := (_, _, _)) (by assumption)) | (with_reducible refine List.mem_append_left _ ?_; k_extra "mem") | with_reducible assumption)
  k_with "put" => (first | with_reducible exact Put.head | (with_reducible apply putT; k_extra "put"))
  k_with "inst" => (first | exact Froz.hp (by assumption) | exact Froz.bk (by assumption) | exact Froz.un (by assumption) | assumption)
  k_with "nodup" => ((try simp only [List.map_cons, List.map_nil]); decide +kernel)
  k_with "locs" => (repeat' (first | exact List.forall_mem_nil _ | refine List.forall_mem_cons.mpr ⟨?_, ?_⟩ | exact ⟨_, rfl, rfl⟩ | exact ⟨_, rfl, _, rfl⟩ | exact trivial))
  k_with "lvis" => (first | with_reducible exact lv_int | with_reducible exact lv_ref | with_reducible exact lv_bool | with_reducible exact lv_none | with_reducible exact lv_str)
  k_with "eval Name" => (k_dflt (first
    | (refine r_locR (by k_extra "cfg") (by k_extra "mem") ?_)
    | (refine r_locI (by k_extra "cfg") (by k_extra "mem") ?_; intro _)
    | (refine r_locB (by k_extra "cfg") (by k_extra "mem") ?_)
    | (refine r_locN (by k_extra "cfg") (by k_extra "mem") ?_)
    | (refine r_locS (by k_extra "cfg") (by k_extra "mem") ?_; intro _)
    | (refine n_cellR (by rfl) (by k_extra "cfg") (by rfl) (by k_extra "mem") ?_)
    | (refine n_cellI (by rfl) (by k_extra "cfg") (by rfl) (by k_extra "mem") ?_; intro _)
    | (refine r_blt (by k_extra "cfg") (by assumption) (by k_is) (by boot_fast) (by decide) ?_)
    | (refine r_glob (by k_extra "cfg") (by assumption) (by k_is) ?_)))
  k_with "eval Constant int" => (k_dflt (refine r_constI (by k_extra "cfg") ?_; intro _ _ _))
  k_with "storeName" => (k_dflt (first
    | (refine r_st (by k_extra "cfg") (by k_extra "lvis") (by k_extra "put") ?_; intro _ _)
    | (refine r_stC (by k_extra "cfg") (by k_extra "lvis") (by rfl) (by k_extra "put") ?_; intro _ _)))
  k_with "getAttr ref" => (k_dflt (refine r_attr (by k_extra "cfg") (by assumption) (by k_extra "inst") (by k_extra "mem") (by k_is) (by k_is) (by k_is) (by k_is) (by k_handed) ?_; intro _ _))
  k_with "getMethod ref" => (k_dflt (first
      | k_extra "meth"
      | (refine r_meth (by k_extra "cfg") (by assumption) (by k_extra "inst") (by rfl) (by k_is) (by k_is) (by k_is) ?_)))
  k_with "meth" => (first
      | ((with_reducible show wpAny _ _ (getMethod _ (Str.ofString "append") _) _ _ _); (refine r_getL (x := Str.ofString "append") (id := "list.append") (by k_extra "cfg") (by k_extra "memP") F.slot_list_append (by exact F.type_list_append) ?_))
      | ((with_reducible show wpAny _ _ (getMethod _ (Str.ofString "extend") _) _ _ _); (refine r_getL (x := Str.ofString "extend") (id := "list.extend") (by k_extra "cfg") (by k_extra "memP") F.slot_list_extend (by exact F.type_list_extend) ?_))
      | ((with_reducible show wpAny _ _ (getMethod _ (Str.ofString "pop") _) _ _ _); (refine r_getL (x := Str.ofString "pop") (id := "list.pop") (by k_extra "cfg") (by k_extra "memP") F.slot_list_pop (by exact F.type_list_pop) ?_))
      | ((with_reducible show wpAny _ _ (getMethod _ (Str.ofString "pop") _) _ _ _); (refine r_methD (x := Str.ofString "pop") (id := "dict.pop") (by k_extra "cfg") (by k_extra "memP") dI_dict PySem.F.slot_dict_pop (by exact PySem.F.type_dict_pop) ?_))
      | ((with_reducible show wpAny _ _ (getMethod _ (Str.ofString "setdefault") _) _ _ _); (refine r_methD (x := Str.ofString "setdefault") (id := "dict.setdefault") (by k_extra "cfg") (by k_extra "memP") dT_dict PySem.F.slot_dict_setdefault (by exact PySem.F.type_dict_setdefault) ?_)))
  k_with "callWith ref" => (k_dflt (first
      | (refine r_callWith (by assumption) (by k_is) ?_)
      | (refine r_callWith0 (by k_extra "cfg") (by assumption) (by k_is) ?_)))
  k_with "And" => (refine r_in (by k_extra "cfg") (by assumption) ?_)
  k_with "size" => ((try simp only [nlv_len, refs_len, dT_len, habD_len, List.length_map, List.length_nil, List.length_cons, List.length_append]); omega)
  k_with "memT" => (first | with_reducible assumption | with_reducible exact t_node (List.mem_of_getElem? (by assumption)) | with_reducible exact t_row (List.mem_of_getElem? (by assumption)) | with_reducible exact t_node (by assumption) | with_reducible exact t_row (by assumption) | (with_reducible refine List.mem_append_left _ ?_; k_extra "mem"))
  k_with "eval Slice" => (first | refine' r_Slice_from ?_ | refine' r_Slice_to ?_)
  k_with "room" => (exact Room.lower (by assumption) (by decide))
  k_with "subscriptTail" => (k_dflt (first
      | ((with_reducible show wpAny _ _ (subscriptTail _ _ _ (.int (Nat.cast _) _)) _ _ _); first
        | (refine r_itemN (by k_extra "cfg") (by k_extra "memP") (by first | assumption | omega) (by first | assumption | omega) ?_; intro _)
        | (refine r_itemRef (by k_extra "cfg") (by k_extra "memP") (by assumption) (by first | assumption | omega) ?_)
        | k_extra "subH"
        | (refine r_itemInt (by k_extra "cfg") (by k_extra "memP") (by first | assumption | omega) (by first | assumption | omega) ?_; intro _))
      | ((with_reducible show wpAny _ _ (subscriptTail _ _ _ (.int 0 _)) _ _ _); first
        | (refine r_node0 (by k_extra "cfg") (by k_extra "memT") ?_; intro _)
        | k_extra "sub0")
      | ((with_reducible show wpAny _ _ (subscriptTail _ _ _ (.ref _)) _ _ _); first
        | (refine r_nodeFrom (by k_extra "cfg") (by k_extra "memT") (by k_extra "mem") (by first | assumption | omega | (dsimp only; omega)) ?_; intro _ _ _)
        | k_extra "subR")))
  k_with "spec" => ((with_reducible show wpAny _ _ (call (.builtin "len") _) _ _ _); first
      | (refine r_lenN (by k_extra "cfg") (by k_extra "memP") (by k_extra "size") ?_; intro _ _ _)
      | (refine r_lenR (by k_extra "cfg") (by k_extra "memP") (by k_extra "size") ?_; intro _ _ _)
      | (refine r_lenInt (by k_extra "cfg") (by k_extra "memP") (by k_extra "size") ?_; intro _ _ _)
      | (refine r_lenL (by k_extra "cfg") (by k_extra "memP") (by k_extra "size") ?_; intro _ _ _))
  k_with "suf" => (first | with_reducible exact Suf.refl | (with_reducible refine Suf.tail ?_; k_extra "suf"))
  k_with "elt" => (refine EltQ.mk (by k_extra "lvis") (by k_extra "cfg") (by k_extra "suf") (by k_extra "suf"))
  k_with "tst" => (refine TestQ.mk ?_ (by k_extra "cfg") (by k_extra "suf") (by k_extra "suf"))
  k_with "clos" => (first | rfl | with_unfolding_all rfl)
  k_with "eval ListComp" => (refine r_LC (by k_extra "clos") (by rfl) (by decide +kernel) ?_)
  k_with "eval DictComp" => (refine r_DC (by k_extra "clos") (by rfl) (by decide +kernel) ?_)
  k_with "memTT" => (first | (with_reducible refine List.mem_append_left _ ?_; k_extra "mem") | k_extra "memT")
  k_with "iter" => (first
      | (refine r_iterT (by k_extra "cfg") (by k_extra "memTT") ?_; intro _ _ _)
      | (refine r_iterL (by k_extra "cfg") (by k_extra "memP") ?_; intro _ _ _)
      | (refine r_iterG0 (by k_extra "cfg") (by k_extra "memP") (by first | assumption | omega) ?_; intro _ _ _)
      | (refine r_iterG (by k_extra "cfg") (by k_extra "memP") (by first | assumption | omega) (by first | assumption | omega) ?_; intro _ _ _))
  k_with "all2" => (first | with_reducible exact All2.nil | ((with_reducible apply all2T); (k_extra "lvis"); (k_extra "all2")))
  k_with "new" => (first
      | ((with_reducible show wpAny _ _ (newTuple _) _ _ _); refine r_newT (by k_extra "cfg") (by k_extra "all2") (by exact Nat.le_of_ble_eq_true rfl) ?_; intro _ _ _)
      | ((with_reducible show wpAny _ _ (newList _) _ _ _); refine r_newL (by k_extra "cfg") (by k_extra "all2") (by exact Nat.le_of_ble_eq_true rfl) ?_; intro _ _ _)
      | ((with_reducible show wpAny _ _ (newFields _ _) _ _ _); refine r_slice (by k_extra "cfg") ?_; intro _ _ _))
  k_with "spec" => (first
      | ((with_reducible show wpAny _ _ (call (.type "tuple") _) _ _ _); first
        | (refine r_tupL (by k_extra "cfg") (by k_extra "memP") (by k_extra "size") ?_; intro _ _ _)
        | (refine r_tupT (by k_extra "cfg") (by k_extra "memTT") ?_))
      | ((with_reducible show wpAny _ _ (call (.type "set") _) _ _ _); first
        | (refine r_setN (by k_extra "cfg") (by exact Room.h (by assumption)) (by k_extra "memP") (by k_extra "sizeS") ?_; intro _ _ _)
        | (refine r_set (by k_extra "cfg") (by exact Room.h (by assumption)) (by k_extra "memP") (by k_extra "sizeS") ?_; intro _ _ _))
      | ((with_reducible show wpAny _ _ (call (.builtin "sum") _) _ _ _); first
        | (refine r_sumN (by k_extra "cfg") (by exact Room.h (by assumption)) (by k_extra "memP") ?_; intro _ _ _ _)
        | (refine r_sum (by k_extra "cfg") (by exact Room.h (by assumption)) (by k_extra "memP") ?_; intro _ _ _ _))
      | ((with_reducible show wpAny _ _ (call (.builtin "sorted") _) _ _ _); first
        | (refine r_sortedSet (by k_extra "cfg") (by exact Room.h (by assumption)) (by k_extra "size64") ?_; intro _ _ _)
        | (refine r_sortedList (by k_extra "cfg") (by k_extra "memP") (by k_extra "size64") ?_; intro _ _ _)))
  k_with "size64" => (first | assumption | omega)
  k_with "sizeS" => (have : scanBound = 4096 := rfl; first | assumption | omega | ((try simp only [nlv_len, List.length_map]); omega))
  k_with "addR" => (first
      | (refine r_addT (by k_extra "cfg") (by k_extra "memTT") (by k_extra "memTT") (by k_extra "size") ?_; intro _ _ _ _ _ _)
      | (refine r_addL (by k_extra "cfg") (by k_extra "memP") (by k_extra "memP") (by k_extra "size") ?_; intro _ _ _))
  k_with "hh" => (exact Room.h (by assumption))
  k_with "asg" => (first
      | (refine r_assignIIL (by k_extra "cfg") (by k_extra "hh") (by k_extra "memP") ?_; intro _ _ _ _)
      | (refine r_assignII (by k_extra "cfg") (by k_extra "hh") (by k_extra "memTT") ?_; intro _ _ _ _)
      | (refine r_assignIR (by k_extra "cfg") (by k_extra "hh") (by k_extra "memTT") ?_; intro _ _ _))
  k_with "spec" => ((with_reducible show wpAny _ _ (call (.builtin "sorted") _) _ _ _); refine r_sorted2 (by k_extra "cfg") (by k_extra "memP") ?_; intro _ _ _)
  k_with "go" => (repeat' (first
      | ((with_reducible show wpAny _ _ (call _ _) _ _ _); k_extra "spec")
      | ((with_reducible show wpAny _ _ (pyIter _) _ _ _); k_extra "iter")
      | ((with_reducible show wpAny _ _ (eval (.ListComp _ _ _ _) _) _ _ _); walk_at "eval ListComp")
      | ((with_reducible show wpAny _ _ (exec (.For _ _ _ _ _) _) _ _ _); k_extra "for")
      | ((with_reducible show wpAny _ _ (eval (.Dict [] [] _) _) _ _ _); k_extra "dict0")
      | ((with_reducible show wpAny _ _ (exec (.Assign [.Name _ _] (.DictComp _ _ _ _ _) _) _) _ _ _); k_extra "asDC")
      | ((with_reducible show wpAny _ _ (exec (.Assign [.Name _ _] (.ListComp _ _ _ _) _) _) _ _ _); k_extra "asLC")
      | ((with_reducible show wpAny _ _ (binaryOp _ (.int _ _) (.int _ _)) _ _ _); k_extra "opI")
      | ((with_reducible show wpAny _ _ (compareOp .In (.ref _) (.ref _)) _ _ _); k_extra "in")
      | ((with_reducible show wpAny _ _ (compareOp .In (.int _ _) (.ref _)) _ _ _); k_extra "opIn")
      | ((with_reducible show wpAny _ _ (compareOp .NotIn (.int _ _) (.ref _)) _ _ _); k_extra "opNotIn")
      | ((with_reducible show wpAny _ _ (compareOp .Eq (.ref _) (.ref _)) _ _ _); k_extra "eqR")
      | ((with_reducible show wpAny _ _ (compareOp .NotEq (.ref _) (.ref _)) _ _ _); k_extra "neR")
      | ((with_reducible show wpAny _ _ (eval (.DictComp _ _ _ _ _) _) _ _ _); walk_at "eval DictComp")
      | k_extra "new"
      | ((with_reducible show wpAny _ _ (assign (.Tuple _ _ _) _ _) _ _ _); k_extra "asg")
      | ((with_reducible show wpAny _ _ (setItem _ _ _) _ _ _); k_extra "setI")
      | ((with_reducible show wpAny _ _ (binaryOp .Add (.ref _) (.ref _)) _ _ _); k_extra "addR")
      | ((with_reducible show wpAny _ _ _ _ _ _); walk1)
      | ((with_reducible show ite _ _ _); walk1)
      | ((with_reducible show Frag.In _ _ ∧ _); walk1)
      | (dsimp only; with_reducible show wpAny _ _ _ _ _ _)))
  k_with "body" => (refine BodyV.next (by k_extra "cfg") (by k_extra "suf") (by k_extra "suf"))
  k_with "for" => (refine r_For ?_)
  k_with "asDC" => (refine r_AssignDC (by first | rfl | with_unfolding_all rfl) (by k_extra "clos") (by rfl) (by decide +kernel) ?_)
  k_with "asLC" => (refine r_AssignLC (by first | rfl | with_unfolding_all rfl) (by k_extra "clos") (by rfl) (by decide +kernel) ?_)
  k_with "spec" => ((with_reducible show wpAny _ _ (call (.type "range") _) _ _ _); first
      | (refine r_range1N (by k_extra "cfg") ?_; intro _ _ _)
      | (refine r_range2 (by k_extra "cfg") ?_; intro _ _ _))
  k_with "leave1" => (refine Cfg.leave1 (by assumption) (by k_extra "cfg") (by k_extra "lv") (by (intro p hp; refine List.mem_append_left _ ?_; k_extra "hp")))
  k_with "subl" => (first | with_reducible exact List.Sublist.refl _ | (with_reducible refine List.Sublist.cons_cons _ ?_; k_extra "subl") | (with_reducible refine List.Sublist.cons _ ?_; k_extra "subl"))
  exact trivial
section
section
variable {w : World} {Z : Heap} {b₀ : Shared} {P P' : Pers} {L a y C : Addr} {loc loc' : List (Str × LV)} {tmp tmp' : List (Addr × G)} {tt tt' : List (Addr × List LV)} {s s' : Shared} {h' : Heap} {tk : Nat} {g g' : G}
  {A : Around} {E : Value → Shared → Prop} {env : Env} {x : Str} {pos : Pos} {Q : Value → Shared → Prop} {QU : Unit → Shared → Prop} {QF : Flow → Shared → Prop} {n : Nat} {fs : List (Str × Value)} {ad : Ad} {σ : St}

set_option maxHeartbeats 8000000 in
theorem find_spec {k : Nat} {t : Tok} (c : Cfg w Z b₀ (pers ad σ) L loc tmp tt s) (B : Base w Z) (r : Room 2 A) (fz : Froz ad Z) (hp : PW σ.parent) (hk : k < σ.parent.length)
    (ret : ∀ t' s', Cfg w Z b₀ (pers ad σ) L loc tmp tt s' → Q (.int (root σ.parent k : Nat) t') s') : wpAny (model prg w) A (call (.ref 308) [.ref ad.un, .int (k : Int) t]) Q E s := by
  have hf := hp.falls
  have hb := hp.len
  refine r_callP (n := 1) c B r (by k_is) (by k_is) (BindsTo.of_eq rfl) (locs rfl) (by decide) [(Str.ofString "self", .ref ad.un), (Str.ofString "a", .int (k : Int))] ?_ ?_ ?_
  · k_extra "locs"
  · k_extra "nodup"
  intro L' fo A' s' hb r' c'
  walk1
  refine r_while (fun m s => ∃ k' t', m = k' ∧ k' < σ.parent.length ∧ root σ.parent k' = root σ.parent k ∧ Cfg w Z b₀ (pers ad σ) L' [(Str.ofString "self", .ref ad.un), (Str.ofString "a", .int (k' : Int))] ((L, .obj fo) :: tmp) tt s) ?_ _ ⟨k, t, rfl, hk, rfl, c'⟩
  rintro m s ⟨k', t', rfl, hk', hr, c'⟩
  k_extra "go"
  · have hne : σ.parent.getD m 0 ≠ m := by (first | lia | omega)
    have hle := hf m
    exact ⟨σ.parent.getD m 0, by (first | lia | omega), _, 0, rfl, by (first | lia | omega), by rw [← hr, root_up (p := σ.parent) (a := m) (by (first | lia | omega))], by assumption⟩
  · have he : σ.parent.getD m 0 = m := by (first | lia | omega)
    have e : root σ.parent k = m := by rw [← hr, root_at he]
    have h' := ret
    rw [e] at h'
    exact h' _ _ (by k_extra "leave")
end
end
section
section
variable {w : World} {Z : Heap} {b₀ : Shared} {P P' : Pers} {L a y C : Addr} {loc loc' : List (Str × LV)} {tmp tmp' : List (Addr × G)} {tt tt' : List (Addr × List LV)} {s s' : Shared} {h' : Heap} {tk : Nat} {g g' : G}
  {A : Around} {E : Value → Shared → Prop} {env : Env} {x : Str} {pos : Pos} {Q : Value → Shared → Prop} {QU : Unit → Shared → Prop} {QF : Flow → Shared → Prop} {n : Nat} {fs : List (Str × Value)} {ad : Ad} {σ : St}
theorem wordsF2a : True := by
  k_with "spec" => ((fail_if_success (have := endF2)); ((with_reducible show wpAny _ _ (call (.ref 308) _) _ _ _); refine find_spec (by k_extra "cfg") (by assumption) (by k_extra "room") (by assumption) (by assumption) (by first | assumption | omega) ?_; intro _ _ _))
  exact trivial
set_option maxHeartbeats 8000000 in
theorem hfind_spec {k : Nat} {t : Tok} (c : Cfg w Z b₀ (pers ad σ) L loc tmp tt s) (B : Base w Z) (r : Room 3 A) (fz : Froz ad Z) (hp : PW σ.parent) (hk : k < σ.parent.length)
    (ret : ∀ t' s', Cfg w Z b₀ (pers ad σ) L loc tmp tt s' → Q (.int (root σ.parent k : Nat) t') s') : wpAny (model prg w) A (call (.ref 407) [.ref ad.hp, .int (k : Int) t]) Q E s := by
  refine r_callP (n := 2) c B r (by k_is) (by k_is) (BindsTo.of_eq rfl) (locs rfl) (by decide) [(Str.ofString "self", .ref ad.hp), (Str.ofString "n", .int (k : Int))] ?_ ?_ ?_
  · k_extra "locs"
  · k_extra "nodup"
  intro L' fo A' s' hb' r' c'
  k_extra "go"
  exact ret _ _ (by k_extra "leave")
set_option maxHeartbeats 8000000 in
theorem usize_spec (c : Cfg w Z b₀ (pers ad σ) L loc tmp tt s) (B : Base w Z) (r : Room 1 A) (fz : Froz ad Z) (hb : σ.parent.length ≤ 1000000)
    (ret : ∀ t' s', Cfg w Z b₀ (pers ad σ) L loc tmp tt s' → Q (.int (σ.parent.length : Nat) t') s') : wpAny (model prg w) A (call (.ref 301) [.ref ad.un]) Q E s := by
  refine r_callP (n := 0) c B r (by k_is) (by k_is) (BindsTo.of_eq rfl) (locs rfl) (by decide) [(Str.ofString "self", .ref ad.un)] ?_ ?_ ?_
  · k_extra "locs"
  · k_extra "nodup"
  intro L' fo A' s' hb' r' c'
  k_extra "go"
  exact ret _ _ (by k_extra "leave")
end
theorem endF2 : True := trivial
end
section
section
variable {w : World} {Z : Heap} {b₀ : Shared} {P P' : Pers} {L a y C : Addr} {loc loc' : List (Str × LV)} {tmp tmp' : List (Addr × G)} {tt tt' : List (Addr × List LV)} {s s' : Shared} {h' : Heap} {tk : Nat} {g g' : G}
  {A : Around} {E : Value → Shared → Prop} {env : Env} {x : Str} {pos : Pos} {Q : Value → Shared → Prop} {QU : Unit → Shared → Prop} {QF : Flow → Shared → Prop} {n : Nat} {fs : List (Str × Value)} {ad : Ad} {σ : St}
set_option maxHeartbeats 8000000 in
theorem nsize_spec (c : Cfg w Z b₀ (pers ad σ) L loc tmp tt s) (B : Base w Z) (r : Room 1 A) (fz : Froz ad Z) (hb : σ.nodes.length ≤ 64)
    (ret : ∀ t' s', Cfg w Z b₀ (pers ad σ) L loc tmp tt s' → Q (.int (σ.nodes.length : Nat) t') s') : wpAny (model prg w) A (call (.ref 100) [.ref ad.bk]) Q E s := by
  refine r_callP (n := 0) c B r (by k_is) (by k_is) (BindsTo.of_eq rfl) (locs rfl) (by decide) [(Str.ofString "self", .ref ad.bk)] ?_ ?_ ?_
  · k_extra "locs"
  · k_extra "nodup"
  intro L' fo A' s' hb' r' c'
  k_extra "go"
  exact ret _ _ (by k_extra "leave")
theorem wordsF3a : True := by
  k_with "spec" => ((fail_if_success (have := endF3)); ((with_reducible show wpAny _ _ (call (.ref 100) _) _ _ _); refine nsize_spec (by k_extra "cfg") (by assumption) (by k_extra "room") (by assumption) (by first | assumption | omega) ?_; intro _ _ _))
  exact trivial
set_option maxHeartbeats 8000000 in
theorem hsize_spec (c : Cfg w Z b₀ (pers ad σ) L loc tmp tt s) (B : Base w Z) (r : Room 2 A) (fz : Froz ad Z) (hb : σ.nodes.length ≤ 64)
    (ret : ∀ t' s', Cfg w Z b₀ (pers ad σ) L loc tmp tt s' → Q (.int (σ.nodes.length : Nat) t') s') : wpAny (model prg w) A (call (.ref 376) [.ref ad.hp]) Q E s := by
  refine r_callP (n := 1) c B r (by k_is) (by k_is) (BindsTo.of_eq rfl) (locs rfl) (by decide) [(Str.ofString "self", .ref ad.hp)] ?_ ?_ ?_
  · k_extra "locs"
  · k_extra "nodup"
  intro L' fo A' s' hb' r' c'
  k_extra "go"
  exact ret _ _ (by k_extra "leave")
set_option maxHeartbeats 8000000 in
theorem op_spec {k : Nat} {t : Tok} (c : Cfg w Z b₀ (pers ad σ) L loc tmp tt s) (B : Base w Z) (r : Room 1 A) (fz : Froz ad Z) (hb : σ.nodes.length ≤ 64) {p : Addr × Node} (hk : σ.nodes[k]? = some p)
    (ret : ∀ t' s', Cfg w Z b₀ (pers ad σ) L loc tmp tt s' → Q (.str p.2.1 t') s') : wpAny (model prg w) A (call (.ref 140) [.ref ad.bk, .int (k : Int) t]) Q E s := by
  refine r_callP (n := 0) c B r (by k_is) (by k_is) (BindsTo.of_eq rfl) (locs rfl) (by decide) [(Str.ofString "self", .ref ad.bk), (Str.ofString "n", .int (k : Int))] ?_ ?_ ?_
  · k_extra "locs"
  · k_extra "nodup"
  intro L' fo A' s' hb' r' c'
  k_extra "go"
  exact ret _ _ (by k_extra "leave")
set_option maxHeartbeats 8000000 in
theorem kids_spec {k : Nat} {t : Tok} (c : Cfg w Z b₀ (pers ad σ) L loc tmp tt s) (B : Base w Z) (r : Room 1 A) (fz : Froz ad Z) (hb : σ.nodes.length ≤ 64) {p : Addr × Node} (hk : σ.nodes[k]? = some p) (hz : p.2.2.length ≤ 100000)
    (ret : ∀ d s', Cfg w Z b₀ (pers ad σ) L loc tmp ((d, nlv p.2.2) :: tt) s' → Q (.ref d) s') : wpAny (model prg w) A (call (.ref 147) [.ref ad.bk, .int (k : Int) t]) Q E s := by
  refine r_callP (n := 0) c B r (by k_is) (by k_is) (BindsTo.of_eq rfl) (locs rfl) (by decide) [(Str.ofString "self", .ref ad.bk), (Str.ofString "n", .int (k : Int))] ?_ ?_ ?_
  · k_extra "locs"
  · k_extra "nodup"
  intro L' fo A' s' hb' r' c'
  k_extra "go"
  exact ret _ _ (by k_extra "leave")
end
theorem endF3 : True := trivial
end
section
section
variable {w : World} {Z : Heap} {b₀ : Shared} {P P' : Pers} {L a y C : Addr} {loc loc' : List (Str × LV)} {tmp tmp' : List (Addr × G)} {tt tt' : List (Addr × List LV)} {s s' : Shared} {h' : Heap} {tk : Nat} {g g' : G}
  {A : Around} {E : Value → Shared → Prop} {env : Env} {x : Str} {pos : Pos} {Q : Value → Shared → Prop} {QU : Unit → Shared → Prop} {QF : Flow → Shared → Prop} {n : Nat} {fs : List (Str × Value)} {ad : Ad} {σ : St}
theorem wordsF4a : True := by
  k_with "spec" => ((fail_if_success (have := endF4)); ((with_reducible show wpAny _ _ (call (.ref 407) _) _ _ _); refine hfind_spec (by k_extra "cfg") (by assumption) (by k_extra "room") (by assumption) (by assumption) (by first | assumption | omega) ?_; intro _ _ _))
  k_with "spec" => ((fail_if_success (have := endF4)); ((with_reducible show wpAny _ _ (call (.ref 140) _) _ _ _); refine op_spec (by k_extra "cfg") (by assumption) (by k_extra "room") (by assumption) (by assumption) (by assumption) ?_; intro _ _ _))
  k_with "spec" => ((fail_if_success (have := endF4)); ((with_reducible show wpAny _ _ (call (.ref 147) _) _ _ _); refine kids_spec (by k_extra "cfg") (by assumption) (by k_extra "room") (by assumption) (by assumption) (by assumption) (by assumption) ?_; intro _ _ _))
  exact trivial
set_option maxHeartbeats 8000000 in
theorem node_spec {k : Nat} {t : Tok} {p : Addr × Node} (c : Cfg w Z b₀ (pers ad σ) L loc tmp tt s) (B : Base w Z) (r : Room 4 A) (fz : Froz ad Z) (hp : PW σ.parent) (hb : σ.nodes.length ≤ 64) (hk : σ.nodes[k]? = some p) (hz : p.2.2.length ≤ 100000)
    (hkids : ∀ j ∈ p.2.2, j < σ.parent.length)
    (ret : ∀ d s', Cfg w Z b₀ (pers ad σ) L loc tmp ((d, nlvs (p.2.1, p.2.2.map (root σ.parent))) :: tt) s' → Q (.ref d) s') : wpAny (model prg w) A (call (.ref 381) [.ref ad.hp, .int (k : Int) t]) Q E s := by
  refine r_callC (n := 3) (binds := [(Str.ofString "self", .ref ad.hp), (Str.ofString "n", .int (k : Int) t)]) c B r (by k_is) (by k_is) (BindsTo.of_eq rfl) (by rfl) (by decide +kernel) [(Str.ofString "n", .int (k : Int))] (fun L' => [(L' + 1, .ref ad.hp)]) ?_ ?_ ?_ ?_
  · intro L'; k_extra "locs"
  · k_extra "nodup"
  · intro L'
    exact (show All2 _ [(Str.ofString "self", L' + 1)] _ from .cons ⟨rfl, ⟨_, rfl, rfl⟩⟩ .nil)
  intro L' fo A' s' hb' r' c'
  change Cfg _ _ _ _ _ _ ((L' + 1, .cell (.ref ad.hp)) :: (L, .obj fo) :: tmp) _ _ at c'
  k_extra "go"
  refine r_LCnat p.2.2 (fun k => .int (k : Int)) (root σ.parent) nx_tup r'.h (by decide +kernel) rfl rfl ?_ (by (first | lia | omega)) ?_ ?_ (by assumption)
  · intro D fo i acc; exact .head _
  · intro C D fo i acc s k hk c
    have hkl := hkids k (List.mem_of_getElem? hk)
    k_extra "go"
    k_extra "elt"
  · intro C D fo s lv hb c
    refine post_Q ?_ hb c
    intro s' c'
    have hl := List.length_map (as := p.2.2) (root σ.parent)
    k_extra "go"
    rename_i hmem hsub _
    refine ret _ _ ?_
    k_extra "leaveM"
    intro p hp
    rcases List.mem_cons.mp hp with rfl | hp
    · exact hmem
    · exact List.mem_append_left _ (hsub _ (by k_extra "hp"))
end
theorem endF4 : True := trivial
end
section
theorem put_set {α β γ : Type} (f : α → β × γ) {x x' : α} (hf : (f x').1 = (f x).1) : ∀ (l : List α) (k : Nat), l[k]? = some x → Put (l.map f) (f x).1 (f x).2 (f x').2 ((l.set k x').map f)
  | [], k, h => by simp at h
  | y :: l, 0, h => by
    simp at h; subst h
    show Put (((f y).1, (f y).2) :: l.map f) _ _ _ (f x' :: l.map f)
    rw [show f x' = ((f y).1, (f x').2) by rw [← hf]]
    exact .head
  | y :: l, k + 1, h => .tail (put_set f hf l k (by simpa using h))
section
variable {ad : Ad} {σ : St} {tmp : List (Addr × G)} {tt : List (Addr × List LV)}
theorem refs_set {α : Type} (l : List (Addr × α)) (k : Nat) {a : Addr} {x y : α} (h : l[k]? = some (a, x)) : refs (l.set k (a, y)) = refs l := by
  unfold refs
  induction l generalizing k with
  | nil => rfl
  | cons p l ih =>
    cases k with
    | zero => simp at h; subst h; rfl
    | succ k => simp only [List.set_cons_succ, List.map_cons]; rw [ih k (by simpa using h)]
theorem habD_set (l : List (Nat × Addr × List Nat)) (k : Nat) {c : Nat} {a : Addr} {x y : List Nat} (h : l[k]? = some (c, a, x)) : habD (l.set k (c, a, y)) = habD l := by
  unfold habD
  induction l generalizing k with
  | nil => rfl
  | cons p l ih =>
    cases k with
    | zero => simp at h; subst h; rfl
    | succ k => simp only [List.set_cons_succ, List.map_cons]; rw [ih k (by simpa using h)]
theorem p_lot {k : Nat} {ak : Addr} {lk l' : List Nat} (h : σ.lots[k]? = some (ak, lk)) : Put (tmp ++ (pers ad σ).objs) ak (G.list (nlv lk)) (G.list (nlv l')) (tmp ++ (pers ad { σ with lots := σ.lots.set k (ak, l') }).objs) := by
  have e : refs (σ.lots.set k (ak, l')) = refs σ.lots := refs_set _ _ h
  have hp : Put (lotL σ.lots ++ habL σ.hab) ak (G.list (nlv lk)) (G.list (nlv l')) (lotL (σ.lots.set k (ak, l')) ++ habL σ.hab) := Put.left (put_set (fun p : Addr × List Nat => (p.1, G.list (nlv p.2))) (x := (ak, lk)) (x' := (ak, l')) rfl _ _ h) _
  unfold pers
  simp only [e]
  exact Put.right (.tail (.tail (.tail (.tail (.tail (.tail (.tail (.tail (.tail (.tail (.tail (.tail (.tail (.tail (.tail (.tail hp)))))))))))))))) _
theorem p_habl {k c : Nat} {a : Addr} {us us' : List Nat} (h : σ.hab[k]? = some (c, a, us)) : Put (tmp ++ (pers ad σ).objs) a (G.list (nlv us)) (G.list (nlv us')) (tmp ++ (pers ad { σ with hab := σ.hab.set k (c, a, us') }).objs) := by
  have e : habD (σ.hab.set k (c, a, us')) = habD σ.hab := habD_set _ _ h
  have hp : Put (lotL σ.lots ++ habL σ.hab) a (G.list (nlv us)) (G.list (nlv us')) (lotL σ.lots ++ habL (σ.hab.set k (c, a, us'))) := Put.right (put_set (fun p : Nat × Addr × List Nat => (p.2.1, G.list (nlv p.2.2))) (x := (c, a, us)) (x' := (c, a, us')) rfl _ _ h) _
  unfold pers
  simp only [e]
  exact Put.right (.tail (.tail (.tail (.tail (.tail (.tail (.tail (.tail (.tail (.tail (.tail (.tail (.tail (.tail (.tail (.tail hp)))))))))))))))) _
end
section
variable {w : World} {Z : Heap} {b₀ : Shared} {P P' : Pers} {L a : Addr} {loc : List (Str × LV)} {tmp tmp' : List (Addr × G)} {tt tt' : List (Addr × List LV)} {s : Shared} {A : Around} {E : Value → Shared → Prop} {Q : Value → Shared → Prop} {QU : Unit → Shared → Prop}
theorem fits_nat {k : Nat} (hk : k ≤ 1000000) : Builtin.List.listFitsIndex (k : Int) = true := by
  exact fitsIndex_of (by (first | lia | omega)) (by (first | lia | omega))
theorem setItem_raw {vs : Array Value} {n : Nat} {k : Int} {t : Tok} {v : Value} (hl : IsL s.heap a vs n) (h0 : 0 ≤ k) (hfit : k < 2 ^ 63) (hn : k < vs.size)
    (h : QU () { s with heap := s.heap.update a (Obj.mapSeq (·.setIfInBounds k.toNat v)) }) : wpAny (model prg w) A (setItem (.ref a) (.int k t) v) QU E s := by
  have hil : s.heap.IsList a vs := ⟨_, hl, rfl, n, rfl⟩
  unfold setItem
  try with_reducible refine wpAny_holding ?_
  first | refine wpAny_bind (wpAny_pure ?_) | skip
  refine wpAny_bind (wpAny_sequenceKey hil.typeIs (by decide) ?_)
  refine wpAny_bind (wpAny_callSpecial?_slot (name := Str.ofString "__setitem__") hil.typeIs slot_list_setitem
    (wpAny_call_entry slot_list_setitem hil.typeIs entry_list_setitem ?_ (args_list_setitem _ _ _)))
  show wpAny _ _ (Builtin.List.listSubscript? (.int k t) >>= _) _ _ s
  refine wpAny_bind (wpAny_listSubscript_int (fitsIndex_of h0 hfit) ?_)
  clear hfit
  obtain ⟨j, rfl⟩ := Int.eq_ofNat_of_zero_le h0
  have hj : j < vs.size := by (first | lia | omega)
  have hx' : vs[j]? = some vs[j] := Array.getElem?_eq_getElem hj
  show wpAny _ _ ((seqItemAt a j >>= fun r => pure (r.map (j, ·))) >>= _) _ _ s
  refine wpAny_bind (wpAny_bind (wpAny_seqItemAt hl rfl (wpAny_pure ?_)))
  rw [hx']
  show wpAny _ _ (setSeqItemAt a j v >>= _) _ _ s
  refine wpAny_bind (wpAny_setSeqItemAt hl rfl ?_)
  first
    | exact wpAny_bind (wpAny_pure (wpAny_pure ⟨.none, rfl, wpAny_pure h⟩))
    | exact wpAny_pure ⟨.none, rfl, wpAny_pure h⟩
theorem r_setItem {ls : List LV} {k : Nat} {t : Tok} {l : LV} {v : Value} (c : Cfg w Z b₀ P L loc tmp tt s) (U : Put (tmp ++ P.objs) a (.list ls) (.list (ls.set k l)) (tmp' ++ P'.objs)) (et : ∀ p ∈ tt ++ P'.tups, p ∈ tt ++ P.tups) (hv : l.is v) (hk : k < ls.length) (hz : ls.length ≤ 1000000)
    (h : ∀ s', Cfg w Z b₀ P' L loc tmp' tt s' → QU () s') : wpAny (model prg w) A (setItem (.ref a) (.int (k : Int) t) v) QU E s := by
  obtain ⟨vs, n, hl, hls⟩ := c.isL U.mem
  have hn := hls.size
  refine setItem_raw hl (by (first | lia | omega)) (by (first | lia | omega)) (by (first | lia | omega)) ?_
  rw [Int.toNat_natCast]
  exact h _ (c.chg (tk := s.toks) U et (Heap.SameBut.update s.heap a (Obj.mapSeq (·.setIfInBounds k v))).extBut ⟨_, get?_update_seq hl (·.setIfInBounds k v), _, _, rfl, by rw [Array.toList_setIfInBounds]; exact hls.set hv k⟩)
end
end
section
section
variable {w : World} {Z : Heap} {b₀ : Shared} {P P' : Pers} {L a y C : Addr} {loc loc' : List (Str × LV)} {tmp tmp' : List (Addr × G)} {tt tt' : List (Addr × List LV)} {s s' : Shared} {h' : Heap} {tk : Nat} {g g' : G}
  {A : Around} {E : Value → Shared → Prop} {env : Env} {x : Str} {pos : Pos} {Q : Value → Shared → Prop} {QU : Unit → Shared → Prop} {QF : Flow → Shared → Prop} {n : Nat} {fs : List (Str × Value)} {ad : Ad} {σ : St}
theorem r_setUab {g k : Nat} {t t' : Tok} (c : Cfg w Z b₀ (pers ad σ) L loc tmp tt s) (hg : g < σ.parent.length) (hz : σ.parent.length ≤ 1000000) (h : ∀ s', Cfg w Z b₀ (pers ad { σ with parent := σ.parent.set g k }) L loc tmp tt s' → QU () s') :
    wpAny (model prg w) A (setItem (.ref ad.uab) (.int (g : Int) t) (.int (k : Int) t')) QU E s := by
  have e : (nlv σ.parent).set g (.int (k : Int)) = nlv (σ.parent.set g k) := by simp [nlv, List.map_set]
  exact r_setItem (l := .int (k : Int)) (P' := pers ad { σ with parent := σ.parent.set g k }) c (by rw [e]; exact p_uab) (fun p hp => hp) ⟨t', rfl⟩ (by rw [nlv_len]; exact hg) (by rw [nlv_len]; exact hz) h
theorem r_extLots {k j : Nat} {ak aj : Addr} {lk lj : List Nat} (c : Cfg w Z b₀ (pers ad σ) L loc tmp tt s) (hk : σ.lots[k]? = some (ak, lk)) (hj : σ.lots[j]? = some (aj, lj)) (hz : lk.length + lj.length ≤ 1000000)
    (h : ∀ s', Cfg w Z b₀ (pers ad { σ with lots := σ.lots.set k (ak, lk ++ lj) }) L loc tmp tt s' → Q .none s') : wpAny (model prg w) A (call (.builtin "list.extend") [.ref ak, .ref aj]) Q E s := by
  have e : nlv lk ++ nlv lj = nlv (lk ++ lj) := by simp [nlv]
  exact r_extend (P' := pers ad { σ with lots := σ.lots.set k (ak, lk ++ lj) }) c (m_lot (p := (aj, lj)) (List.mem_of_getElem? hj)) (by rw [e]; exact p_lot hk) (fun p hp => hp) (by rw [nlv_len, nlv_len]; exact hz) h
theorem r_appMrg {b : Addr} (c : Cfg w Z b₀ (pers ad σ) L loc tmp tt s) (hz : σ.mrg.length ≤ 1000000) (h : ∀ s', Cfg w Z b₀ (pers ad { σ with mrg := σ.mrg ++ [.ref b] }) L loc tmp tt s' → Q .none s') :
    wpAny (model prg w) A (call (.builtin "list.append") [.ref ad.mrg, .ref b]) Q E s :=
  r_append (P' := pers ad { σ with mrg := σ.mrg ++ [.ref b] }) c p_mrg (fun p hp => hp) rfl hz h
theorem wordsF6a : True := by
  k_with "spec" => ((fail_if_success (have := endF6)); ((with_reducible show wpAny _ _ (call (.ref 308) _) _ _ _); refine find_spec (by k_extra "cfg") (by assumption) (by k_extra "room") (by assumption) (by assumption) (by first | assumption | omega) ?_; intro _ _ _))
  k_with "setI" => ((fail_if_success (have := endF6)); (refine r_setUab (by k_extra "cfg") (by first | assumption | omega) (by omega) ?_; intro _ _))
  k_with "spec" => ((fail_if_success (have := endF6)); ((with_reducible show wpAny _ _ (call (.builtin "list.extend") _) _ _ _); refine r_extLots (by k_extra "cfg") (by assumption) (by assumption) (by first | assumption | omega) ?_; intro _ _))
  k_with "spec" => ((fail_if_success (have := endF6)); ((with_reducible show wpAny _ _ (call (.builtin "list.append") _) _ _ _); refine r_appMrg (by k_extra "cfg") (by first | assumption | omega) ?_; intro _ _))
  k_with "hp2" => ((fail_if_success (have := endF6)); (first | (refine List.mem_cons_of_mem _ ?_; assumption) | assumption | (rcases List.mem_cons.mp (by assumption) with rfl | _ <;> simp [*])))
  exact trivial
set_option maxHeartbeats 8000000 in
theorem umerge_spec {i j : Nat} {t u : Tok} {ri rj : Nat} {ak ag : Addr} {lk lg : List Nat} (c : Cfg w Z b₀ (pers ad σ) L loc tmp tt s) (B : Base w Z) (r : Room 3 A) (fz : Froz ad Z) (hp : PW σ.parent) (hi : i < σ.parent.length) (hj : j < σ.parent.length)
    (ei : root σ.parent i = ri) (ej : root σ.parent j = rj) (hm : σ.mrg.length ≤ 1000000) (hll : σ.lots.length ≤ 1000000) (hlk : σ.lots[min ri rj]? = some (ak, lk)) (hlg : σ.lots[max ri rj]? = some (ag, lg)) (hz : lk.length + lg.length ≤ 1000000) (hmx : max ri rj < σ.parent.length)
    (same : ri = rj → ∀ s', Cfg w Z b₀ (pers ad σ) L loc tmp tt s' → Q .none s')
    (diff : ri ≠ rj → ∀ d m s', Cfg w Z b₀ (pers ad { σ with parent := σ.parent.set (max ri rj) (min ri rj), lots := σ.lots.set (min ri rj) (ak, lk ++ lg), mrg := σ.mrg ++ [.ref m] }) L loc tmp ((d, [.int (min ri rj : Nat), .int (max ri rj : Nat)]) :: tt) s' → Q (.ref d) s') :
    wpAny (model prg w) A (call (.ref 315) [.ref ad.un, .int (i : Int) t, .int (j : Int) u]) Q E s := by
  have hb := hp.len
  refine r_callP (n := 2) c B r (by k_is) (by k_is) (BindsTo.of_eq rfl) (locs rfl) (by decide) [(Str.ofString "self", .ref ad.un), (Str.ofString "a", .int (i : Int)), (Str.ofString "b", .int (j : Int)), (Str.ofString "kept", .unset), (Str.ofString "gone", .unset)] ?_ ?_ ?_
  · k_extra "locs"
  · k_extra "nodup"
  intro L' fo A' s' hb' r' c'
  subst ei
  subst ej
  k_extra "go"
  · exact same (by (first | lia | omega)) _ (by k_extra "leave")
  · refine diff (by (first | lia | omega)) _ ?m _ ?g
    case g =>
      k_extra "leaveM"
      intro p hp
      exact List.mem_append_left _ (by k_extra "hp2")
end
theorem endF6 : True := trivial
end
section
theorem filt_perm {β : Type} {k : Nat} {b : β} : ∀ {l : List (Nat × β)}, (l.map (·.1)).Nodup → (k, b) ∈ l → l.Perm ((k, b) :: l.filter fun p => decide (p.1 ≠ k))
  | [], _, h => by cases h
  | p :: l, hn, h => by
    rw [List.map_cons, List.nodup_cons] at hn
    by_cases hp : p.1 = k
    · have hnk : ∀ q ∈ l, q.1 ≠ k := fun q hq e => hn.1 (by rw [hp, ← e]; exact List.mem_map_of_mem hq)
      have e : p = (k, b) := by
        rcases List.mem_cons.mp h with h | h
        · exact h.symm
        · exact absurd rfl (hnk _ h)
      subst e
      have ef : l.filter (fun p => decide (p.1 ≠ k)) = l := List.filter_eq_self.mpr fun q hq => by simpa using hnk q hq
      simp only [List.filter_cons, ne_eq, not_true, decide_false, Bool.false_eq_true, if_false]
      rw [show l.filter (fun p => decide (¬ p.1 = k)) = l from ef]
    · have hm : (k, b) ∈ l := by
        rcases List.mem_cons.mp h with h | h
        · exact absurd (by rw [← h]) hp
        · exact h
      have ih := filt_perm hn.2 hm
      have ef : (p :: l).filter (fun p => decide (p.1 ≠ k)) = p :: l.filter (fun p => decide (p.1 ≠ k)) := by simp [List.filter_cons, hp]
      rw [ef]
      exact (ih.cons p).trans (List.Perm.swap ..)
theorem habD_drop (hab : List (Nat × Addr × List Nat)) (k : Nat) : dropK (habD hab) (k : Int) = habD (hab.filter fun p => decide (p.1 ≠ k)) := by
  unfold dropK habD
  rw [List.filter_map]
  congr 1
  refine List.filter_congr fun p _ => ?_
  simp only [Function.comp, ne_eq, decide_eq_decide]
  (first | lia | omega)
noncomputable def habPut (hab : List (Nat × Addr × List Nat)) (k : Nat) (D : Addr) (us : List Nat) : List (Nat × Addr × List Nat) := hab.map fun p => if p.1 = k then (k, D, us) else p
theorem habD_put (hab : List (Nat × Addr × List Nat)) (k : Nat) (D : Addr) (us : List Nat) (h : k ∈ hab.map (·.1)) : putK (habD hab) (k : Int) (.ref D) = habD (habPut hab k D us) := by
  unfold putK
  have hany : ((habD hab).any fun kv => kv.1 = (k : Int)) = true := by
    obtain ⟨p, hp, e⟩ := List.mem_map.mp h
    rw [List.any_eq_true]
    exact ⟨((p.1 : Int), .ref p.2.1), List.mem_map.mpr ⟨p, hp, rfl⟩, by simp [e]⟩
  rw [if_pos hany]
  unfold habD habPut
  rw [List.map_map, List.map_map]
  refine List.map_congr_left fun p _ => ?_
  simp only [Function.comp]
  by_cases hp : p.1 = k
  · rw [if_pos (by rw [hp]), if_pos hp, hp]
  · rw [if_neg (by (first | lia | omega)), if_neg hp]
theorem habD_look {hab : List (Nat × Addr × List Nat)} (hn : (hab.map (·.1)).Nodup) {k : Nat} {a : Addr} {us : List Nat} (hm : (k, a, us) ∈ hab) : (habD hab).lookup (k : Int) = some (.ref a) := by
  induction hab with
  | nil => cases hm
  | cons p l ih =>
    rw [List.map_cons, List.nodup_cons] at hn
    show List.lookup (k : Int) (((p.1 : Int), LV.ref p.2.1) :: habD l) = _
    rw [List.lookup_cons]
    rcases List.mem_cons.mp hm with rfl | hm
    · simp
    · have hne : p.1 ≠ k := fun e => hn.1 (by rw [e]; exact List.mem_map_of_mem (f := fun p : Nat × Addr × List Nat => p.1) hm)
      have hb : ((k : Int) == (p.1 : Int)) = false := by rw [beq_eq_false_iff_ne]; (first | lia | omega)
      rw [hb]
      exact ih hn.2 hm
section
variable {w : World} {Z : Heap} {b₀ : Shared} {P P' : Pers} {L a : Addr} {loc loc' : List (Str × LV)} {tmp tmp' : List (Addr × G)} {tt tt' : List (Addr × List LV)} {s s' : Shared} {h' : Heap}
  {A : Around} {E : Value → Shared → Prop} {Q : Value → Shared → Prop} {QU : Unit → Shared → Prop} {n : Nat} {ad : Ad} {σ : St}
theorem p_habd {l : List (Int × LV)} : Put (tmp ++ (pers ad σ).objs) ad.hab (G.dictI (habD σ.hab)) (G.dictI l) (tmp ++ ((pers ad σ).objs.take 10 ++ (ad.hab, G.dictI l) :: (pers ad σ).objs.drop 11)) :=
  Put.right (.tail (.tail (.tail (.tail (.tail (.tail (.tail (.tail (.tail (.tail .head)))))))))) _
theorem r_getHab {value slice : Expr} {k : Nat} {t : Tok} {us : List Nat} (c : Cfg w Z b₀ (pers ad σ) L loc tmp tt s) (hn : (σ.hab.map (·.1)).Nodup) (hm : (k, a, us) ∈ σ.hab) (h : ∀ s', Cfg w Z b₀ (pers ad σ) L loc tmp tt s' → Q (.ref a) s')
    (hs : subscripted slice false (.ref ad.hab) (.int (k : Int) t) = operate [.ref ad.hab, .int (k : Int) t] (getItem (.ref ad.hab) (.int (k : Int) t)) := by with_unfolding_all rfl) :
    wpAny (model prg w) A (subscriptTail value slice (.ref ad.hab) (.int (k : Int) t)) Q E s := r_getDI c m_hab (habD_look hn hm) (fun v s' hv c' => by cases hv; exact h s' c') hs
/-- the list leaves the shelf for the bench -/
theorem r_popHab {k : Nat} {t : Tok} {us : List Nat} (c : Cfg w Z b₀ (pers ad σ) L loc tmp tt s) (hn : (σ.hab.map (·.1)).Nodup) (hm : (k, a, us) ∈ σ.hab) (hz : σ.hab.length ≤ 1000000)
    (h : ∀ s', Cfg w Z b₀ (pers ad { σ with hab := σ.hab.filter fun p => decide (p.1 ≠ k) }) L loc ((a, .list (nlv us)) :: tmp) tt s' → Q (.ref a) s') : wpAny (model prg w) A (call (.builtin "dict.pop") [.ref ad.hab, .int (k : Int) t]) Q E s := by
  refine r_popDI (P' := ⟨(pers ad σ).objs.take 10 ++ (ad.hab, G.dictI (dropK (habD σ.hab) (k : Int))) :: (pers ad σ).objs.drop 11, (pers ad σ).tups⟩) (tmp' := tmp) c (habD_look hn hm) p_habd (fun p hp => hp) (by rw [habD_len]; exact hz) fun v s' hv c' => ?_
  cases hv
  refine h s' (c'.reP ?_ fun p hp => hp)
  rw [habD_drop]
  have hp := ((filt_perm hn hm).map fun p : Nat × Addr × List Nat => (p.2.1, G.list (nlv p.2.2)))
  show (((a, G.list (nlv us)) :: tmp) ++ ((pers ad { σ with hab := σ.hab.filter fun p => decide (p.1 ≠ k) }).objs)).Perm (tmp ++ ((pers ad σ).objs.take 10 ++ (ad.hab, G.dictI (habD (σ.hab.filter fun p => decide (p.1 ≠ k)))) :: (pers ad σ).objs.drop 11))
  have e1 : (pers ad { σ with hab := σ.hab.filter fun p => decide (p.1 ≠ k) }).objs = ((pers ad σ).objs.take 10 ++ (ad.hab, G.dictI (habD (σ.hab.filter fun p => decide (p.1 ≠ k)))) :: ((pers ad σ).objs.drop 11).take 5) ++ (lotL σ.lots ++ habL (σ.hab.filter fun p => decide (p.1 ≠ k))) := rfl
  have e2 : (pers ad σ).objs.take 10 ++ (ad.hab, G.dictI (habD (σ.hab.filter fun p => decide (p.1 ≠ k)))) :: (pers ad σ).objs.drop 11 = ((pers ad σ).objs.take 10 ++ (ad.hab, G.dictI (habD (σ.hab.filter fun p => decide (p.1 ≠ k)))) :: ((pers ad σ).objs.drop 11).take 5) ++ (lotL σ.lots ++ habL σ.hab) := rfl
  rw [e1, e2]
  generalize ((pers ad σ).objs.take 10 ++ (ad.hab, G.dictI (habD (σ.hab.filter fun p => decide (p.1 ≠ k)))) :: ((pers ad σ).objs.drop 11).take 5) = H
  have hp' : (habL σ.hab).Perm ((a, G.list (nlv us)) :: habL (σ.hab.filter fun p => decide (p.1 ≠ k))) := hp
  have q1 : (tmp ++ (H ++ (lotL σ.lots ++ habL σ.hab))).Perm (tmp ++ (H ++ (lotL σ.lots ++ ((a, G.list (nlv us)) :: habL (σ.hab.filter fun p => decide (p.1 ≠ k)))))) := List.Perm.append_left _ (List.Perm.append_left _ (List.Perm.append_left _ hp'))
  refine List.Perm.trans ?_ q1.symm
  have q2 : ∀ (A B : List (Addr × G)) (x : Addr × G), (x :: (A ++ B)).Perm (A ++ x :: B) := fun A B x => List.perm_middle.symm
  have := q2 (tmp ++ (H ++ lotL σ.lots)) (habL (σ.hab.filter fun p => decide (p.1 ≠ k))) (a, G.list (nlv us))
  simpa [List.append_assoc] using this
/-- a list from the bench takes another's place -/
theorem r_setHab {k : Nat} {t : Tok} {D : Addr} {us us' : List Nat} (c : Cfg w Z b₀ (pers ad σ) L loc ((D, .list (nlv us')) :: tmp) tt s) (hn : (σ.hab.map (·.1)).Nodup) (hm : (k, a, us) ∈ σ.hab) (hz : σ.hab.length ≤ 1000000)
    (h : ∀ s', Cfg w Z b₀ (pers ad { σ with hab := habPut σ.hab k D us' }) L loc tmp tt s' → QU () s') : wpAny (model prg w) A (setItem (.ref ad.hab) (.int (k : Int) t) (.ref D)) QU E s := by
  refine r_setDI (l := .ref D) (P' := ⟨(pers ad σ).objs.take 10 ++ (ad.hab, G.dictI (putK (habD σ.hab) (k : Int) (.ref D))) :: (pers ad σ).objs.drop 11, (pers ad σ).tups⟩) (tmp' := (D, .list (nlv us')) :: tmp) c p_habd (fun p hp => hp) rfl (by rw [habD_len]; exact hz) fun s' c' => ?_
  rw [habD_put _ _ _ _ (List.mem_map.mpr ⟨_, hm, rfl⟩)] at c'
  have hm' : (k, D, us') ∈ habPut σ.hab k D us' := List.mem_map.mpr ⟨_, hm, by simp⟩
  have hn' : ((habPut σ.hab k D us').map (·.1)).Nodup := by
    have e : (habPut σ.hab k D us').map (·.1) = σ.hab.map (·.1) := by
      unfold habPut
      rw [List.map_map]
      refine List.map_congr_left fun p _ => ?_
      simp only [Function.comp]
      split
      · rename_i e; exact e.symm
      · rfl
    rw [e]; exact hn
  have ef : (habPut σ.hab k D us').filter (fun p => decide (p.1 ≠ k)) = σ.hab.filter fun p => decide (p.1 ≠ k) := by
    unfold habPut
    rw [List.filter_map]
    have e1 : ((fun p : Nat × Addr × List Nat => decide (p.1 ≠ k)) ∘ fun p => if p.1 = k then (k, D, us') else p) = fun p => decide (p.1 ≠ k) := by
      funext p
      simp only [Function.comp]
      by_cases hp : p.1 = k
      · simp [hp]
      · simp [hp]
    rw [e1]
    have : ∀ l : List (Nat × Addr × List Nat), (∀ p ∈ l, p.1 ≠ k) → l.map (fun p => if p.1 = k then (k, D, us') else p) = l := fun l hl => by
      induction l with
      | nil => rfl
      | cons p l ih => rw [List.map_cons, if_neg (hl p (.head _)), ih fun q hq => hl q (.tail _ hq)]
    exact this _ fun p hp => by simpa using (List.mem_filter.mp hp).2
  have hp1 := ((filt_perm hn hm).map fun p : Nat × Addr × List Nat => (p.2.1, G.list (nlv p.2.2)))
  have hp2 := ((filt_perm hn' hm').map fun p : Nat × Addr × List Nat => (p.2.1, G.list (nlv p.2.2)))
  rw [ef] at hp2
  have hq1 : (habL σ.hab).Perm ((a, G.list (nlv us)) :: habL (σ.hab.filter fun p => decide (p.1 ≠ k))) := hp1
  have hq2 : (habL (habPut σ.hab k D us')).Perm ((D, G.list (nlv us')) :: habL (σ.hab.filter fun p => decide (p.1 ≠ k))) := hp2
  have e1 : (pers ad { σ with hab := habPut σ.hab k D us' }).objs = ((pers ad σ).objs.take 10 ++ (ad.hab, G.dictI (habD (habPut σ.hab k D us'))) :: ((pers ad σ).objs.drop 11).take 5) ++ (lotL σ.lots ++ habL (habPut σ.hab k D us')) := rfl
  have e2 : (pers ad σ).objs.take 10 ++ (ad.hab, G.dictI (habD (habPut σ.hab k D us'))) :: (pers ad σ).objs.drop 11 = ((pers ad σ).objs.take 10 ++ (ad.hab, G.dictI (habD (habPut σ.hab k D us'))) :: ((pers ad σ).objs.drop 11).take 5) ++ (lotL σ.lots ++ habL σ.hab) := rfl
  rw [e2] at c'
  generalize hH : ((pers ad σ).objs.take 10 ++ (ad.hab, G.dictI (habD (habPut σ.hab k D us'))) :: ((pers ad σ).objs.drop 11).take 5) = H at c' e1
  have c1 : Cfg w Z b₀ ⟨H ++ (lotL σ.lots ++ habL (σ.hab.filter fun p => decide (p.1 ≠ k))), (pers ad σ).tups⟩ L loc ((D, .list (nlv us')) :: (a, .list (nlv us)) :: tmp) tt s' := c'.reP (by
    refine List.Perm.cons _ ?_
    have := List.perm_middle (a := (a, G.list (nlv us))) (l₁ := tmp ++ (H ++ lotL σ.lots)) (l₂ := habL (σ.hab.filter fun p => decide (p.1 ≠ k)))
    have q1 : (tmp ++ (H ++ (lotL σ.lots ++ habL σ.hab))).Perm (tmp ++ (H ++ (lotL σ.lots ++ ((a, G.list (nlv us)) :: habL (σ.hab.filter fun p => decide (p.1 ≠ k)))))) := List.Perm.append_left _ (List.Perm.append_left _ (List.Perm.append_left _ hq1))
    refine List.Perm.trans ?_ q1.symm
    simpa [List.append_assoc] using this.symm) fun p hp => hp
  have c2 : Cfg w Z b₀ ⟨H ++ (lotL σ.lots ++ habL (σ.hab.filter fun p => decide (p.1 ≠ k))), (pers ad σ).tups⟩ L loc ((D, .list (nlv us')) :: tmp) tt s' := c1.sub (.cons_cons _ (List.sublist_cons_self _ _)) fun p hp => List.mem_append_left _ hp
  refine h s' (c2.reP ?_ fun p hp => hp)
  rw [e1]
  have := List.perm_middle (a := (D, G.list (nlv us'))) (l₁ := tmp ++ (H ++ lotL σ.lots)) (l₂ := habL (σ.hab.filter fun p => decide (p.1 ≠ k)))
  have q1 : (tmp ++ (H ++ (lotL σ.lots ++ habL (habPut σ.hab k D us')))).Perm (tmp ++ (H ++ (lotL σ.lots ++ ((D, G.list (nlv us')) :: habL (σ.hab.filter fun p => decide (p.1 ≠ k)))))) := List.Perm.append_left _ (List.Perm.append_left _ (List.Perm.append_left _ hq2))
  refine q1.trans ?_
  simpa [List.append_assoc] using this
/-- a new class's list -/
theorem r_newHab {k : Nat} {t : Tok} {D : Addr} (c : Cfg w Z b₀ (pers ad σ) L loc ((D, .list []) :: tmp) tt s) (hn : k ∉ σ.hab.map (·.1)) (hz : σ.hab.length ≤ 1000000)
    (h : ∀ s', Cfg w Z b₀ (pers ad { σ with hab := σ.hab ++ [(k, D, [])] }) L loc tmp tt s' → QU () s') : wpAny (model prg w) A (setItem (.ref ad.hab) (.int (k : Int) t) (.ref D)) QU E s := by
  refine r_setDI (l := .ref D) (P' := ⟨(pers ad σ).objs.take 10 ++ (ad.hab, G.dictI (putK (habD σ.hab) (k : Int) (.ref D))) :: (pers ad σ).objs.drop 11, (pers ad σ).tups⟩) (tmp' := (D, .list []) :: tmp) c p_habd (fun p hp => hp) rfl (by rw [habD_len]; exact hz) fun s' c' => ?_
  have e : putK (habD σ.hab) (k : Int) (.ref D) = habD (σ.hab ++ [(k, D, [])]) := by
    unfold putK
    rw [if_neg fun hany => ?_]
    · simp [habD]
    · obtain ⟨p, hp, e⟩ := List.any_eq_true.mp hany
      obtain ⟨q, hq, rfl⟩ := List.mem_map.mp hp
      exact hn (List.mem_map.mpr ⟨q, hq, by simp at e; (first | lia | omega)⟩)
  rw [e] at c'
  refine h s' (c'.reP ?_ fun p hp => hp)
  have e1 : (pers ad { σ with hab := σ.hab ++ [(k, D, [])] }).objs = ((pers ad σ).objs.take 10 ++ (ad.hab, G.dictI (habD (σ.hab ++ [(k, D, [])]))) :: ((pers ad σ).objs.drop 11).take 5) ++ (lotL σ.lots ++ habL (σ.hab ++ [(k, D, [])])) := rfl
  have e2 : (pers ad σ).objs.take 10 ++ (ad.hab, G.dictI (habD (σ.hab ++ [(k, D, [])]))) :: (pers ad σ).objs.drop 11 = ((pers ad σ).objs.take 10 ++ (ad.hab, G.dictI (habD (σ.hab ++ [(k, D, [])]))) :: ((pers ad σ).objs.drop 11).take 5) ++ (lotL σ.lots ++ habL σ.hab) := rfl
  rw [e1, e2]
  generalize ((pers ad σ).objs.take 10 ++ (ad.hab, G.dictI (habD (σ.hab ++ [(k, D, [])]))) :: ((pers ad σ).objs.drop 11).take 5) = H
  have e3 : habL (σ.hab ++ [(k, D, [])]) = habL σ.hab ++ [(D, G.list [])] := by simp [habL, nlv]
  rw [e3]
  have := List.perm_append_singleton (D, G.list []) (tmp ++ (H ++ (lotL σ.lots ++ habL σ.hab)))
  simpa [List.append_assoc] using this
theorem r_extWait {us : List Nat} (c : Cfg w Z b₀ (pers ad σ) L loc tmp tt s) (hm : (a, G.list (nlv us)) ∈ tmp ++ (pers ad σ).objs) (hz : σ.waiting.length + us.length ≤ 1000000)
    (h : ∀ s', Cfg w Z b₀ (pers ad { σ with waiting := σ.waiting ++ us }) L loc tmp tt s' → Q .none s') : wpAny (model prg w) A (call (.builtin "list.extend") [.ref ad.waiting, .ref a]) Q E s := by
  have e : nlv σ.waiting ++ nlv us = nlv (σ.waiting ++ us) := by simp [nlv]
  exact r_extend (P' := pers ad { σ with waiting := σ.waiting ++ us }) c hm (by rw [e]; exact p_waiting) (fun p hp => hp) (by rw [nlv_len, nlv_len]; exact hz) h
theorem r_appForest {n : Nat} {t : Tok} (c : Cfg w Z b₀ (pers ad σ) L loc tmp tt s) (hz : σ.forest.length ≤ 1000000) (h : ∀ s', Cfg w Z b₀ (pers ad { σ with forest := σ.forest ++ [n] }) L loc tmp tt s' → Q .none s') :
    wpAny (model prg w) A (call (.builtin "list.append") [.ref ad.forest, .int (n : Int) t]) Q E s :=
  r_append (l := .int (n : Int)) (P' := pers ad { σ with forest := σ.forest ++ [n] }) c (by rw [← nlv_snoc]; exact p_forest) (fun p hp => hp) ⟨t, rfl⟩ (by rw [nlv_len]; exact hz) h
theorem r_appEdge {i j : Nat} {d r : Addr} (c : Cfg w Z b₀ (pers ad σ) L loc tmp tt s) (hm : (d, [LV.int (i : Int), .int (j : Int), .ref r]) ∈ tt) (hz : σ.edges.length ≤ 1000000) (h : ∀ s', Cfg w Z b₀ (pers ad { σ with edges := σ.edges ++ [(d, i, j, r)] }) L loc tmp tt s' → Q .none s') :
    wpAny (model prg w) A (call (.builtin "list.append") [.ref ad.edges, .ref d]) Q E s := by
  have e : refs σ.edges ++ [LV.ref d] = refs (σ.edges ++ [(d, i, j, r)]) := by simp [refs]
  refine r_append (l := .ref d) (P' := pers ad { σ with edges := σ.edges ++ [(d, i, j, r)] }) c (by rw [e]; exact p_edges) (fun p hp => ?_) rfl (by rw [refs_len]; exact hz) h
  rcases List.mem_append.mp hp with hp | hp
  · exact List.mem_append_left _ hp
  · simp only [pers, edgeT, List.map_append, List.mem_append, List.map_cons, List.map_nil, List.mem_singleton] at hp ⊢
    rcases hp with h | h | (h | h) | h
    · exact .inr (.inl h)
    · exact .inr (.inr (.inl h))
    · exact .inr (.inr (.inr (.inl h)))
    · subst h; exact .inl hm
    · exact .inr (.inr (.inr (.inr h)))
end
end
section
section
variable {w : World} {Z : Heap} {b₀ : Shared} {P P' : Pers} {L a y C : Addr} {loc loc' : List (Str × LV)} {tmp tmp' : List (Addr × G)} {tt tt' : List (Addr × List LV)} {s s' : Shared} {h' : Heap} {tk : Nat} {g g' : G}
  {A : Around} {E : Value → Shared → Prop} {env : Env} {x : Str} {pos : Pos} {Q : Value → Shared → Prop} {QU : Unit → Shared → Prop} {QF : Flow → Shared → Prop} {n : Nat} {fs : List (Str × Value)} {ad : Ad} {σ : St}
theorem r_appForestZ {z : Int} {t : Tok} (c : Cfg w Z b₀ (pers ad σ) L loc tmp tt s) (e : z = (σ.edges.length : Int) - 1) (h1 : 1 ≤ σ.edges.length) (hz : σ.forest.length ≤ 1000000) (h : ∀ s', Cfg w Z b₀ (pers ad { σ with forest := σ.forest ++ [σ.edges.length - 1] }) L loc tmp tt s' → Q .none s') :
    wpAny (model prg w) A (call (.builtin "list.append") [.ref ad.forest, .int z t]) Q E s := by
  have e' : z = ((σ.edges.length - 1 : Nat) : Int) := by (first | lia | omega)
  subst e'
  exact r_appForest c hz h
theorem wordsF8a : True := by
  k_with "spec" => ((fail_if_success (have := endF8)); ((with_reducible show wpAny _ _ (call (.ref 315) _) _ _ _); refine umerge_spec (by k_extra "cfg") (by assumption) (by k_extra "room") (by assumption) (by assumption) (by assumption) (by assumption) (by assumption) (by assumption) (by assumption) (by assumption) (by assumption) (by assumption) (by assumption) (by assumption) ?_ ?_; intros))
  k_with "spec" => ((fail_if_success (have := endF8)); ((with_reducible show wpAny _ _ (call (.builtin "list.append") _) _ _ _); first
      | (refine r_appForestZ (by k_extra "cfg") (by rfl) (by simp) (by assumption) ?_; intro _ _)
      | (refine r_appEdge (by k_extra "cfg") (by k_extra "mem") (by first | assumption | omega | (dsimp only; omega)) ?_; intro _ _)))
  k_with "spec" => ((fail_if_success (have := endF8)); ((with_reducible show wpAny _ _ (call (.builtin "list.extend") _) _ _ _); refine r_extWait (by k_extra "cfg") (by k_extra "memP") (by assumption) ?_; intro _ _))
  k_with "spec" => ((fail_if_success (have := endF8)); ((with_reducible show wpAny _ _ (call (.builtin "dict.pop") _) _ _ _); refine r_popHab (by k_extra "cfg") (by assumption) (by assumption) (by assumption) ?_; intro _ _))
  exact trivial
theorem r_setHabA {k : Nat} {t : Tok} {D : Addr} {us u1 u2 : List Nat} (c : Cfg w Z b₀ (pers ad σ) L loc ((D, .list (nlv u1 ++ nlv u2)) :: tmp) tt s) (hn : (σ.hab.map (·.1)).Nodup) (hm : (k, a, us) ∈ σ.hab) (hz : σ.hab.length ≤ 1000000)
    (h : ∀ s', Cfg w Z b₀ (pers ad { σ with hab := habPut σ.hab k D (u1 ++ u2) }) L loc tmp tt s' → QU () s') : wpAny (model prg w) A (setItem (.ref ad.hab) (.int (k : Int) t) (.ref D)) QU E s :=
  r_setHab (us' := u1 ++ u2) (by rw [show nlv (u1 ++ u2) = nlv u1 ++ nlv u2 by simp [nlv]]; exact c) hn hm hz h
theorem wordsF8b : True := by
  k_with "subH" => ((fail_if_success (have := endF8)); (refine r_getHab (by k_extra "cfg") (by assumption) (by assumption) ?_; intro _ _))
  k_with "setI" => ((fail_if_success (have := endF8)); (refine r_setHabA (by k_extra "cfg") (by assumption) (by assumption) (by assumption) ?_; intro _ _))
  exact trivial
set_option maxHeartbeats 8000000 in
theorem join_spec {i j : Nat} {t u : Tok} {ri rj : Nat} {rs ak ag dk dg : Addr} {lk lg uk ug : List Nat} (c : Cfg w Z b₀ (pers ad σ) L loc tmp tt s) (B : Base w Z) (r : Room 4 A) (fz : Froz ad Z) (hp : PW σ.parent) (hi : i < σ.parent.length) (hj : j < σ.parent.length)
    (ei : root σ.parent i = ri) (ej : root σ.parent j = rj) (hm : σ.mrg.length ≤ 1000000) (hll : σ.lots.length ≤ 1000000) (hlk : σ.lots[min ri rj]? = some (ak, lk)) (hlg : σ.lots[max ri rj]? = some (ag, lg)) (hz : lk.length + lg.length ≤ 1000000) (hmx : max ri rj < σ.parent.length)
    (he : σ.edges.length ≤ 100000) (hfo : σ.forest.length ≤ 1000000) (hn : (σ.hab.map (·.1)).Nodup) (hhk : (min ri rj, dk, uk) ∈ σ.hab) (hhg : (max ri rj, dg, ug) ∈ σ.hab) (hhl : σ.hab.length ≤ 1000000) (hw : σ.waiting.length + ug.length ≤ 1000000) (hu : uk.length + ug.length ≤ 1000000)
    (same : ri = rj → ∀ e s', Cfg w Z b₀ (pers ad { σ with edges := σ.edges ++ [(e, i, j, rs)] }) L loc tmp tt s' → Q (.bool false) s')
    (diff : ri ≠ rj → ∀ e m D s', Cfg w Z b₀ (pers ad { σ with edges := σ.edges ++ [(e, i, j, rs)], parent := σ.parent.set (max ri rj) (min ri rj), lots := σ.lots.set (min ri rj) (ak, lk ++ lg), mrg := σ.mrg ++ [.ref m], forest := σ.forest ++ [(σ.edges ++ [(e, i, j, rs)]).length - 1], waiting := σ.waiting ++ ug, hab := habPut (σ.hab.filter fun p => decide (p.1 ≠ max ri rj)) (min ri rj) D (uk ++ ug) }) L loc tmp tt s' → Q (.bool true) s') :
    wpAny (model prg w) A (call (.ref 428) [.ref ad.hp, .int (i : Int) t, .int (j : Int) u, .ref rs]) Q E s := by
  have hb := hp.len
  refine r_callP (n := 3) c B r (by k_is) (by k_is) (BindsTo.of_eq rfl) (locs rfl) (by decide) [(Str.ofString "self", .ref ad.hp), (Str.ofString "a", .int (i : Int)), (Str.ofString "b", .int (j : Int)), (Str.ofString "reason", .ref rs), (Str.ofString "merged", .unset), (Str.ofString "kept", .unset), (Str.ofString "gone", .unset)] ?_ ?_ ?_
  · k_extra "locs"
  · k_extra "nodup"
  intro L' fo A' s' hb' r' c'
  have hhl2 : (σ.hab.filter fun p => decide (p.1 ≠ max ri rj)).length ≤ 1000000 := Nat.le_trans (List.length_filter_le ..) hhl
  have hn2 : ((σ.hab.filter fun p => decide (p.1 ≠ max ri rj)).map (·.1)).Nodup := List.Nodup.sublist ((List.filter_sublist ..).map _) hn
  k_extra "go"
  · exact same (by assumption) _ _ (by k_extra "leave")
  · intro hne d m s1 c1
    have hhk2 : (min ri rj, dk, uk) ∈ σ.hab.filter fun p => decide (p.1 ≠ max ri rj) := List.mem_filter.mpr ⟨hhk, by simp; (first | lia | omega)⟩
    k_extra "go"
    refine diff hne ?e ?m ?D _ ?g
    case g => k_extra "leave"
end
theorem endF8 : True := trivial
end
section
theorem lookT_some {ks : List (Node × Addr × Nat)} {nd : Node} {l : LV} (h : lookT (dT ks) (nkey nd) = some l) : ∃ p ∈ ks, p.1 = nd ∧ l = .int (p.2.2 : Int) := by
  unfold lookT dT at h
  obtain ⟨x, hx, rfl⟩ := Option.map_eq_some_iff.mp h
  have hm := List.mem_of_find?_eq_some hx
  have hp := List.find?_some hx
  obtain ⟨p, hp1, rfl⟩ := List.mem_map.mp hm
  exact ⟨p, hp1, nkey_inj (by simpa using hp), rfl⟩
theorem lookT_none {ks : List (Node × Addr × Nat)} {nd : Node} (h : lookT (dT ks) (nkey nd) = none) : ∀ p ∈ ks, p.1 ≠ nd := by
  unfold lookT dT at h
  intro p hp e
  have := List.find?_eq_none.mp (Option.map_eq_none_iff.mp h) _ (List.mem_map.mpr ⟨p, hp, rfl⟩)
  simp [e] at this
theorem lookT_of_none {ks : List (Node × Addr × Nat)} {nd : Node} (h : ∀ p ∈ ks, p.1 ≠ nd) : lookT (dT ks) (nkey nd) = none := by
  unfold lookT dT
  rw [Option.map_eq_none_iff, List.find?_eq_none]
  intro x hx
  obtain ⟨p, hp, rfl⟩ := List.mem_map.mp hx
  simpa using fun e => h p hp (nkey_inj e)
section
variable {w : World} {Z : Heap} {b₀ : Shared} {P P' : Pers} {L a y C : Addr} {loc loc' : List (Str × LV)} {tmp tmp' : List (Addr × G)} {tt tt' : List (Addr × List LV)} {s s' : Shared} {h' : Heap} {tk : Nat} {g g' : G}
  {A : Around} {E : Value → Shared → Prop} {env : Env} {x : Str} {pos : Pos} {Q : Value → Shared → Prop} {QU : Unit → Shared → Prop} {QF : Flow → Shared → Prop} {n : Nat} {fs : List (Str × Value)} {ad : Ad} {σ : St}
theorem known_tups : ∀ x ∈ dT σ.known, (x.2.1, x.1.map Atom.lv) ∈ tt ++ (pers ad σ).tups := fun x hx => by
  obtain ⟨p, hp, rfl⟩ := List.mem_map.mp hx
  show (p.2.1, (nkey p.1).map Atom.lv) ∈ _
  rw [nkey_lv]; exact t_known hp
theorem number_tups : ∀ x ∈ dT σ.numbers, (x.2.1, x.1.map Atom.lv) ∈ tt ++ (pers ad σ).tups := fun x hx => by
  obtain ⟨p, hp, rfl⟩ := List.mem_map.mp hx
  show (p.2.1, (nkey p.1).map Atom.lv) ∈ _
  rw [nkey_lv]; exact t_number hp
theorem r_sdKnown {nd : Node} {d : Addr} {k : Nat} {t : Tok} (c : Cfg w Z b₀ (pers ad σ) L loc tmp tt s) (B : Base w Z) (r : Room (n + 1) A) (hd : (d, nlvs nd) ∈ tt) (hz : σ.known.length ≤ 1000000)
    (hold : ∀ p ∈ σ.known, p.1 = nd → ∀ t' s', Cfg w Z b₀ (pers ad σ) L loc tmp tt s' → Q (.int (p.2.2 : Int) t') s')
    (hnew : (∀ p ∈ σ.known, p.1 ≠ nd) → ∀ s', Cfg w Z b₀ (pers ad { σ with known := σ.known ++ [(nd, d, k)] }) L loc tmp tt s' → Q (.int (k : Int) t) s') : wpAny (model prg w) A (call (.builtin "dict.setdefault") [.ref ad.known, .ref d, .int (k : Int) t]) Q E s := by
  have e : dT σ.known ++ [(nkey nd, d, LV.int (k : Int))] = dT (σ.known ++ [(nd, d, k)]) := by simp [dT]
  refine r_sdDT (l := .int (k : Int)) (k := nkey nd) (P' := pers ad { σ with known := σ.known ++ [(nd, d, k)] }) (tmp' := tmp) c B r known_tups (List.mem_append_left _ (by rw [nkey_lv]; exact hd)) (by rw [e]; exact p_known) (fun p hp => ?_) ⟨t, rfl⟩ (by rw [dT_len]; exact hz)
    (fun l' v' s' hl hv c' => ?_) fun hl s' c' => hnew (lookT_none hl) s' c'
  · rcases List.mem_append.mp hp with hp | hp
    · exact List.mem_append_left _ hp
    · simp only [pers, keyT, List.map_append, List.mem_append, List.map_cons, List.map_nil, List.mem_singleton] at hp ⊢
      rcases hp with h | h | h | (h | h) | h
      · exact .inr (.inl h)
      · exact .inr (.inr (.inl h))
      · exact .inr (.inr (.inr (.inl h)))
      · exact .inr (.inr (.inr (.inr (.inl h))))
      · subst h; exact .inl hd
      · exact .inr (.inr (.inr (.inr (.inr h))))
  · obtain ⟨p, hp, e1, rfl⟩ := lookT_some hl
    obtain ⟨t', rfl⟩ := hv
    exact hold p hp e1 t' s' c'
end
end
section
section
variable {w : World} {Z : Heap} {b₀ : Shared} {P P' : Pers} {L a y C : Addr} {loc loc' : List (Str × LV)} {tmp tmp' : List (Addr × G)} {tt tt' : List (Addr × List LV)} {s s' : Shared} {h' : Heap} {tk : Nat} {g g' : G}
  {A : Around} {E : Value → Shared → Prop} {env : Env} {x : Str} {pos : Pos} {Q : Value → Shared → Prop} {QU : Unit → Shared → Prop} {QF : Flow → Shared → Prop} {n : Nat} {fs : List (Str × Value)} {ad : Ad} {σ : St}
theorem r_appUab {n : Nat} {t : Tok} (c : Cfg w Z b₀ (pers ad σ) L loc tmp tt s) (hz : σ.parent.length ≤ 1000000) (h : ∀ s', Cfg w Z b₀ (pers ad { σ with parent := σ.parent ++ [n] }) L loc tmp tt s' → Q .none s') :
    wpAny (model prg w) A (call (.builtin "list.append") [.ref ad.uab, .int (n : Int) t]) Q E s :=
  r_append (l := .int (n : Int)) (P' := pers ad { σ with parent := σ.parent ++ [n] }) c (by rw [← nlv_snoc]; exact p_uab) (fun p hp => hp) ⟨t, rfl⟩ (by rw [nlv_len]; exact hz) h
theorem r_appLots {n : Nat} {D : Addr} (c : Cfg w Z b₀ (pers ad σ) L loc ((D, .list [.int (n : Int)]) :: tmp) tt s) (hz : σ.lots.length ≤ 1000000) (h : ∀ s', Cfg w Z b₀ (pers ad { σ with lots := σ.lots ++ [(D, [n])] }) L loc tmp tt s' → Q .none s') :
    wpAny (model prg w) A (call (.builtin "list.append") [.ref ad.lots, .ref D]) Q E s := by
  have e : refs σ.lots ++ [LV.ref D] = refs (σ.lots ++ [(D, [n])]) := by simp [refs]
  have hp : Put (((D, G.list [.int (n : Int)]) :: tmp) ++ (pers ad σ).objs) ad.lots (G.list (refs σ.lots)) (G.list (refs σ.lots ++ [LV.ref D])) (((D, G.list [.int (n : Int)]) :: tmp) ++ ((pers ad σ).objs.take 5 ++ (ad.lots, G.list (refs (σ.lots ++ [(D, [n])]))) :: (pers ad σ).objs.drop 6)) := by
    rw [e]; exact Put.right (.tail (.tail (.tail (.tail (.tail .head))))) _
  refine r_append (l := .ref D) (tmp' := (D, G.list [.int (n : Int)]) :: tmp) (P' := ⟨(pers ad σ).objs.take 5 ++ (ad.lots, G.list (refs (σ.lots ++ [(D, [n])]))) :: (pers ad σ).objs.drop 6, (pers ad σ).tups⟩) c hp (fun p hp => hp) rfl (by rw [refs_len]; exact hz) fun s' c' => h s' (c'.reP ?_ fun p hp => hp)
  have e1 : (pers ad { σ with lots := σ.lots ++ [(D, [n])] }).objs = ((pers ad σ).objs.take 5 ++ (ad.lots, G.list (refs (σ.lots ++ [(D, [n])]))) :: ((pers ad σ).objs.drop 6).take 10) ++ (lotL (σ.lots ++ [(D, [n])]) ++ habL σ.hab) := rfl
  have e2 : (pers ad σ).objs.take 5 ++ (ad.lots, G.list (refs (σ.lots ++ [(D, [n])]))) :: (pers ad σ).objs.drop 6 = ((pers ad σ).objs.take 5 ++ (ad.lots, G.list (refs (σ.lots ++ [(D, [n])]))) :: ((pers ad σ).objs.drop 6).take 10) ++ (lotL σ.lots ++ habL σ.hab) := rfl
  show (tmp ++ (pers ad { σ with lots := σ.lots ++ [(D, [n])] }).objs).Perm (((D, G.list [.int (n : Int)]) :: tmp) ++ _)
  rw [e1]
  show List.Perm _ (((D, G.list [.int (n : Int)]) :: tmp) ++ ((pers ad σ).objs.take 5 ++ (ad.lots, G.list (refs (σ.lots ++ [(D, [n])]))) :: (pers ad σ).objs.drop 6))
  rw [e2]
  generalize ((pers ad σ).objs.take 5 ++ (ad.lots, G.list (refs (σ.lots ++ [(D, [n])]))) :: ((pers ad σ).objs.drop 6).take 10) = H
  have e3 : lotL (σ.lots ++ [(D, [n])]) = lotL σ.lots ++ [(D, G.list [.int (n : Int)])] := by simp [lotL, nlv]
  rw [e3]
  have := List.perm_middle (a := (D, G.list [LV.int (n : Int)])) (l₁ := tmp ++ (H ++ lotL σ.lots)) (l₂ := habL σ.hab)
  simpa [List.append_assoc] using this
theorem wordsF10a : True := by
  k_with "spec" => ((fail_if_success (have := endF10)); ((with_reducible show wpAny _ _ (call (.builtin "list.append") _) _ _ _); first
      | (refine r_appUab (by k_extra "cfg") (by first | assumption | omega) ?_; intro _ _)
      | (refine r_appLots (by k_extra "cfg") (by first | assumption | omega) ?_; intro _ _)))
  exact trivial
set_option maxHeartbeats 8000000 in
theorem make_spec (c : Cfg w Z b₀ (pers ad σ) L loc tmp tt s) (B : Base w Z) (r : Room 2 A) (fz : Froz ad Z) (hb : σ.parent.length ≤ 64) (hl : σ.lots.length ≤ 1000000)
    (ret : ∀ D z t s', Cfg w Z b₀ (pers ad { σ with parent := σ.parent ++ [σ.parent.length], lots := σ.lots ++ [(D, [σ.lots.length])] }) L loc tmp tt s' → Q (.int z t) s') :
    wpAny (model prg w) A (call (.ref 294) [.ref ad.un]) Q E s := by
  refine r_callP (n := 1) c B r (by k_is) (by k_is) (BindsTo.of_eq rfl) (locs rfl) (by decide) [(Str.ofString "self", .ref ad.un)] ?_ ?_ ?_
  · k_extra "locs"
  · k_extra "nodup"
  intro L' fo A' s' hb' r' c'
  k_extra "go"
  refine ret ?D _ _ _ ?g
  case g =>
    k_extra "leave"
end
theorem endF10 : True := trivial
end
section
section
variable {w : World} {Z : Heap} {b₀ : Shared} {P P' : Pers} {L a y C : Addr} {loc loc' : List (Str × LV)} {tmp tmp' : List (Addr × G)} {tt tt' : List (Addr × List LV)} {s s' : Shared} {h' : Heap} {tk : Nat} {g g' : G}
  {A : Around} {E : Value → Shared → Prop} {env : Env} {x : Str} {pos : Pos} {Q : Value → Shared → Prop} {QU : Unit → Shared → Prop} {QF : Flow → Shared → Prop} {n : Nat} {fs : List (Str × Value)} {ad : Ad} {σ : St}
theorem Cfg.leave1 {fo : Obj} {L₂ : Addr} {loc₂ : List (Str × LV)} {p : Addr × G} {l : List (Addr × G)} {tt₂ : List (Addr × List LV)} (B : Back w Z b₀ L loc fo) (c : Cfg w Z b₀ P L₂ loc₂ (p :: l) tt₂ s) (h : Lv L fo tmp l) (ht : ∀ p ∈ tt, p ∈ tt₂ ++ P.tups) : Cfg w Z b₀ P L loc (p :: tmp) tt s := by
  obtain ⟨pre, rfl⟩ := h.split
  exact (B _ _ _ (p :: pre) _ _ _ c).sub (.cons_cons _ (List.sublist_append_right _ _)) ht
theorem wordsF11a : True := by
  k_with "leave1" => ((fail_if_success (have := endF11)); (refine Cfg.leave1 (by assumption) (by k_extra "cfg") (by k_extra "lv") (by (intro p hp; refine List.mem_append_left _ ?_; k_extra "hp"))))
  k_with "spec" => ((fail_if_success (have := endF11)); ((with_reducible show wpAny _ _ (call (.ref 407) _) _ _ _); refine hfind_spec (by k_extra "cfg") (by assumption) (by k_extra "room") (by assumption) (by assumption) (by first | assumption | omega) ?_; intro _ _ _))
  k_with "subH" => ((fail_if_success (have := endF11)); (refine r_getHab (by k_extra "cfg") (by assumption) (by assumption) ?_; intro _ _))
  exact trivial
set_option maxHeartbeats 8000000 in
theorem users_spec {k : Nat} {t : Tok} {us : List Nat} (c : Cfg w Z b₀ (pers ad σ) L loc tmp tt s) (B : Base w Z) (r : Room 4 A) (fz : Froz ad Z) (hp : PW σ.parent) (hk : k < σ.parent.length) (hn : (σ.hab.map (·.1)).Nodup) (hm : (root σ.parent k, a, us) ∈ σ.hab)
    (hu : us.length + 1 < scanBound) (h64 : (setOf (toI us)).length < 64)
    (ret : ∀ D s', Cfg w Z b₀ (pers ad σ) L loc ((D, .list ((sortI (setOf (toI us))).map .int)) :: tmp) tt s' → Q (.ref D) s') :
    wpAny (model prg w) A (call (.ref 480) [.ref ad.hp, .int (k : Int) t]) Q E s := by
  refine r_callP (n := 3) c B r (by k_is) (by k_is) (BindsTo.of_eq rfl) (locs rfl) (by decide) [(Str.ofString "self", .ref ad.hp), (Str.ofString "c", .int (k : Int))] ?_ ?_ ?_
  · k_extra "locs"
  · k_extra "nodup"
  intro L' fo A' s' hb' r' c'
  k_extra "go"
  exact ret _ _ (by k_extra "leave1")
end
theorem endF11 : True := trivial
end
section
section
variable {w : World} {Z : Heap} {b₀ : Shared} {P P' : Pers} {L a y C : Addr} {loc loc' : List (Str × LV)} {tmp tmp' : List (Addr × G)} {tt tt' : List (Addr × List LV)} {s s' : Shared} {h' : Heap} {tk : Nat} {g g' : G}
  {A : Around} {E : Value → Shared → Prop} {env : Env} {x : Str} {pos : Pos} {Q : Value → Shared → Prop} {QU : Unit → Shared → Prop} {QF : Flow → Shared → Prop} {n : Nat} {fs : List (Str × Value)} {ad : Ad} {σ : St}
theorem stick_keys {c : Addr} {n : Nat} : ((stickD c n).map (·.1)).Nodup := by show [Str.ofString "cells", Str.ofString "spot"].Nodup; decide +kernel
theorem r_stSpot {value slice : Expr} {t : Tok} (c : Cfg w Z b₀ (pers ad σ) L loc tmp tt s) (h : ∀ t s', Cfg w Z b₀ (pers ad σ) L loc tmp tt s' → Q (.int (σ.spot : Int) t) s')
    (hs : subscripted slice false (.ref ad.stick) (.str (Str.ofString "spot") t) = operate [.ref ad.stick, .str (Str.ofString "spot") t] (getItem (.ref ad.stick) (.str (Str.ofString "spot") t)) := by with_unfolding_all rfl) :
    wpAny (model prg w) A (subscriptTail value slice (.ref ad.stick) (.str (Str.ofString "spot") t)) Q E s := r_getDS c m_stick (.tail _ (.head _)) stick_keys (fun v s' hv c' => by obtain ⟨t, rfl⟩ := hv; exact h t s' c') hs
theorem r_stCells {value slice : Expr} {t : Tok} (c : Cfg w Z b₀ (pers ad σ) L loc tmp tt s) (h : ∀ s', Cfg w Z b₀ (pers ad σ) L loc tmp tt s' → Q (.ref ad.cells) s')
    (hs : subscripted slice false (.ref ad.stick) (.str (Str.ofString "cells") t) = operate [.ref ad.stick, .str (Str.ofString "cells") t] (getItem (.ref ad.stick) (.str (Str.ofString "cells") t)) := by with_unfolding_all rfl) :
    wpAny (model prg w) A (subscriptTail value slice (.ref ad.stick) (.str (Str.ofString "cells") t)) Q E s := r_getDS c m_stick (.head _) stick_keys (fun v s' hv c' => by cases hv; exact h s' c') hs
theorem stick_put (cells : Addr) (n k : Nat) : putK (stickD cells n) (Str.ofString "spot") (.int (k : Int)) = stickD cells k := by
  have h1 : ¬ (Str.ofString "cells" = Str.ofString "spot") := by decide +kernel
  simp [putK, stickD, h1]
theorem r_setSpot {k : Nat} {z : Int} {t t' : Tok} (c : Cfg w Z b₀ (pers ad σ) L loc tmp tt s) (e : z = (k : Int)) (h : ∀ s', Cfg w Z b₀ (pers ad { σ with spot := k }) L loc tmp tt s' → QU () s') :
    wpAny (model prg w) A (setItem (.ref ad.stick) (.str (Str.ofString "spot") t) (.int z t')) QU E s := by
  subst e
  exact r_setDS (l := .int (k : Int)) (P' := pers ad { σ with spot := k }) c (by rw [stick_put]; exact p_stick) (fun p hp => hp) ⟨t', rfl⟩ (by simp [stickD]) h
theorem wordsF12a : True := by
  k_with "subscriptTail" => ((fail_if_success (have := endF12)); ((with_reducible show wpAny _ _ (subscriptTail _ _ _ (.str _ _)) _ _ _); first
      | (refine r_stSpot (by k_extra "cfg") ?_; intro _ _ _)
      | (refine r_stCells (by k_extra "cfg") ?_; intro _ _)))
  k_with "setI" => ((fail_if_success (have := endF12)); (refine r_setSpot (by k_extra "cfg") (by exact (Int.natCast_succ _).symm) ?_; intro _ _))
  exact trivial
theorem fmod_nat (z : Int) {m : Nat} (h : 0 < m) : ∃ v : Nat, v < m ∧ z.fmod (m : Int) = (v : Int) := by
  have h1 := Int.fmod_nonneg_of_pos z (show (0 : Int) < m by omega)
  have h2 := Int.fmod_lt_of_pos z (show (0 : Int) < m by omega)
  exact ⟨(z.fmod m).toNat, by omega, by omega⟩
set_option maxHeartbeats 8000000 in
theorem notch_spec {m : Nat} {t : Tok} (c : Cfg w Z b₀ (pers ad σ) L loc tmp tt s) (B : Base w Z) (r : Room 2 A) (hm : 0 < m) (hs : σ.spot ≤ 100000) (hc : σ.cells.length ≤ 100000)
    (ret : ∀ v t' s', v < m → Cfg w Z b₀ (pers ad { σ with spot := σ.spot + 1 }) L loc tmp tt s' → Q (.int (v : Nat) t') s') :
    wpAny (model prg w) A (call (.ref 494) [.ref ad.stick, .int (m : Int) t]) Q E s := by
  refine r_callP (n := 1) c B r (by k_is) (by k_is) (BindsTo.of_eq rfl) (locs rfl) (by decide) [(Str.ofString "stick", .ref ad.stick), (Str.ofString "many", .int (m : Int)), (Str.ofString "spot", .unset)] ?_ ?_ ?_
  · k_extra "locs"
  · k_extra "nodup"
  intro L' fo A' s' hb' r' c'
  k_extra "go"
  · dsimp only at *
    have hlt : σ.spot < σ.cells.length := by omega
    refine' r_itemInt (ns := σ.cells) ?c ?m hlt (by omega) fun t => ?_
    case c => k_extra "cfg"
    case m => exact m_cells
    k_extra "go"
    obtain ⟨v, hv, e⟩ := fmod_nat (σ.cells.getD σ.spot 0) hm
    dsimp only [retOf]
    rw [e]
    exact ret v _ _ hv (by k_extra "leave")
  · dsimp only [retOf]
    obtain ⟨v, hv, e⟩ := fmod_nat ((5 * (σ.spot : Int) * σ.spot + 8 * σ.spot + 2 * σ.cells.length + 2).fmod 73) hm
    rw [e]
    exact ret v _ _ hv (by k_extra "leave")
end
theorem endF12 : True := trivial
end
section
/-- what the numbers and the told likenesses force -/
inductive Cong (nds : List Node) (prs : List (Nat × Nat)) : Nat → Nat → Prop
  | refl (i : Nat) : Cong nds prs i i
  | symm {i j : Nat} : Cong nds prs i j → Cong nds prs j i
  | trans {i j k : Nat} : Cong nds prs i j → Cong nds prs j k → Cong nds prs i k
  | told {i j : Nat} : (i, j) ∈ prs → Cong nds prs i j
  | cong {i j : Nat} {x y : Node} : nds[i]? = some x → nds[j]? = some y → x.1 = y.1 → x.2.length = y.2.length → (∀ m : Nat, Cong nds prs (x.2.getD m 0) (y.2.getD m 0)) → Cong nds prs i j
noncomputable def canon (f : Nat → Nat) (x : Node) : Node := (x.1, x.2.map f)

theorem map_eq_of_getD {f : Nat → Nat} {a b : List Nat} (hl : a.length = b.length) (h : ∀ m : Nat, f (a.getD m 0) = f (b.getD m 0)) : a.map f = b.map f := by
  apply List.ext_getElem (by simpa using hl)
  intro m h1 h2
  simp only [List.length_map] at h1 h2
  have := h m
  simpa [List.getD, List.getElem?_eq_getElem h1, List.getElem?_eq_getElem h2] using this
theorem Cong.closed {nds : List Node} {prs : List (Nat × Nat)} {f : Nat → Nat} (ht : ∀ q ∈ prs, f q.1 = f q.2) (hc : ∀ (i j : Nat) (x y : Node), nds[i]? = some x → nds[j]? = some y → canon f x = canon f y → f i = f j) {i j : Nat} (h : Cong nds prs i j) : f i = f j := by
  induction h with
  | refl => rfl
  | symm _ ih => exact ih.symm
  | trans _ _ ih1 ih2 => exact ih1.trans ih2
  | told hm => exact ht _ hm
  | cong hi hj e hl _ ih => exact hc _ _ _ _ hi hj (by unfold canon; rw [e, map_eq_of_getD hl ih])
theorem Cong.of_canon {nds : List Node} {prs : List (Nat × Nat)} {f : Nat → Nat} {i j : Nat} {x y : Node} (hs : ∀ k < nds.length, Cong nds prs k (f k)) (hi : nds[i]? = some x) (hj : nds[j]? = some y) (hx : ∀ k ∈ x.2, k < nds.length) (hy : ∀ k ∈ y.2, k < nds.length)
    (e : canon f x = canon f y) : Cong nds prs i j := by
  simp only [canon, Prod.mk.injEq] at e
  have hl : x.2.length = y.2.length := by have := congrArg List.length e.2; simpa using this
  refine .cong hi hj e.1 hl fun m => ?_
  by_cases hm : m < x.2.length
  · have hm' : m < y.2.length := by (first | lia | omega)
    have e1 : f (x.2.getD m 0) = f (y.2.getD m 0) := by
      have := congrArg (fun l => l[m]?) e.2
      simpa [List.getElem?_eq_getElem hm, List.getElem?_eq_getElem hm', List.getD] using this
    have mx : x.2.getD m 0 ∈ x.2 := by simp [List.getD, List.getElem?_eq_getElem hm]
    have my : y.2.getD m 0 ∈ y.2 := by simp [List.getD, List.getElem?_eq_getElem hm']
    exact (hs _ (hx _ mx)).trans (e1 ▸ (hs _ (hy _ my)).symm)
  · have : x.2.getD m 0 = y.2.getD m 0 := by simp [List.getD, List.getElem?_eq_none (Nat.le_of_not_lt hm), List.getElem?_eq_none (show y.2.length ≤ m by (first | lia | omega))]
    rw [this]; exact .refl _
theorem Cong.mono {nds nds' : List Node} {prs prs' : List (Nat × Nat)} (hn : ∀ (i : Nat) (x : Node), nds[i]? = some x → nds'[i]? = some x) (hp : ∀ q ∈ prs, q ∈ prs') {i j : Nat} (h : Cong nds prs i j) : Cong nds' prs' i j := by
  induction h with
  | refl => exact .refl _
  | symm _ ih => exact .symm ih
  | trans _ _ ih1 ih2 => exact .trans ih1 ih2
  | told hm => exact .told (hp _ hm)
  | cong hi hj e hl _ ih => exact .cong (hn _ _ hi) (hn _ _ hj) e hl ih
/-- two ways to name each class by its least are one -/
theorem least_eq {nds : List Node} {prs : List (Nat × Nat)} {f g : Nat → Nat} {N : Nat} (hf : ∀ i < N, f i ≤ i) (hg : ∀ i < N, g i ≤ i) (sf : ∀ i < N, Cong nds prs i (f i)) (sg : ∀ i < N, Cong nds prs i (g i))
    (cf : ∀ i j, Cong nds prs i j → f i = f j) (cg : ∀ i j, Cong nds prs i j → g i = g j) : ∀ i < N, f i = g i := fun i hi => by
  have h1 := cg _ _ (sf i hi)
  have h2 := cf _ _ (sg i hi)
  have h3 := hg (f i) (Nat.lt_of_le_of_lt (hf i hi) hi)
  have h4 := hf (g i) (Nat.lt_of_le_of_lt (hg i hi) hi)
  (first | lia | omega)

theorem getD_set (p : List Nat) (a b k : Nat) (ha : a < p.length) : (p.set a b).getD k 0 = if k = a then b else p.getD k 0 := by
  simp only [List.getD, List.getElem?_set]
  by_cases h : a = k
  · subst h; simp [ha]
  · rw [if_neg h, if_neg (fun e => h e.symm)]
theorem root_set {p : List Nat} {kept gone : Nat} (hf : Falls p) (hg : p.getD gone 0 = gone) (hk : p.getD kept 0 = kept) (hlt : kept < gone) (hb : gone < p.length) (k : Nat) :
    root (p.set gone kept) k = if root p k = gone then kept else root p k := by
  induction k using Nat.strongRecOn with
  | ind k ih =>
    have e := getD_set p gone kept k hb
    have ek := getD_set p gone kept kept hb
    rw [if_neg (by (first | lia | omega))] at ek
    by_cases h1 : k = gone
    · subst h1
      rw [if_pos rfl] at e
      rw [root_up (p := p.set k kept) (by (first | lia | omega)), e, root_at (p := p.set k kept) (a := kept) (by (first | lia | omega)), root_at hg, if_pos rfl]
    · rw [if_neg h1] at e
      by_cases h2 : p.getD k 0 < k
      · rw [root_up (p := p.set gone kept) (by (first | lia | omega)), e, ih _ h2, root_up h2]
      · have h3 : p.getD k 0 = k := by have := hf k; (first | lia | omega)
        rw [root_at (p := p.set gone kept) (by (first | lia | omega)), root_at h3, if_neg h1]
theorem falls_set {p : List Nat} {kept gone : Nat} (hf : Falls p) (hlt : kept < gone) (hb : gone < p.length) : Falls (p.set gone kept) := fun i => by
  rw [getD_set p gone kept i hb]
  split
  · (first | lia | omega)
  · exact hf i
theorem root_snoc {p : List Nat} {n : Nat} (hf : Falls p) (k : Nat) (hk : k < p.length) : root (p ++ [n]) k = root p k := by
  induction k using Nat.strongRecOn with
  | ind k ih =>
    have e : (p ++ [n]).getD k 0 = p.getD k 0 := by simp [List.getD, List.getElem?_append_left hk]
    by_cases h2 : p.getD k 0 < k
    · rw [root_up (p := p ++ [n]) (by (first | lia | omega)), e, ih _ h2 (by (first | lia | omega)), root_up h2]
    · have h3 : p.getD k 0 = k := by have := hf k; (first | lia | omega)
      rw [root_at (p := p ++ [n]) (by (first | lia | omega)), root_at h3]
theorem getD_snoc (p : List Nat) (k : Nat) : (p ++ [p.length]).getD k 0 = if k = p.length then k else p.getD k 0 := by
  by_cases h : k < p.length
  · simp [List.getD, List.getElem?_append_left h, show ¬ k = p.length by (first | lia | omega)]
  · by_cases h2 : k = p.length
    · subst h2; simp [List.getD]
    · rw [if_neg h2]
      simp [List.getD, List.getElem?_eq_none (show p.length ≤ k by (first | lia | omega)), List.getElem?_eq_none (show (p ++ [p.length]).length ≤ k by simp; (first | lia | omega))]
theorem falls_snoc {p : List Nat} (hf : Falls p) : Falls (p ++ [p.length]) := fun i => by
  rw [getD_snoc]; split
  · (first | lia | omega)
  · exact hf i
theorem root_new {p : List Nat} : root (p ++ [p.length]) p.length = p.length := root_at (by rw [getD_snoc, if_pos rfl])
theorem root_lt {p : List Nat} {k n : Nat} (h : k < n) : root p k < n := Nat.lt_of_le_of_lt (root_le k) h

noncomputable def nds (σ : St) : List Node := σ.nodes.map (·.2)
noncomputable def prs (σ : St) : List (Nat × Nat) := σ.pairs.map (·.2)
theorem nds_len (σ : St) : (nds σ).length = σ.nodes.length := by simp [nds]
theorem nds_at {σ : St} {i : Nat} {x : Node} : (nds σ)[i]? = some x ↔ ∃ a, σ.nodes[i]? = some (a, x) := by
  simp only [nds, List.getElem?_map]
  constructor
  · intro h
    obtain ⟨⟨a, y⟩, h1, h2⟩ := Option.map_eq_some_iff.mp h
    exact ⟨a, by rw [h1]; simp at h2; rw [h2]⟩
  · rintro ⟨a, h⟩; rw [h]; rfl

/-- the heap between two calls; `X` waits for a look, `T` is told and done -/
structure Inv (σ : St) (X : List Nat) (T : List (Nat × Nat)) : Prop where
  falls : Falls σ.parent
  plen : σ.parent.length = σ.nodes.length
  n12 : σ.nodes.length ≤ 12
  p12 : σ.pairs.length ≤ 12
  lotsL : σ.lots.length = σ.nodes.length
  lotsB : ∀ p ∈ σ.lots, p.2.length ≤ 2 ^ σ.mrg.length
  habN : (σ.hab.map (·.1)).Nodup
  habK : ∀ r, r ∈ σ.hab.map (·.1) ↔ r < σ.nodes.length ∧ σ.parent.getD r 0 = r
  habM : σ.hab.length + σ.mrg.length = σ.nodes.length
  habB : ∀ p ∈ σ.hab, p.2.2.length ≤ σ.nodes.length * 2 ^ σ.mrg.length
  habU : ∀ p ∈ σ.hab, ∀ i, i ∈ p.2.2 ↔ ∃ x : Node, (nds σ)[i]? = some x ∧ ∃ k ∈ x.2, root σ.parent k = p.1
  xs : ∀ i ∈ X, i < σ.nodes.length
  cnt : σ.known.length + X.length ≤ σ.nodes.length + σ.mrg.length * (σ.nodes.length * 2 ^ σ.mrg.length)
  edgL : σ.edges.length ≤ σ.mrg.length + σ.pairs.length
  forL : σ.forest.length = σ.mrg.length
  edgB : ∀ e ∈ σ.edges, e.2.1 < σ.nodes.length ∧ e.2.2.1 < σ.nodes.length
  forB : ∀ f ∈ σ.forest, f < σ.edges.length
  kids : ∀ (i : Nat) (x : Node), (nds σ)[i]? = some x → (∀ k ∈ x.2, k < i) ∧ x.2.length ≤ 2
  knN : (σ.known.map (·.1)).Nodup
  knS : ∀ q ∈ σ.known, (∀ k ∈ q.1.2, k < σ.nodes.length) ∧ ∃ x : Node, (nds σ)[q.2.2]? = some x ∧ canon (root σ.parent) q.1 = canon (root σ.parent) x
  comp : ∀ (i : Nat) (x : Node), (nds σ)[i]? = some x → i ∉ X → ∃ q ∈ σ.known, q.1 = canon (root σ.parent) x ∧ root σ.parent q.2.2 = root σ.parent i
  sound : ∀ i < σ.nodes.length, Cong (nds σ) (prs σ) i (root σ.parent i)
  told : ∀ q ∈ T, q.1 < σ.nodes.length ∧ q.2 < σ.nodes.length ∧ root σ.parent q.1 = root σ.parent q.2
  tsub : ∀ q ∈ T, q ∈ prs σ
  nums : σ.numbers.map (fun p => (p.1, p.2.2)) = (nds σ).zipIdx
  ndsN : (nds σ).Nodup
  wts : σ.weights.length = σ.nodes.length
  dps : σ.depths.length = σ.nodes.length

theorem lt_of_at {σ : St} {i : Nat} {x : Node} (h : (nds σ)[i]? = some x) : i < σ.nodes.length := by
  rw [← nds_len]; exact (List.getElem?_eq_some_iff.mp h).1

/-- two likenesses joined -/
inductive Join (σ : St) (i j : Nat) : St → Prop
  | same {e rs : Addr} : root σ.parent i = root σ.parent j → Join σ i j { σ with edges := σ.edges ++ [(e, i, j, rs)] }
  | diff {e rs m D ak ag dk dg : Addr} {lk lg uk ug : List Nat} {kept gone : Nat} : root σ.parent i ≠ root σ.parent j → kept = min (root σ.parent i) (root σ.parent j) → gone = max (root σ.parent i) (root σ.parent j) →
      σ.lots[kept]? = some (ak, lk) → σ.lots[gone]? = some (ag, lg) → (kept, dk, uk) ∈ σ.hab → (gone, dg, ug) ∈ σ.hab →
      Join σ i j { σ with edges := σ.edges ++ [(e, i, j, rs)], parent := σ.parent.set gone kept, lots := σ.lots.set kept (ak, lk ++ lg), mrg := σ.mrg ++ [.ref m], forest := σ.forest ++ [(σ.edges ++ [(e, i, j, rs)]).length - 1], waiting := σ.waiting ++ ug, hab := habPut (σ.hab.filter fun p => decide (p.1 ≠ gone)) kept D (uk ++ ug) }

/-- one number looked at -/
inductive Look (σ : St) (n : Nat) : St → Prop
  | old {x : Node} {q : Node × Addr × Nat} : (nds σ)[n]? = some x → q ∈ σ.known → q.1 = canon (root σ.parent) x → root σ.parent q.2.2 = root σ.parent n → Look σ n σ
  | join {x : Node} {q : Node × Addr × Nat} {σ' : St} : (nds σ)[n]? = some x → q ∈ σ.known → q.1 = canon (root σ.parent) x → root σ.parent q.2.2 ≠ root σ.parent n → Join σ q.2.2 n σ' → Look σ n σ'
  | new {x : Node} {d : Addr} : (nds σ)[n]? = some x → (∀ q ∈ σ.known, q.1 ≠ canon (root σ.parent) x) → Look σ n { σ with known := σ.known ++ [(canon (root σ.parent) x, d, n)] }

theorem filter_len {α : Type} (l : List (Nat × α)) (g : Nat) (hn : (l.map (·.1)).Nodup) (hg : g ∈ l.map (·.1)) : (l.filter fun p => decide (p.1 ≠ g)).length + 1 = l.length := by
  induction l with
  | nil => cases hg
  | cons p l ih =>
    rw [List.map_cons, List.nodup_cons] at hn
    by_cases h : p.1 = g
    · have : l.filter (fun p => decide (p.1 ≠ g)) = l := List.filter_eq_self.mpr fun q hq => by
        simp only [decide_eq_true_eq]; rintro rfl; exact hn.1 (h ▸ List.mem_map_of_mem hq)
      rw [List.filter_cons_of_neg (by simp [h]), this, List.length_cons]
    · rw [List.map_cons] at hg
      rw [List.filter_cons_of_pos (by simp [h]), List.length_cons, List.length_cons, ih hn.2 ((List.mem_cons.mp hg).resolve_left fun e => h e.symm)]
theorem habPut_keys (hab : List (Nat × Addr × List Nat)) (k : Nat) (D : Addr) (us : List Nat) : (habPut hab k D us).map (·.1) = hab.map (·.1) := by
  unfold habPut
  rw [List.map_map]
  exact List.map_congr_left fun p _ => by simp only [Function.comp_apply]; split <;> simp_all
theorem habPut_mem {hab : List (Nat × Addr × List Nat)} {k : Nat} {D : Addr} {us : List Nat} {p : Nat × Addr × List Nat} (h : p ∈ habPut hab k D us) : p = (k, D, us) ∨ (p ∈ hab ∧ p.1 ≠ k) := by
  unfold habPut at h
  obtain ⟨q, hq, rfl⟩ := List.mem_map.mp h
  split
  · exact .inl rfl
  · exact .inr ⟨hq, by assumption⟩
theorem habPut_len (hab : List (Nat × Addr × List Nat)) (k : Nat) (D : Addr) (us : List Nat) : (habPut hab k D us).length = hab.length := by simp [habPut]

theorem mem_keys {hab : List (Nat × Addr × List Nat)} {r : Nat} : r ∈ hab.map (·.1) ↔ ∃ d u, (r, d, u) ∈ hab :=
  ⟨fun h => by obtain ⟨⟨r', d, u⟩, h1, rfl⟩ := List.mem_map.mp h; exact ⟨d, u, h1⟩, fun ⟨d, u, h⟩ => List.mem_map.mpr ⟨_, h, rfl⟩⟩

theorem Inv.pow {σ : St} {X : List Nat} {T : List (Nat × Nat)} (v : Inv σ X T) : σ.mrg.length ≤ 12 ∧ 2 ^ σ.mrg.length ≤ 4096 ∧ σ.nodes.length * 2 ^ σ.mrg.length ≤ 49152 ∧ σ.mrg.length * (σ.nodes.length * 2 ^ σ.mrg.length) ≤ 589824 := by
  have h1 := v.habM
  have h2 := v.n12
  have h3 : σ.mrg.length ≤ 12 := by (first | lia | omega)
  have h4 : 2 ^ σ.mrg.length ≤ 4096 := Nat.le_trans (Nat.pow_le_pow_right (by (first | lia | omega)) h3) (by decide)
  have h5 : σ.nodes.length * 2 ^ σ.mrg.length ≤ 12 * 4096 := Nat.mul_le_mul h2 h4
  have h6 : σ.mrg.length * (σ.nodes.length * 2 ^ σ.mrg.length) ≤ 12 * (12 * 4096) := Nat.mul_le_mul h3 h5
  (first | lia | omega)
theorem Inv.pw {σ : St} {X : List Nat} {T : List (Nat × Nat)} (v : Inv σ X T) : PW σ.parent := ⟨v.falls, by have := v.plen; have := v.n12; (first | lia | omega)⟩
theorem Inv.lot {σ : St} {X : List Nat} {T : List (Nat × Nat)} (v : Inv σ X T) {k : Nat} (h : k < σ.nodes.length) : ∃ a l, σ.lots[k]? = some (a, l) ∧ l.length ≤ 4096 := by
  have h1 : k < σ.lots.length := by rw [v.lotsL]; exact h
  refine ⟨σ.lots[k].1, σ.lots[k].2, List.getElem?_eq_getElem h1, ?_⟩
  have := v.lotsB σ.lots[k] (List.getElem_mem h1)
  have := v.pow
  (first | lia | omega)
theorem Inv.ent {σ : St} {X : List Nat} {T : List (Nat × Nat)} (v : Inv σ X T) {k : Nat} (h : k < σ.nodes.length) : ∃ d u, (root σ.parent k, d, u) ∈ σ.hab ∧ u.length ≤ 49152 := by
  obtain ⟨d, u, hm⟩ := mem_keys.mp ((v.habK _).mpr ⟨root_lt h, root_root v.falls k⟩)
  refine ⟨d, u, hm, ?_⟩
  have := v.habB _ hm
  have := v.pow
  dsimp only at *
  (first | lia | omega)
theorem min_root {p : List Nat} {i j : Nat} : min (root p i) (root p j) = root p i ∨ min (root p i) (root p j) = root p j := by (first | lia | omega)
theorem max_root {p : List Nat} {i j : Nat} : max (root p i) (root p j) = root p i ∨ max (root p i) (root p j) = root p j := by (first | lia | omega)
theorem Inv.perm {σ : St} {X Y : List Nat} {T : List (Nat × Nat)} (v : Inv σ X T) (h : Y.Perm X) : Inv σ Y T :=
  { v with xs := fun i hi => v.xs i (h.mem_iff.mp hi), cnt := by rw [h.length_eq]; exact v.cnt, comp := fun i x hx hi => v.comp i x hx fun hm => hi (h.mem_iff.mpr hm) }
theorem Inv.pop {σ : St} {n : Nat} {ws : List Nat} {T : List (Nat × Nat)} (v : Inv σ σ.waiting T) (e : σ.waiting = ws ++ [n]) : Inv { σ with waiting := ws } (n :: ws) T :=
  let u := v.perm (Y := n :: ws) (by rw [e]; exact List.perm_append_comm (l₁ := [n]) (l₂ := ws))
  ⟨u.falls, u.plen, u.n12, u.p12, u.lotsL, u.lotsB, u.habN, u.habK, u.habM, u.habB, u.habU, u.xs, u.cnt, u.edgL, u.forL, u.edgB, u.forB, u.kids, u.knN, u.knS, u.comp, u.sound, u.told, u.tsub, u.nums, u.ndsN, u.wts, u.dps⟩
theorem Join.meas {σ σ' : St} {i j : Nat} (h : Join σ i j σ') : (σ'.mrg.length = σ.mrg.length ∧ σ'.waiting = σ.waiting) ∨ σ'.mrg.length = σ.mrg.length + 1 := by
  cases h with
  | same => exact .inl ⟨rfl, rfl⟩
  | diff => exact .inr (by simp)
theorem Look.meas {σ σ' : St} {n : Nat} (h : Look σ n σ') : (σ'.mrg.length = σ.mrg.length ∧ σ'.waiting = σ.waiting) ∨ σ'.mrg.length = σ.mrg.length + 1 := by
  cases h with
  | old => exact .inl ⟨rfl, rfl⟩
  | join _ _ _ _ h => exact h.meas
  | new => exact .inl ⟨rfl, rfl⟩
end
section
section
variable {w : World} {Z : Heap} {b₀ : Shared} {P P' : Pers} {L a y C : Addr} {loc loc' : List (Str × LV)} {tmp tmp' : List (Addr × G)} {tt tt' : List (Addr × List LV)} {s s' : Shared} {h' : Heap} {tk : Nat} {g g' : G}
  {A : Around} {E : Value → Shared → Prop} {env : Env} {x : Str} {pos : Pos} {Q : Value → Shared → Prop} {QU : Unit → Shared → Prop} {QF : Flow → Shared → Prop} {n : Nat} {fs : List (Str × Value)} {ad : Ad} {σ : St}
theorem joinI_spec {i j : Nat} {t u : Tok} {rs : Addr} {Y : List Nat} {T : List (Nat × Nat)} (c : Cfg w Z b₀ (pers ad σ) L loc tmp tt s) (B : Base w Z) (r : Room 4 A) (fz : Froz ad Z) (v : Inv σ (Y ++ σ.waiting) T) (hi : i < σ.nodes.length) (hj : j < σ.nodes.length)
    (ret : ∀ σ' b s', Join σ i j σ' → Cfg w Z b₀ (pers ad σ') L loc tmp tt s' → Q (.bool b) s') :
    wpAny (model prg w) A (call (.ref 428) [.ref ad.hp, .int (i : Int) t, .int (j : Int) u, .ref rs]) Q E s := by
  have hri : root σ.parent i < σ.nodes.length := root_lt hi
  have hrj : root σ.parent j < σ.nodes.length := root_lt hj
  have p1 := v.plen
  have p2 := v.n12
  have p3 := v.pow
  obtain ⟨ak, lk, hlk, blk⟩ := v.lot (k := min (root σ.parent i) (root σ.parent j)) (by (first | lia | omega))
  obtain ⟨ag, lg, hlg, blg⟩ := v.lot (k := max (root σ.parent i) (root σ.parent j)) (by (first | lia | omega))
  obtain ⟨dk, uk, hhk, buk⟩ : ∃ d u, (min (root σ.parent i) (root σ.parent j), d, u) ∈ σ.hab ∧ u.length ≤ 49152 := by
    rcases min_root (p := σ.parent) (i := i) (j := j) with e | e <;> rw [e] <;> exact v.ent (by assumption)
  obtain ⟨dg, ug, hhg, bug⟩ : ∃ d u, (max (root σ.parent i) (root σ.parent j), d, u) ∈ σ.hab ∧ u.length ≤ 49152 := by
    rcases max_root (p := σ.parent) (i := i) (j := j) with e | e <;> rw [e] <;> exact v.ent (by assumption)
  have c1 := v.cnt
  have c2 := v.edgL
  have c3 := v.p12
  have c4 := v.forL
  have c5 := v.habM
  have c6 := v.lotsL
  rw [List.length_append] at c1
  exact join_spec c B r fz v.pw (by (first | lia | omega)) (by (first | lia | omega)) rfl rfl (by (first | lia | omega)) (by (first | lia | omega)) hlk hlg (by (first | lia | omega)) (by (first | lia | omega)) (by (first | lia | omega)) (by (first | lia | omega)) v.habN hhk hhg (by (first | lia | omega)) (by (first | lia | omega)) (by (first | lia | omega))
    (fun he e s' c' => ret _ _ _ (.same he) c') fun hne e m D s' c' => ret _ _ _ (.diff hne rfl rfl hlk hlg hhk hhg) c'
theorem wordsF13a : True := by
  k_with "spec" => ((fail_if_success (have := endF13)); ((with_reducible show wpAny _ _ (call (.ref 407) _) _ _ _); refine hfind_spec (by k_extra "cfg") (by assumption) (by k_extra "room") (by assumption) (by assumption) (by first | assumption | omega) ?_; intro _ _ _))
  k_with "spec" => ((fail_if_success (have := endF13)); ((with_reducible show wpAny _ _ (call (.ref 381) _) _ _ _); refine node_spec (by k_extra "cfg") (by assumption) (by k_extra "room") (by assumption) (by assumption) (by assumption) (by assumption) (by assumption) (by assumption) ?_; intro _ _ _))
  k_with "spec" => ((fail_if_success (have := endF13)); ((with_reducible show wpAny _ _ (call (.ref 428) _) _ _ _); refine joinI_spec (by k_extra "cfg") (by assumption) (by k_extra "room") (by assumption) (by assumption) (by first | assumption | omega) (by first | assumption | omega) ?_; intro _ _ _ _ _))
  k_with "spec" => ((fail_if_success (have := endF13)); ((with_reducible show wpAny _ _ (call (.builtin "dict.setdefault") _) _ _ _); refine r_sdKnown (by k_extra "cfg") (by assumption) (by assumption) (by k_extra "mem") (by assumption) ?_ ?_; all_goals intros))
  exact trivial
set_option maxHeartbeats 8000000 in
theorem look_spec {k : Nat} {t : Tok} {T : List (Nat × Nat)} (c : Cfg w Z b₀ (pers ad σ) L loc tmp tt s) (B : Base w Z) (r : Room 6 A) (fz : Froz ad Z) (v : Inv σ (k :: σ.waiting) T)
    (ret : ∀ σ' s', Look σ k σ' → Cfg w Z b₀ (pers ad σ') L loc tmp tt s' → Q .none s') : wpAny (model prg w) A (call (.ref 400) [.ref ad.hp, .int (k : Int) t]) Q E s := by
  have hk : k < σ.nodes.length := v.xs k (.head _)
  have hp := v.pw
  have p1 := v.plen
  have p2 := v.n12
  have p3 := v.pow
  have p4 := v.cnt
  have hb : σ.nodes.length ≤ 64 := by (first | lia | omega)
  have hkn : σ.known.length ≤ 1000000 := by (first | lia | omega)
  have v' : Inv σ ([k] ++ σ.waiting) T := v
  have hx : (nds σ)[k]? = some σ.nodes[k].2 := nds_at.mpr ⟨_, List.getElem?_eq_getElem hk⟩
  have hkk : σ.nodes[k]? = some σ.nodes[k] := List.getElem?_eq_getElem hk
  have hkids := v.kids _ _ hx
  have hz : σ.nodes[k].2.2.length ≤ 100000 := by (first | lia | omega)
  have hk2 : ∀ j ∈ σ.nodes[k].2.2, j < σ.parent.length := fun j hj => by have := hkids.1 j hj; (first | lia | omega)
  have hkl : ∀ q ∈ σ.known, q.2.2 < σ.nodes.length := fun q hq => by obtain ⟨_, x, h, _⟩ := v.knS q hq; exact lt_of_at h
  refine r_callP (n := 5) c B r (by k_is) (by k_is) (BindsTo.of_eq rfl) (locs rfl) (by decide) [(Str.ofString "self", .ref ad.hp), (Str.ofString "n", .int (k : Int)), (Str.ofString "other", .unset)] ?_ ?_ ?_
  · k_extra "locs"
  · k_extra "nodup"
  intro L' fo A' s' hb' r' c'
  generalize hgx : σ.nodes[k] = nx at *
  have hkp : k < σ.parent.length := by (first | lia | omega)
  k_extra "go"
  · rename Node × Addr × Nat => q
    rename q ∈ σ.known => hq
    rename q.1 = _ => he
    have hqp : q.2.2 < σ.parent.length := by have := hkl _ hq; (first | lia | omega)
    have hqn := hkl _ hq
    k_extra "go"
    · refine ret _ _ (.join hx hq he (by (first | lia | omega)) (by assumption)) ?g
      case g => k_extra "leave"
    · refine ret _ _ (.old hx hq he (by (first | lia | omega))) ?g
      case g => k_extra "leave"
  · exfalso
    dsimp only at *
    (first | lia | omega)
  · refine ret _ _ (Look.new (d := ?d) hx (by assumption)) ?g
    case g => k_extra "leave"
end
theorem endF13 : True := trivial
end
section
section
variable {w : World} {Z : Heap} {b₀ : Shared} {P P' : Pers} {L a y C : Addr} {loc loc' : List (Str × LV)} {tmp tmp' : List (Addr × G)} {tt tt' : List (Addr × List LV)} {s s' : Shared} {h' : Heap} {tk : Nat} {g g' : G}
  {A : Around} {E : Value → Shared → Prop} {env : Env} {x : Str} {pos : Pos} {Q : Value → Shared → Prop} {QU : Unit → Shared → Prop} {QF : Flow → Shared → Prop} {n : Nat} {fs : List (Str × Value)} {ad : Ad} {σ : St}
theorem nlv_nil_iff {ns : List Nat} (h : ns = []) : nlv ns = [] := by rw [h]; rfl
theorem r_popWait {ws : List Nat} {n : Nat} (c : Cfg w Z b₀ (pers ad σ) L loc tmp tt s) (e : σ.waiting = ws ++ [n]) (hz : ws.length ≤ 1000000) (h : ∀ t s', Cfg w Z b₀ (pers ad { σ with waiting := ws }) L loc tmp tt s' → Q (.int (n : Int) t) s') :
    wpAny (model prg w) A (call (.builtin "list.pop") [.ref ad.waiting]) Q E s := by
  refine r_popL (l := .int (n : Int)) (ls := nlv ws) (P' := pers ad { σ with waiting := ws }) (tmp' := tmp) c (by rw [← nlv_snoc, ← e]; exact p_waiting) (fun p hp => hp) (by rw [nlv_len]; exact hz) fun v s' hv c' => ?_
  obtain ⟨t, rfl⟩ := hv
  exact h t s' c'
theorem joinM_spec {i j : Nat} {t u : Tok} {rs : Addr} {Y : List Nat} {T : List (Nat × Nat)} (c : Cfg w Z b₀ (pers ad σ) L loc tmp tt s) (B : Base w Z) (r : Room 5 A) (fz : Froz ad Z) (v : Inv σ (Y ++ σ.waiting) T) (hi : i < σ.nodes.length) (hj : j < σ.nodes.length)
    (ret : ∀ σ' b s', Join σ i j σ' → Cfg w Z b₀ (pers ad σ') L loc tmp tt s' → Q (.bool b) s') :
    wpAny (model prg w) A (call (.ref 421) [.ref ad.hp, .int (i : Int) t, .int (j : Int) u, .ref rs]) Q E s := by
  refine r_callP (n := 4) c B r (by k_is) (by k_is) (BindsTo.of_eq rfl) (locs rfl) (by decide) [(Str.ofString "self", .ref ad.hp), (Str.ofString "a", .int (i : Int)), (Str.ofString "b", .int (j : Int)), (Str.ofString "reason", .ref rs)] ?_ ?_ ?_
  · k_extra "locs"
  · k_extra "nodup"
  intro L' fo A' s' hb' r' c'
  k_extra "go"
  refine' joinI_spec ?c B ?r fz v hi hj ?_
  case c => k_extra "cfg"
  case r => k_extra "room"
  intro σ' b s' hj c'
  k_extra "go"
  refine ret _ _ _ hj ?g
  case g => k_extra "leave"
theorem wordsF14a : True := by
  k_with "spec" => ((fail_if_success (have := endF14)); ((with_reducible show wpAny _ _ (call (.builtin "list.pop") _) _ _ _); refine r_popWait (by k_extra "cfg") (by assumption) (by assumption) ?_; intro _ _ _))
  k_with "spec" => ((fail_if_success (have := endF14)); ((with_reducible show wpAny _ _ (call (.ref 400) _) _ _ _); refine look_spec (by k_extra "cfg") (by assumption) (by k_extra "room") (by assumption) (by assumption) ?_; intro _ _ _ _))
  exact trivial
set_option maxHeartbeats 8000000 in
theorem settle_spec {T : List (Nat × Nat)} (c : Cfg w Z b₀ (pers ad σ) L loc tmp tt s) (B : Base w Z) (r : Room 7 A) (fz : Froz ad Z) (I : St → Prop) (hI : ∀ σ, I σ → Inv σ σ.waiting T)
    (step : ∀ σ ws n σ', I σ → σ.waiting = ws ++ [n] → Look { σ with waiting := ws } n σ' → I σ') (i0 : I σ)
    (ret : ∀ σ' s', I σ' → σ'.waiting = [] → Cfg w Z b₀ (pers ad σ') L loc tmp tt s' → Q .none s') : wpAny (model prg w) A (call (.ref 435) [.ref ad.hp]) Q E s := by
  refine r_callP (n := 6) c B r (by k_is) (by k_is) (BindsTo.of_eq rfl) (locs rfl) (by decide) [(Str.ofString "self", .ref ad.hp)] ?_ ?_ ?_
  · k_extra "locs"
  · k_extra "nodup"
  intro L' fo A' s' hb' r' c'
  walk1
  refine r_while (fun m s => ∃ σ', m = (12 - σ'.mrg.length) * 1000000 + σ'.waiting.length ∧ I σ' ∧ Cfg w Z b₀ (pers ad σ') L' [(Str.ofString "self", .ref ad.hp)] ((L, .obj fo) :: tmp) tt s) ?_ _ ⟨σ, rfl, i0, c'⟩
  rintro m s ⟨σ, rfl, i1, c'⟩
  have v := hI _ i1
  have q1 := v.pow
  have q2 := v.cnt
  have q3 := v.n12
  have hwz : σ.waiting.length ≤ 1000000 := by (first | lia | omega)
  by_cases hw : σ.waiting = []
  · have hw0 : σ.waiting.length = 0 := by rw [hw]; rfl
    k_extra "go"
    · exfalso; (first | lia | omega)
    · refine ret _ _ i1 hw ?g
      case g => k_extra "leave"
  · obtain ⟨ws, n, e⟩ : ∃ ws n, σ.waiting = ws ++ [n] := ⟨_, _, (List.dropLast_concat_getLast hw).symm⟩
    have hl : σ.waiting.length = ws.length + 1 := by rw [e]; simp
    have hws : ws.length ≤ 1000000 := by (first | lia | omega)
    have vp := v.pop e
    k_extra "go"
    · rename St => σ'
      rename Look _ _ _ => hlk
      have i2 := step _ _ _ _ i1 e hlk
      have v2 := hI _ i2
      have m1 := v2.pow
      have m2 := v2.cnt
      have m3 := v2.n12
      have m4 := hlk.meas
      dsimp only at m4
      refine ⟨(12 - σ'.mrg.length) * 1000000 + σ'.waiting.length, ?_, σ', rfl, i2, ?g⟩
      case g => k_extra "cfg"
      rcases m4 with ⟨e1, e2⟩ | e1
      · rw [e1, e2]; (first | lia | omega)
      · (first | lia | omega)
    · exfalso; (first | lia | omega)
end
theorem endF14 : True := trivial
end
section
section
variable {w : World} {Z : Heap} {b₀ : Shared} {P P' : Pers} {L a y C I : Addr} {loc loc' : List (Str × LV)} {tmp tmp' : List (Addr × G)} {tt tt' : List (Addr × List LV)} {s s' : Shared} {h' : Heap} {tk : Nat} {g g' : G}
  {A : Around} {E : Value → Shared → Prop} {env : Env} {x : Str} {pos : Pos} {Q : Value → Shared → Prop} {QU : Unit → Shared → Prop} {QF : Flow → Shared → Prop} {n : Nat} {fs : List (Str × Value)} {ad : Ad} {σ : St}
structure OpOk (k : Nat) : Prop where
  lt : k < 128
  sp : Txt.isspace ⟨#[k]⟩ = false
  no : (Builtin.Str.occurrences (Str.ofString "()[]{},:") ⟨#[k]⟩ 0 (Str.ofString "()[]{},:").length 1).isEmpty = true
  q : (Txt.item ⟨#[k]⟩ 0 == Str.ofString "?") = false
  e : ((⟨#[k]⟩ : Str) == Str.ofString "") = false
theorem ok_a : OpOk 97 := ⟨by decide, by decide +kernel, by decide +kernel, by decide +kernel, by decide +kernel⟩
theorem ok_b : OpOk 98 := ⟨by decide, by decide +kernel, by decide +kernel, by decide +kernel, by decide +kernel⟩
theorem ok_f : OpOk 102 := ⟨by decide, by decide +kernel, by decide +kernel, by decide +kernel, by decide +kernel⟩
theorem ok_g : OpOk 103 := ⟨by decide, by decide +kernel, by decide +kernel, by decide +kernel, by decide +kernel⟩
theorem wordsF15a : True := by
  k_with "iter" => ((fail_if_success (have := endF15)); ((with_reducible show wpAny _ _ (pyIter (.str _ _)) _ _ _); refine r_iterS (by k_extra "cfg") (by assumption) ?_; intro _ _ _))
  exact trivial
theorem r_eqL0 {a b : Addr} (c : Cfg w Z b₀ P L loc tmp tt s) (r : Room 2 A) (ha : (a, .list []) ∈ tmp ++ P.objs) (hb : (b, .list []) ∈ tmp ++ P.objs) (h : Q (.bool true) s) : wpAny (model prg w) A (compareOp .Eq (.ref a) (.ref b)) Q E s :=
  r_eqL (ns := []) (ms := []) c r ha hb h
set_option maxHeartbeats 8000000 in
theorem isop_spec {k : Nat} {t : Tok} (c : Cfg w Z b₀ P L loc tmp tt s) (B : Base w Z) (r : Room 4 A) (ok : OpOk k)
    (ret : ∀ s', Cfg w Z b₀ P L loc tmp tt s' → Q (.bool true) s') : wpAny (model prg w) A (call (.ref 67) [.str ⟨#[k]⟩ t]) Q E s := by
  have hk := ok.lt
  refine r_callP (n := 3) c B r (by k_is) (by k_is) (BindsTo.of_eq rfl) (locs rfl) (by decide) [(Str.ofString "text", .str ⟨#[k]⟩)] ?_ ?_ ?_
  · k_extra "locs"
  · k_extra "nodup"
  intro L' fo A' s' hb' r' c'
  k_extra "go"
  · refine r_LCfilter [k] (fun k => .str ⟨#[k]⟩) (fun k => .str ⟨#[k]⟩) (fun _ => false) nx_str r'.h (by decide +kernel) rfl rfl (fun _ _ _ _ => trivial) (by show 1 ≤ 1000000; (first | lia | omega)) ?_ ?_ ?_ (by assumption)
    · intro C D fo i acc s k' hk' c
      obtain rfl : k' = k := by
        have := List.mem_of_getElem? hk'
        simpa using this
      have h1 := ok.sp
      have h2 := ok.no
      k_extra "go"
      · rename Txt.isspace _ = true => h3
        rw [h1] at h3; cases h3
      · k_extra "tst"
        rfl
      · rename (Builtin.Str.occurrences _ _ _ _ _).isEmpty = false => h3
        rw [h2] at h3; cases h3
    · intro C D fo i acc s k' hk' hp
      cases hp
    · intro C D fo1 s lv hb c
      replace c : Cfg w Z b₀ P C [(Str.ofString "sign", lv)] ((L', .obj fo1) :: (D, .list []) :: (L, .obj fo) :: tmp) tt s := c
      refine post_Q ?_ hb c
      intro s' c'
      k_extra "go"
      refine' r_eqL0 ?c ?r ?a ?b ?_
      case c => k_extra "cfg"
      case r => k_extra "room"
      case a => k_extra "mem"
      case b => k_extra "mem"
      k_extra "go"
      exact ret _ (by k_extra "leave")
  · exfalso
    have := ok.e
    simp_all [bne]

theorem wordsF15b : True := by
  k_with "spec" => ((fail_if_success (have := endF15)); ((with_reducible show wpAny _ _ (call (.ref 67) _) _ _ _); refine isop_spec (by k_extra "cfg") (by assumption) (by k_extra "room") (by assumption) ?_; intro _ _))
  exact trivial
set_option maxHeartbeats 8000000 in
theorem require_spec {k : Nat} {t : Tok} (c : Cfg w Z b₀ P L loc tmp tt s) (B : Base w Z) (r : Room 5 A) (ok : OpOk k)
    (ret : ∀ s', Cfg w Z b₀ P L loc tmp tt s' → Q .none s') : wpAny (model prg w) A (call (.ref 112) [.ref a, .str ⟨#[k]⟩ t]) Q E s := by
  have hk := ok.lt
  refine r_callP (n := 4) c B r (by k_is) (by k_is) (BindsTo.of_eq rfl) (locs rfl) (by decide) [(Str.ofString "self", .ref a), (Str.ofString "op", .str ⟨#[k]⟩)] ?_ ?_ ?_
  · k_extra "locs"
  · k_extra "nodup"
  intro L' fo A' s' hb' r' c'
  k_extra "go"
  · rename (_ == _) = true => h3
    rw [ok.q] at h3; cases h3
  · exact ret _ (by k_extra "leave")
end
theorem endF15 : True := trivial
end
section
section
variable {w : World} {Z : Heap} {b₀ : Shared} {P P' : Pers} {L a y C I : Addr} {loc loc' : List (Str × LV)} {tmp tmp' : List (Addr × G)} {tt tt' : List (Addr × List LV)} {s s' : Shared} {h' : Heap} {tk : Nat} {g g' : G}
  {A : Around} {E : Value → Shared → Prop} {env : Env} {x : Str} {pos : Pos} {Q : Value → Shared → Prop} {QU : Unit → Shared → Prop} {QF : Flow → Shared → Prop} {n : Nat} {fs : List (Str × Value)} {ad : Ad} {σ : St}
theorem r_inNum {d : Addr} {nd : Node} (c : Cfg w Z b₀ (pers ad σ) L loc tmp tt s) (B : Base w Z) (r : Room (n + 1) A) (hd : (d, nlvs nd) ∈ tt)
    (hold : ∀ p ∈ σ.numbers, p.1 = nd → lookT (dT σ.numbers) (nkey nd) = some (.int (p.2.2 : Int)) → ∀ s', Cfg w Z b₀ (pers ad σ) L loc tmp tt s' → Q (.bool true) s')
    (hnew : (∀ p ∈ σ.numbers, p.1 ≠ nd) → ∀ s', Cfg w Z b₀ (pers ad σ) L loc tmp tt s' → Q (.bool false) s') : wpAny (model prg w) A (compareOp .In (.ref d) (.ref ad.numbers)) Q E s := by
  refine r_inDT (k := nkey nd) c B r m_numbers number_tups (List.mem_append_left _ (by rw [nkey_lv]; exact hd)) fun s' c' => ?_
  cases e : lookT (dT σ.numbers) (nkey nd) with
  | none => exact hnew (lookT_none e) s' c'
  | some l =>
    obtain ⟨p, hp, e1, rfl⟩ := lookT_some e
    exact hold p hp e1 e s' c'
theorem r_getNum {d : Addr} {nd : Node} {p : Node × Addr × Nat} {value slice : Expr} (c : Cfg w Z b₀ (pers ad σ) L loc tmp tt s) (r : Room (n + 1) A) (hd : (d, nlvs nd) ∈ tt) (hl : lookT (dT σ.numbers) (nkey nd) = some (.int (p.2.2 : Int)))
    (h : ∀ t s', Cfg w Z b₀ (pers ad σ) L loc tmp tt s' → Q (.int (p.2.2 : Int) t) s')
    (hs : subscripted slice false (.ref ad.numbers) (.ref d) = operate [.ref ad.numbers, .ref d] (getItem (.ref ad.numbers) (.ref d)) := by with_unfolding_all rfl) :
    wpAny (model prg w) A (subscriptTail value slice (.ref ad.numbers) (.ref d)) Q E s :=
  r_getDT (k := nkey nd) c r m_numbers number_tups (List.mem_append_left _ (by rw [nkey_lv]; exact hd)) hl (fun v s' hv c' => by obtain ⟨t, rfl⟩ := hv; exact h t s' c') hs
theorem r_setNum {d : Addr} {nd : Node} {k : Nat} {t : Tok} (c : Cfg w Z b₀ (pers ad σ) L loc tmp tt s) (r : Room (n + 1) A) (hd : (d, nlvs nd) ∈ tt) (hn : ∀ p ∈ σ.numbers, p.1 ≠ nd) (hz : σ.numbers.length ≤ 1000000)
    (h : ∀ s', Cfg w Z b₀ (pers ad { σ with numbers := σ.numbers ++ [(nd, d, k)] }) L loc tmp tt s' → QU () s') : wpAny (model prg w) A (setItem (.ref ad.numbers) (.ref d) (.int (k : Int) t)) QU E s := by
  have e : dT σ.numbers ++ [(nkey nd, d, LV.int (k : Int))] = dT (σ.numbers ++ [(nd, d, k)]) := by simp [dT]
  refine r_setDT (l := .int (k : Int)) (k := nkey nd) (P' := pers ad { σ with numbers := σ.numbers ++ [(nd, d, k)] }) (tmp' := tmp) c r number_tups (List.mem_append_left _ (by rw [nkey_lv]; exact hd)) (lookT_of_none hn) (by rw [e]; exact p_numbers) (fun p hp => ?_) ⟨t, rfl⟩ (by rw [dT_len]; exact hz) h
  rcases List.mem_append.mp hp with hp | hp
  · exact List.mem_append_left _ hp
  · simp only [pers, keyT, List.map_append, List.mem_append, List.map_cons, List.map_nil, List.mem_singleton] at hp ⊢
    rcases hp with h | (h | h) | h
    · exact .inr (.inl h)
    · exact .inr (.inr (.inl h))
    · subst h; exact .inl hd
    · exact .inr (.inr (.inr h))
theorem r_appNodes {d : Addr} {nd : Node} (c : Cfg w Z b₀ (pers ad σ) L loc tmp tt s) (hd : (d, nlvs nd) ∈ tt) (hz : σ.nodes.length ≤ 1000000)
    (h : ∀ s', Cfg w Z b₀ (pers ad { σ with nodes := σ.nodes ++ [(d, nd)] }) L loc tmp tt s' → Q .none s') : wpAny (model prg w) A (call (.builtin "list.append") [.ref ad.nodes, .ref d]) Q E s := by
  have e : refs σ.nodes ++ [LV.ref d] = refs (σ.nodes ++ [(d, nd)]) := by simp [refs]
  refine r_append (l := .ref d) (P' := pers ad { σ with nodes := σ.nodes ++ [(d, nd)] }) (tmp' := tmp) c (by rw [e]; exact p_nodes) (fun p hp => ?_) rfl (by rw [refs_len]; exact hz) h
  rcases List.mem_append.mp hp with hp | hp
  · exact List.mem_append_left _ hp
  · simp only [pers, nodeT, List.map_append, List.mem_append, List.map_cons, List.map_nil, List.mem_singleton] at hp ⊢
    rcases hp with (h | h) | h
    · exact .inr (.inl h)
    · subst h; exact .inl hd
    · exact .inr (.inr h)
theorem r_appWts {z : Int} {t : Tok} (c : Cfg w Z b₀ (pers ad σ) L loc tmp tt s) (hz : σ.weights.length ≤ 1000000)
    (h : ∀ s', Cfg w Z b₀ (pers ad { σ with weights := σ.weights ++ [z] }) L loc tmp tt s' → Q .none s') : wpAny (model prg w) A (call (.builtin "list.append") [.ref ad.weights, .int z t]) Q E s :=
  r_append (l := .int z) (P' := pers ad { σ with weights := σ.weights ++ [z] }) (tmp' := tmp) c (by rw [show σ.weights.map LV.int ++ [LV.int z] = (σ.weights ++ [z]).map LV.int by simp]; exact p_weights) (fun p hp => hp) ⟨t, rfl⟩ (by rw [List.length_map]; exact hz) h
theorem r_appDps {z : Int} {t : Tok} (c : Cfg w Z b₀ (pers ad σ) L loc tmp tt s) (hz : σ.depths.length ≤ 1000000)
    (h : ∀ s', Cfg w Z b₀ (pers ad { σ with depths := σ.depths ++ [z] }) L loc tmp tt s' → Q .none s') : wpAny (model prg w) A (call (.builtin "list.append") [.ref ad.depths, .int z t]) Q E s :=
  r_append (l := .int z) (P' := pers ad { σ with depths := σ.depths ++ [z] }) (tmp' := tmp) c (by rw [show σ.depths.map LV.int ++ [LV.int z] = (σ.depths ++ [z]).map LV.int by simp]; exact p_depths) (fun p hp => hp) ⟨t, rfl⟩ (by rw [List.length_map]; exact hz) h
theorem r_addNd {t b : Addr} {x : Str} {ks : List Nat} (c : Cfg w Z b₀ P L loc tmp tt s) (ht : (t, [LV.str x]) ∈ tt) (hb : (b, nlv ks) ∈ tt) (hz : ks.length ≤ 1000)
    (h : ∀ d s', Cfg w Z b₀ P L loc tmp ((d, nlvs (x, ks)) :: tt) s' → Q (.ref d) s') : wpAny (model prg w) A (binaryOp .Add (.ref t) (.ref b)) Q E s :=
  r_addT (xs := []) c (List.mem_append_left _ ht) (List.mem_append_left _ hb) (by rw [nlv_len]; simp; (first | lia | omega)) fun d s' tt' hm hs c' => h d s' (c'.sub (List.Sublist.refl _) fun p hp => by
    rcases List.mem_cons.mp hp with rfl | hp
    · exact hm
    · exact List.mem_append_left _ (hs p hp))
theorem wordsF16a : True := by
  k_with "addR" => ((fail_if_success (have := endF16)); (refine r_addNd (by k_extra "cfg") (by k_extra "mem") (by k_extra "mem") (by assumption) ?_; intro _ _ _))
  k_with "spec" => ((fail_if_success (have := endF16)); ((with_reducible show wpAny _ _ (call (.ref 112) _) _ _ _); refine require_spec (by k_extra "cfg") (by assumption) (by k_extra "room") (by assumption) ?_; intro _ _))
  k_with "subR" => ((fail_if_success (have := endF16)); (refine r_getNum (by k_extra "cfg") (by assumption) (by k_extra "mem") (by assumption) ?_; intro _ _ _))
  k_with "setI" => ((fail_if_success (have := endF16)); (refine r_setNum (by k_extra "cfg") (by assumption) (by k_extra "mem") (by assumption) (by assumption) ?_; intro _ _))
  k_with "spec" => ((fail_if_success (have := endF16)); ((with_reducible show wpAny _ _ (call (.builtin "list.append") _) _ _ _); first
      | (refine r_appNodes (by k_extra "cfg") (by k_extra "mem") (by assumption) ?_; intro _ _)
      | (refine r_appWts (by k_extra "cfg") (by assumption) ?_; intro _ _)
      | (refine r_appDps (by k_extra "cfg") (by assumption) ?_; intro _ _)))
  k_with "spec" => ((fail_if_success (have := endF16)); ((with_reducible show wpAny _ _ (call (.builtin "max") _) _ _ _); refine r_max0 (by k_extra "cfg") (by exact Room.h (by assumption)) (by k_extra "memP") ?_; intro _ _ _ _))
  k_with "for" => ((fail_if_success (have := endF16)); (refine r_For ?_))
  k_with "in" => ((fail_if_success (have := endF16)); (refine r_inNum (by k_extra "cfg") (by assumption) (by assumption) (by k_extra "mem") ?_ ?_; all_goals intros))
  exact trivial
theorem lenSnoc {α : Type} (l : List α) (x : α) : (((l ++ [x]).length : Nat) : Int) - 1 = (l.length : Int) := by simp
set_option maxHeartbeats 8000000 in
theorem take_spec {k : Nat} {t : Tok} {ks : List Nat} {kt : Addr} (c : Cfg w Z b₀ (pers ad σ) L loc tmp tt s) (B : Base w Z) (r : Room 6 A) (fz : Froz ad Z) (ok : OpOk k) (hb : σ.nodes.length ≤ 64) (hnu : σ.numbers.length ≤ 1000000) (hw : σ.weights.length = σ.nodes.length) (hd : σ.depths.length = σ.nodes.length)
    (hkt : (kt, nlv ks) ∈ tt) (hkl : ks.length ≤ 1000) (hks : ∀ j ∈ ks, j < σ.nodes.length)
    (old : ∀ p ∈ σ.numbers, p.1 = (⟨#[k]⟩, ks) → ∀ t' s', Cfg w Z b₀ (pers ad σ) L loc tmp tt s' → Q (.int (p.2.2 : Int) t') s')
    (new : (∀ p ∈ σ.numbers, p.1 ≠ (⟨#[k]⟩, ks)) → ∀ d w1 d1 t' s', Cfg w Z b₀ (pers ad { σ with nodes := σ.nodes ++ [(d, (⟨#[k]⟩, ks))], numbers := σ.numbers ++ [((⟨#[k]⟩, ks), d, σ.nodes.length)], weights := σ.weights ++ [w1], depths := σ.depths ++ [d1] }) L loc tmp tt s' → Q (.int (σ.nodes.length : Int) t') s') :
    wpAny (model prg w) A (call (.ref 105) [.ref ad.bk, .str ⟨#[k]⟩ t, .ref kt]) Q E s := by
  refine r_callC (n := 5) (binds := [(Str.ofString "self", .ref ad.bk), (Str.ofString "op", .str ⟨#[k]⟩ t), (Str.ofString "kids", .ref kt)]) c B r (by k_is) (by k_is) (BindsTo.of_eq rfl) (by rfl) (by decide +kernel) [(Str.ofString "op", .str ⟨#[k]⟩), (Str.ofString "kids", .ref kt), (Str.ofString "node", .unset), (Str.ofString "kid", .unset)] (fun L' => [(L' + 1, .ref ad.bk)]) ?_ ?_ ?_ ?_
  · intro L'; k_extra "locs"
  · k_extra "nodup"
  · intro L'
    exact (show All2 _ [(Str.ofString "self", L' + 1)] _ from .cons ⟨rfl, ⟨_, rfl, rfl⟩⟩ .nil)
  intro L' fo A' s' hb' r' c'
  change Cfg _ _ _ _ _ _ ((L' + 1, .cell (.ref ad.bk)) :: (L, .obj fo) :: tmp) _ _ at c'
  have hz : ((⟨#[k]⟩, ks) : Node).2.length ≤ 100000 := by show ks.length ≤ _; (first | lia | omega)
  k_extra "go"
  · refine old _ (by assumption) (by assumption) _ _ ?g
    case g => k_extra "leave"
  rename_i d4 _ _ d3 _ _ d2 _ _ d1 _ c1
  have hnew : ∀ p ∈ σ.numbers, p.1 ≠ (⟨#[k]⟩, ks) := by assumption
  refine r_forC (fun lv => [(Str.ofString "op", .str ⟨#[k]⟩), (Str.ofString "kids", .ref kt), (Str.ofString "node", .ref _), (Str.ofString "kid", lv)]) (nx_tup (xs := nlv ks)) r'.h ?_ ?_ ?_ c1
  · intro i; exact .head _
  · intro i s v l lv hx hv c
    refine turn_cut fun K hK => ?_
    obtain ⟨j, hj, rfl⟩ : ∃ j, ks[i]? = some j ∧ l = .int (j : Int) := by
      have := hx
      simp only [nlv, List.getElem?_map, Option.map_eq_some_iff] at this
      obtain ⟨j, h1, h2⟩ := this
      exact ⟨j, h1, h2.symm⟩
    obtain ⟨t5, rfl⟩ := hv
    have hj2 := hks j (List.mem_of_getElem? hj)
    k_extra "go"
    · refine hK _ _ ?_
      k_extra "body"
    · exfalso; (first | lia | omega)
    · exfalso; (first | lia | omega)
  · intro lv s c
    have hw2 : σ.weights.length ≤ 1000000 := by (first | lia | omega)
    have hd2 : σ.depths.length ≤ 1000000 := by (first | lia | omega)
    have hn2 : σ.nodes.length ≤ 1000000 := by (first | lia | omega)
    k_extra "go"
    refine r_LCint ks (fun k => .int (k : Int)) (fun j => σ.weights.getD j 0) nx_tup r'.h (by decide +kernel) rfl rfl ?_ (by (first | lia | omega)) ?_ ?_ (by assumption)
    · intro D fo i acc; exact .head _
    · intro C D fo i acc s j hj c
      have hj2 : j < σ.weights.length := by rw [hw]; exact hks j (List.mem_of_getElem? hj)
      k_extra "go"
      k_extra "elt"
    · intro C D fo s lv hb c
      refine post_Q ?_ hb c
      intro s' c'
      k_extra "go"
      refine r_LCint ks (fun k => .int (k : Int)) (fun j => σ.depths.getD j 0) nx_tup r'.h (by decide +kernel) rfl rfl ?_ (by (first | lia | omega)) ?_ ?_ (by assumption)
      · intro D fo i acc; exact .head _
      · intro C D fo i acc s j hj c
        have hj2 : j < σ.depths.length := by rw [hd]; exact hks j (List.mem_of_getElem? hj)
        k_extra "go"
        k_extra "elt"
      · intro C D fo s lv hb c
        refine post_Q ?_ hb c
        intro s' c'
        k_extra "go"
        dsimp only [retOf]
        rw [lenSnoc]
        refine new hnew ?d ?e1 ?e2 _ _ ?g
        case g => k_extra "leave"
end
theorem endF16 : True := trivial
end
section
/-- strictly rising -/
noncomputable def Up (l : List Nat) : Prop := l.Pairwise (· < ·)
theorem Up.ext : ∀ {l m : List Nat}, Up l → Up m → (∀ x, x ∈ l ↔ x ∈ m) → l = m
  | [], [], _, _, _ => rfl
  | [], y :: m, _, _, h => absurd ((h y).mpr (.head _)) (by simp)
  | x :: l, [], _, _, h => absurd ((h x).mp (.head _)) (by simp)
  | x :: l, y :: m, hl, hm, h => by
    have hl' := List.pairwise_cons.mp hl
    have hm' := List.pairwise_cons.mp hm
    have e : x = y := by
      rcases List.mem_cons.mp ((h x).mp (.head _)) with e | h1
      · exact e
      · rcases List.mem_cons.mp ((h y).mpr (.head _)) with e | h2
        · exact e.symm
        · have := hm'.1 x h1
          have := hl'.1 y h2
          (first | lia | omega)
    subst e
    rw [Up.ext hl'.2 hm'.2 fun z => ?_]
    have hz := h z
    simp only [List.mem_cons] at hz
    constructor
    · intro hm1
      rcases hz.mp (.inr hm1) with e | h1
      · subst e; have := hl'.1 _ hm1; (first | lia | omega)
      · exact h1
    · intro hm1
      rcases hz.mpr (.inr hm1) with e | h1
      · subst e; have := hm'.1 _ hm1; (first | lia | omega)
      · exact h1
theorem Up.nodup {l : List Nat} (h : Up l) : l.Nodup := h.imp fun h => Nat.ne_of_lt h
theorem toI_toNat {l : List Int} (h : ∀ x ∈ l, 0 ≤ x) : toI (l.map Int.toNat) = l := by
  unfold toI
  rw [List.map_map]
  exact (List.map_congr_left fun x hx => by simp only [Function.comp_apply, id]; exact Int.toNat_of_nonneg (h x hx)).trans (List.map_id l)
theorem sorted_nat {l : List Int} (hn : l.Nodup) (h0 : ∀ x ∈ l, 0 ≤ x) : ∃ cs : List Nat, sortI l = toI cs ∧ Up cs ∧ (∀ x : Nat, x ∈ cs ↔ (x : Int) ∈ l) ∧ cs.length = l.length := by
  have h1 : ∀ x ∈ sortI l, 0 ≤ x := fun x hx => h0 x (mem_sortI.mp hx)
  have e := toI_toNat h1
  refine ⟨(sortI l).map Int.toNat, e.symm, ?_, fun x => ?_, by rw [List.length_map, sortI_len]⟩
  · have hs := sortI_sorted l
    have hd : (sortI l).Nodup := (sortI_perm l).nodup_iff.mpr hn
    have : (sortI l).Pairwise fun a b => a.toNat < b.toNat := by
      have h2 : (sortI l).Pairwise fun a b => a ≤ b ∧ a ≠ b := hs.and hd
      refine List.Pairwise.imp_of_mem (fun {a b} ha hb hab => ?_) h2
      have := h1 a ha
      have := h1 b hb
      (first | lia | omega)
    exact List.pairwise_map.mpr this
  · rw [List.mem_map]
    constructor
    · rintro ⟨y, hy, rfl⟩
      rw [Int.toNat_of_nonneg (h1 y hy)]; exact mem_sortI.mp hy
    · intro hx
      exact ⟨x, mem_sortI.mpr hx, by simp⟩
/-- sorted(set(..)) of numbers that count -/
theorem sorted_set (l : List Nat) : ∃ cs : List Nat, sortI (setOf (toI l)) = toI cs ∧ Up cs ∧ (∀ x, x ∈ cs ↔ x ∈ l) ∧ cs.length = (setOf (toI l)).length := by
  obtain ⟨cs, h1, h2, h3, h4⟩ := sorted_nat (l := setOf (toI l)) nodup_setOf fun x hx => by
    obtain ⟨y, _, rfl⟩ := List.mem_map.mp (mem_setOf.mp hx); (first | lia | omega)
  refine ⟨cs, h1, h2, fun x => ?_, h4⟩
  rw [h3, mem_setOf]
  unfold toI
  rw [List.mem_map]
  constructor
  · rintro ⟨y, hy, e⟩
    have : y = x := by (first | lia | omega)
    exact this ▸ hy
  · intro h; exact ⟨x, h, rfl⟩

noncomputable def habAdd (hab : List (Nat × Addr × List Nat)) (cs : List Nat) (n : Nat) : List (Nat × Addr × List Nat) := hab.map fun p => if p.1 ∈ cs then (p.1, p.2.1, p.2.2 ++ [n]) else p
theorem habAdd_nil (hab : List (Nat × Addr × List Nat)) (n : Nat) : habAdd hab [] n = hab := by simp [habAdd]
theorem habAdd_keys (hab : List (Nat × Addr × List Nat)) (cs : List Nat) (n : Nat) : (habAdd hab cs n).map (·.1) = hab.map (·.1) := by
  unfold habAdd
  rw [List.map_map]
  exact List.map_congr_left fun p _ => by simp only [Function.comp_apply]; split <;> rfl
theorem habAdd_set {hab : List (Nat × Addr × List Nat)} {cs : List Nat} {n i k c : Nat} {a : Addr} {us : List Nat} (hn : (hab.map (·.1)).Nodup) (hc : cs.Nodup) (hi : cs[i]? = some c) (hk : (habAdd hab (cs.take i) n)[k]? = some (c, a, us)) :
    (habAdd hab (cs.take i) n).set k (c, a, us ++ [n]) = habAdd hab (cs.take (i + 1)) n := by
  have hcn : c ∉ cs.take i := by
    have e : cs = cs.take i ++ c :: cs.drop (i + 1) := by
      have hlt := (List.getElem?_eq_some_iff.mp hi).1
      have e1 := (List.getElem?_eq_some_iff.mp hi).2
      rw [← e1, ← List.drop_eq_getElem_cons hlt, List.take_append_drop]
    rw [e] at hc
    intro hm
    exact (List.nodup_append.mp hc).2.2 c hm c (.head _) rfl
  have htk : cs.take (i + 1) = cs.take i ++ [c] := by rw [List.take_add_one, hi]; rfl
  have hmem : ∀ x, x ∈ cs.take (i + 1) ↔ x ∈ cs.take i ∨ x = c := fun x => by rw [htk]; simp
  have hn' : ((habAdd hab (cs.take i) n).map (·.1)).Nodup := by rw [habAdd_keys]; exact hn
  have hklt := (List.getElem?_eq_some_iff.mp hk).1
  have hk1 := (List.getElem?_eq_some_iff.mp hk).2
  apply List.ext_getElem (by simp [habAdd])
  intro j h1 h2
  have hj : j < hab.length := by simpa [habAdd] using h2
  by_cases hjk : j = k
  · subst hjk
    rw [List.getElem_set_self]
    simp only [habAdd, List.getElem_map] at hk1 ⊢
    by_cases hm : hab[j].1 ∈ cs.take i
    · rw [if_pos hm] at hk1
      exact absurd (by rw [show c = hab[j].1 from (congrArg (·.1) hk1).symm]; exact hm) hcn
    · rw [if_neg hm] at hk1
      rw [hk1, if_pos ((hmem c).mpr (.inr rfl))]
  · rw [List.getElem_set_ne (fun e => hjk e.symm)]
    simp only [habAdd, List.getElem_map]
    have hjc : hab[j].1 ≠ c := by
      intro e
      have hk2 : k < hab.length := by simpa [habAdd] using hklt
      have e2 : hab[k].1 = c := by
        have := congrArg (·.1) hk1
        simp only [habAdd, List.getElem_map] at this
        split at this <;> exact this
      have := List.pairwise_iff_getElem.mp hn
      rcases Nat.lt_or_gt_of_ne hjk with hl | hl
      · exact this j k (by simpa using hj) (by simpa using hk2) hl (by simp [e, e2])
      · exact this k j (by simpa using hk2) (by simpa using hj) hl (by simp [e, e2])
    by_cases hm : hab[j].1 ∈ cs.take i
    · rw [if_pos hm, if_pos ((hmem _).mpr (.inl hm))]
    · rw [if_neg hm, if_neg fun h => ((hmem _).mp h).elim hm hjc]
theorem habAdd_mem {hab : List (Nat × Addr × List Nat)} {cs : List Nat} {n : Nat} {p : Nat × Addr × List Nat} (h : p ∈ habAdd hab cs n) : ∃ q ∈ hab, p.1 = q.1 ∧ (p.2.2 = if q.1 ∈ cs then q.2.2 ++ [n] else q.2.2) := by
  obtain ⟨q, hq, rfl⟩ := List.mem_map.mp h
  refine ⟨q, hq, ?_, ?_⟩ <;> split <;> rfl

/-- a number that is new, ere it is looked at -/
inductive New (σ : St) (nd : Node) : St → Prop
  | mk {d D Dh : Addr} {w1 d1 : Int} {cs : List Nat} : (∀ q ∈ σ.numbers, q.1 ≠ nd) → (∀ x, x ∈ cs ↔ x ∈ nd.2.map (root (σ.parent ++ [σ.parent.length]))) → New σ nd
      { σ with nodes := σ.nodes ++ [(d, nd)], numbers := σ.numbers ++ [(nd, d, σ.nodes.length)], weights := σ.weights ++ [w1], depths := σ.depths ++ [d1], parent := σ.parent ++ [σ.parent.length], lots := σ.lots ++ [(D, [σ.lots.length])], hab := habAdd (σ.hab ++ [(σ.nodes.length, Dh, [])]) cs σ.nodes.length }
end
section
section
variable {w : World} {Z : Heap} {b₀ : Shared} {P P' : Pers} {L a y C I : Addr} {loc loc' : List (Str × LV)} {tmp tmp' : List (Addr × G)} {tt tt' : List (Addr × List LV)} {s s' : Shared} {h' : Heap} {tk : Nat} {g g' : G}
  {A : Around} {E : Value → Shared → Prop} {env : Env} {x : Str} {pos : Pos} {Q : Value → Shared → Prop} {QU : Unit → Shared → Prop} {QF : Flow → Shared → Prop} {n : Nat} {fs : List (Str × Value)} {ad : Ad} {σ : St}
theorem num_at {nd : Node} {p : Node × Addr × Nat} {X : List Nat} {T : List (Nat × Nat)} (v : Inv σ X T) (hp : p ∈ σ.numbers) (e : p.1 = nd) : (nds σ)[p.2.2]? = some nd := by
  have h : (p.1, p.2.2) ∈ (nds σ).zipIdx := by rw [← v.nums]; exact List.mem_map.mpr ⟨p, hp, rfl⟩
  rw [List.mem_zipIdx_iff_getElem?] at h
  rw [← e]; exact h
theorem r_appHab {k c n : Nat} {t : Tok} {us : List Nat} (cf : Cfg w Z b₀ (pers ad σ) L loc tmp tt s) (hk : σ.hab[k]? = some (c, a, us)) (hz : us.length ≤ 1000000) (h : ∀ s', Cfg w Z b₀ (pers ad { σ with hab := σ.hab.set k (c, a, us ++ [n]) }) L loc tmp tt s' → Q .none s') :
    wpAny (model prg w) A (call (.builtin "list.append") [.ref a, .int (n : Int) t]) Q E s :=
  r_append (l := .int (n : Int)) (P' := pers ad { σ with hab := σ.hab.set k (c, a, us ++ [n]) }) cf (by rw [← nlv_snoc]; exact p_habl hk) (fun p hp => hp) ⟨t, rfl⟩ (by rw [nlv_len]; exact hz) h
theorem wordsF17a : True := by
  k_with "spec" => ((fail_if_success (have := endF17)); ((with_reducible show wpAny _ _ (call (.ref 105) _) _ _ _); refine take_spec (by k_extra "cfg") (by assumption) (by k_extra "room") (by assumption) (by assumption) (by assumption) (by assumption) (by assumption) (by assumption) (by k_extra "mem") (by assumption) (by assumption) ?_ ?_; all_goals intros))
  k_with "spec" => ((fail_if_success (have := endF17)); ((with_reducible show wpAny _ _ (call (.ref 301) _) _ _ _); refine usize_spec (by k_extra "cfg") (by assumption) (by k_extra "room") (by assumption) (by assumption) ?_; intro _ _ _))
  k_with "spec" => ((fail_if_success (have := endF17)); ((with_reducible show wpAny _ _ (call (.ref 294) _) _ _ _); refine make_spec (by k_extra "cfg") (by assumption) (by k_extra "room") (by assumption) (by assumption) (by assumption) ?_; intro _ _ _ _ _))
  k_with "spec" => ((fail_if_success (have := endF17)); ((with_reducible show wpAny _ _ (call (.ref 407) _) _ _ _); refine hfind_spec (by k_extra "cfg") (by assumption) (by k_extra "room") (by assumption) (by assumption) (by first | assumption | omega) ?_; intro _ _ _))
  k_with "spec" => ((fail_if_success (have := endF17)); ((with_reducible show wpAny _ _ (call (.ref 400) _) _ _ _); refine look_spec (by k_extra "cfg") (by assumption) (by k_extra "room") (by assumption) (by assumption) ?_; intro _ _ _ _))
  k_with "spec" => ((fail_if_success (have := endF17)); ((with_reducible show wpAny _ _ (call (.builtin "list.append") _) _ _ _); refine r_appHab (by k_extra "cfg") (by assumption) (by assumption) ?_; intro _ _))
  k_with "setI" => ((fail_if_success (have := endF17)); (refine r_newHab (by k_extra "cfg") (by assumption) (by assumption) ?_; intro _ _))
  k_with "subH" => ((fail_if_success (have := endF17)); (refine r_getHab (by k_extra "cfg") (by assumption) (by assumption) ?_; intro _ _))
  exact trivial
noncomputable def habSt (σ : St) (cs : List Nat) (i n : Nat) : St := { σ with hab := habAdd σ.hab (cs.take i) n }
theorem r_forH {target : Expr} {body orelse : List Stmt} {l0 : LV} {D : Addr} (f : LV → List (Str × LV)) (cs : List Nat) (n : Nat) (hh : A.handled = none) (hD : ∀ g, (D, .list (nlv cs)) ∈ (I, g) :: tmp)
    (turn : ∀ i s t k lv, cs[i]? = some k → Cfg w Z b₀ (pers ad (habSt σ cs i n)) L (f lv) ((I, .liter D (i + 1)) :: tmp) tt s →
      wpAny (model prg w) A (assign target env (.int (k : Int) t)) (fun _ s₂ => wpAny (model prg w) A (execs body env) (BodyV w Z b₀ L (pers ad (habSt σ cs (i + 1) n)) f ((I, .liter D (i + 1)) :: tmp) tt QF) F0 s₂) F0 s)
    (done : ∀ lv s, Cfg w Z b₀ (pers ad { σ with hab := habAdd σ.hab cs n }) L (f lv) tmp tt s → wpAny (model prg w) A (execs orelse env) QF F0 s)
    (c : Cfg w Z b₀ (pers ad σ) L (f l0) ((I, .liter D 0) :: tmp) tt s) (ht : ∀ v, letOwnedTupleGo target (.ref I) v = pure () := by intro _; rfl) :
    FORgo w A env target body orelse QF E (.ref I) s := by
  refine r_forV (Z := Z) (b₀ := b₀) (L := L) (tt := tt) f (fun i => pers ad (habSt σ cs i n)) (fun _ => tmp) (nx_list (l := D) (xs := nlv cs)) hh (fun i => List.mem_append_left _ (hD _)) (fun i s v l lv hx hv c => ?_) (fun lv s c => ?_) (l0 := l0) ?_ ht
  · simp only [nlv, List.getElem?_map, Option.map_eq_some_iff] at hx
    obtain ⟨k, hk, rfl⟩ := hx
    obtain ⟨t, rfl⟩ := hv
    exact turn i s t k lv hk c
  · rw [nlv_len, habSt, List.take_length] at c
    exact done lv s c
  · rw [habSt, List.take_zero, habAdd_nil]
    exact c
theorem habSt_set {cs : List Nat} {n i k c : Nat} {a : Addr} {us : List Nat} (hn : (σ.hab.map (·.1)).Nodup) (hc : cs.Nodup) (hi : cs[i]? = some c) (hk : (habSt σ cs i n).hab[k]? = some (c, a, us)) : { habSt σ cs i n with hab := (habSt σ cs i n).hab.set k (c, a, us ++ [n]) } = habSt σ cs (i + 1) n := by
  have := habAdd_set hn hc hi hk
  show { σ with hab := _ } = { σ with hab := _ }
  rw [show (habSt σ cs i n).hab = habAdd σ.hab (cs.take i) n from rfl, this]
theorem habSt_ent {cs : List Nat} {n i c : Nat} (hm : c ∈ σ.hab.map (·.1)) : ∃ (k : Nat) (a : Addr) (us : List Nat), (habSt σ cs i n).hab[k]? = some (c, a, us) := by
  rw [← habAdd_keys σ.hab (cs.take i) n] at hm
  obtain ⟨⟨r, a, us⟩, h1, rfl⟩ := List.mem_map.mp hm
  obtain ⟨k, hk⟩ := List.mem_iff_getElem?.mp h1
  exact ⟨k, a, us, hk⟩
theorem habSt_entC {cs : List Nat} {n i r : Nat} (_ : Cfg w Z b₀ (pers ad (habSt σ cs i n)) L loc tmp tt s) (hm : r ∈ σ.hab.map (·.1)) : ∃ (k : Nat) (a : Addr) (us : List Nat), (habSt σ cs i n).hab[k]? = some (r, a, us) := habSt_ent hm
theorem habSt_nd {cs : List Nat} {n i : Nat} (_ : Cfg w Z b₀ (pers ad (habSt σ cs i n)) L loc tmp tt s) (hn : (σ.hab.map (·.1)).Nodup) : ((habSt σ cs i n).hab.map (·.1)).Nodup := by
  show ((habAdd σ.hab (cs.take i) n).map (·.1)).Nodup
  rw [habAdd_keys]; exact hn
theorem habSt_len {cs : List Nat} {n i r k m : Nat} {us : List Nat} (_ : Cfg w Z b₀ (pers ad (habSt σ cs i n)) L loc tmp tt s) (hb : ∀ p ∈ σ.hab, p.2.2.length ≤ m) (hq : (habSt σ cs i n).hab[k]? = some (r, a, us)) : us.length ≤ m + 1 := by
  obtain ⟨q, h1, h2, h3⟩ := habAdd_mem (List.mem_of_getElem? hq)
  have := hb q h1
  dsimp only at h3
  rw [h3]
  split <;> simp <;> (first | lia | omega)
theorem wordsF17b : True := by
  k_with "for" => ((fail_if_success (have := endF17)); (refine r_For ?_))
  exact trivial
set_option maxHeartbeats 8000000 in
theorem add_spec {k : Nat} {t : Tok} {ks : List Nat} {kt : Addr} {T : List (Nat × Nat)} (c : Cfg w Z b₀ (pers ad σ) L loc tmp tt s) (B : Base w Z) (r : Room 8 A) (fz : Froz ad Z) (v : Inv σ σ.waiting T) (ok : OpOk k) (h12 : σ.nodes.length < 12)
    (hkt : (kt, nlv ks) ∈ tt) (hkl : ks.length ≤ 2) (hks : ∀ j ∈ ks, j < σ.nodes.length) (hnew : ∀ σ1, New σ (⟨#[k]⟩, ks) σ1 → Inv σ1 (σ.nodes.length :: σ1.waiting) T)
    (old : ∀ i t' s', (nds σ)[i]? = some (⟨#[k]⟩, ks) → Cfg w Z b₀ (pers ad σ) L loc tmp tt s' → Q (.int (i : Nat) t') s')
    (new : ∀ σ1 σ' t' s', New σ (⟨#[k]⟩, ks) σ1 → Look σ1 σ.nodes.length σ' → Cfg w Z b₀ (pers ad σ') L loc tmp tt s' → Q (.int (σ.nodes.length : Int) t') s') :
    wpAny (model prg w) A (call (.ref 386) [.ref ad.hp, .str ⟨#[k]⟩ t, .ref kt]) Q E s := by
  have hpl := v.plen
  have hb : σ.nodes.length ≤ 64 := by (first | lia | omega)
  have hnl : σ.numbers.length = σ.nodes.length := by have := congrArg List.length v.nums; simpa [nds_len] using this
  have hnu : σ.numbers.length ≤ 1000000 := by (first | lia | omega)
  have hw := v.wts
  have hd := v.dps
  have hkl3 : ks.length ≤ 1000 := by (first | lia | omega)
  have hp := v.pw
  have hp64 : σ.parent.length ≤ 64 := hp.len
  have hp6 : σ.parent.length ≤ 1000000 := by (first | lia | omega)
  have hll : σ.lots.length ≤ 1000000 := by rw [v.lotsL]; (first | lia | omega)
  have hN : σ.nodes.length ∉ σ.hab.map (·.1) := fun h => by have := ((v.habK _).mp h).1; (first | lia | omega)
  have hhz : σ.hab.length ≤ 1000000 := by have := v.habM; (first | lia | omega)
  have hp2 : PW (σ.parent ++ [σ.parent.length]) := ⟨falls_snoc hp.falls, by simp; (first | lia | omega)⟩
  have hks2 : ∀ j ∈ ks, j < (σ.parent ++ [σ.parent.length]).length := fun j hj => by have := hks j hj; simp; (first | lia | omega)
  refine r_callC (n := 7) (binds := [(Str.ofString "self", .ref ad.hp), (Str.ofString "op", .str ⟨#[k]⟩ t), (Str.ofString "numbers", .ref kt)]) c B r (by k_is) (by k_is) (BindsTo.of_eq rfl) (by rfl) (by decide +kernel) [(Str.ofString "op", .str ⟨#[k]⟩), (Str.ofString "numbers", .ref kt), (Str.ofString "n", .unset), (Str.ofString "c", .unset)] (fun L' => [(L' + 1, .ref ad.hp)]) ?_ ?_ ?_ ?_
  · intro L'; k_extra "locs"
  · k_extra "nodup"
  · intro L'
    exact (show All2 _ [(Str.ofString "self", L' + 1)] _ from .cons ⟨rfl, ⟨_, rfl, rfl⟩⟩ .nil)
  intro L' fo A' s' hb' r' c'
  change Cfg _ _ _ _ _ _ ((L' + 1, .cell (.ref ad.hp)) :: (L, .obj fo) :: tmp) _ _ at c'
  k_extra "go"
  · rename Node × Addr × Nat => p
    rename p ∈ σ.numbers => hp1
    rename p.1 = _ => hp2
    have hx := num_at v hp1 hp2
    refine old _ _ _ hx ?g
    case g => k_extra "leave"
  · exfalso
    rename Node × Addr × Nat => p
    rename p ∈ σ.numbers => hp1
    rename p.1 = _ => hp2
    have := lt_of_at (num_at v hp1 hp2)
    (first | lia | omega)
  · exfalso; dsimp only at *; (first | lia | omega)
  · have hnn : ∀ q ∈ σ.numbers, q.1 ≠ (⟨#[k]⟩, ks) := by assumption
    refine r_LCnat ks (fun k => .int (k : Int)) (root (σ.parent ++ [σ.parent.length])) nx_tup r'.h (by decide +kernel) rfl rfl ?_ (by (first | lia | omega)) ?_ ?_ (by assumption)
    · intro D fo i acc; exact List.mem_append_left _ hkt
    · intro C D fo i acc s j hj c
      have hj2 := hks2 j (List.mem_of_getElem? hj)
      k_extra "go"
      k_extra "elt"
    · intro C D fo s lv hb c
      refine post_Q ?_ hb c
      intro s' c'
      have hl1 : (ks.map (root (σ.parent ++ [σ.parent.length]))).length = ks.length := List.length_map ..
      have h64 : (setOf (toI (ks.map (root (σ.parent ++ [σ.parent.length]))))).length < 64 := by
        have := len_setOf (l := toI (ks.map (root (σ.parent ++ [σ.parent.length]))))
        simp only [toI, List.length_map] at this
        simp only [toI]; (first | lia | omega)
      k_extra "go"
      obtain ⟨cs, e1, e2, e3, e4⟩ := sorted_set (ks.map (root (σ.parent ++ [σ.parent.length])))
      have ce : (sortI (setOf (toI (ks.map (root (σ.parent ++ [σ.parent.length])))))).map LV.int = nlv cs := by rw [e1, nlv_toI]
      have hK : ∀ Dh : Addr, ((σ.hab ++ [(σ.nodes.length, Dh, ([] : List Nat))]).map (·.1)).Nodup := fun Dh => by
        rw [List.map_append, List.nodup_append]
        refine ⟨v.habN, by simp, fun x hx y hy e => ?_⟩
        simp only [List.map_cons, List.map_nil, List.mem_singleton] at hy
        subst hy; subst e; exact hN hx
      have hC : ∀ Dh : Addr, ∀ r ∈ cs, r ∈ (σ.hab ++ [(σ.nodes.length, Dh, ([] : List Nat))]).map (·.1) := fun Dh r hr => by
        rw [List.map_append]
        obtain ⟨j, hj, rfl⟩ := List.mem_map.mp ((e3 r).mp hr)
        have hjn := hks j hj
        rw [root_snoc hp.falls j (by (first | lia | omega))]
        exact List.mem_append_left _ ((v.habK _).mpr ⟨root_lt hjn, root_root hp.falls j⟩)
      have hB : ∀ Dh : Addr, ∀ p ∈ σ.hab ++ [(σ.nodes.length, Dh, ([] : List Nat))], p.2.2.length ≤ 49152 := fun Dh p hp => by
        rcases List.mem_append.mp hp with hp | hp
        · have := v.habB p hp
          have := v.pow
          (first | lia | omega)
        · rw [List.mem_singleton.mp hp]; exact Nat.zero_le _
      have c9 := ‹Cfg _ _ _ _ _ _ ((_, G.liter _ 0) :: _) _ _›
      rw [ce] at c9
      refine r_forH (fun lv => [(Str.ofString "op", .str ⟨#[k]⟩), (Str.ofString "numbers", .ref kt), (Str.ofString "n", .int (σ.nodes.length : Int)), (Str.ofString "c", lv)]) cs σ.nodes.length r'.h ?_ ?_ ?_ c9
      · intro g; exact .tail _ (.head _)
      · intro i s t r lv hr c
        obtain ⟨q, a, us, hq⟩ := habSt_entC c (hC _ r (List.mem_of_getElem? hr))
        have hnd := habSt_nd c (hK _)
        have hm := List.mem_of_getElem? hq
        have hl := habSt_len c (hB _) hq
        have hl2 : us.length ≤ 1000000 := by (first | lia | omega)
        have eS := habSt_set (hK _) e2.nodup hr hq
        k_extra "go"
        refine' BodyV.next ?c ?h ?t
        case c => rw [← eS]; k_extra "cfg"
        case h => k_extra "suf"
        case t => k_extra "suf"
      · intro lv s c
        obtain ⟨σ1, hnw, c1⟩ : ∃ σ1, New σ (⟨#[k]⟩, ks) σ1 ∧ Cfg w Z b₀ (pers ad σ1) L' _ _ _ s := ⟨_, .mk hnn e3, c⟩
        have hv := hnew _ hnw
        clear c
        k_extra "go"
        refine new _ _ _ _ hnw (by assumption) ?g
        case g => k_extra "leave"
end
theorem endF17 : True := trivial
end
section
theorem Inv.spot {σ : St} {X : List Nat} {T : List (Nat × Nat)} {n : Nat} (u : Inv σ X T) : Inv { σ with spot := n } X T :=
  ⟨u.falls, u.plen, u.n12, u.p12, u.lotsL, u.lotsB, u.habN, u.habK, u.habM, u.habB, u.habU, u.xs, u.cnt, u.edgL, u.forL, u.edgB, u.forB, u.kids, u.knN, u.knS, u.comp, u.sound, u.told, u.tsub, u.nums, u.ndsN, u.wts, u.dps⟩
theorem Inv.rows {σ : St} {X : List Nat} {T : List (Nat × Nat)} {l : List (Addr × Node)} (u : Inv σ X T) : Inv { σ with rows := l } X T :=
  ⟨u.falls, u.plen, u.n12, u.p12, u.lotsL, u.lotsB, u.habN, u.habK, u.habM, u.habB, u.habU, u.xs, u.cnt, u.edgL, u.forL, u.edgB, u.forB, u.kids, u.knN, u.knS, u.comp, u.sound, u.told, u.tsub, u.nums, u.ndsN, u.wts, u.dps⟩
theorem Inv.pairs {σ : St} {X : List Nat} {T : List (Nat × Nat)} {q : Addr × Nat × Nat} (u : Inv σ X T) (h : σ.pairs.length < 12) : Inv { σ with pairs := σ.pairs ++ [q] } X T :=
  ⟨u.falls, u.plen, u.n12, by rw [List.length_append]; exact h, u.lotsL, u.lotsB, u.habN, u.habK, u.habM, u.habB, u.habU, u.xs, u.cnt, Nat.le_trans u.edgL (by simp), u.forL, u.edgB, u.forB, u.kids, u.knN, u.knS, u.comp,
    fun i hi => (u.sound i hi).mono (fun _ _ h => h) fun q hq => by simp only [prs, List.map_append] at hq ⊢; exact List.mem_append_left _ hq, u.told,
    fun q hq => by simp only [prs, List.map_append]; exact List.mem_append_left _ (u.tsub q hq), u.nums, u.ndsN, u.wts, u.dps⟩

theorem snoc_at {α : Type} {l : List α} {x y : α} {i : Nat} : (l ++ [y])[i]? = some x ↔ l[i]? = some x ∨ (i = l.length ∧ y = x) := by
  by_cases h : i < l.length
  · rw [List.getElem?_append_left h]
    exact ⟨.inl, fun h' => h'.elim id fun e => by (first | lia | omega)⟩
  · rw [List.getElem?_append_right (by (first | lia | omega))]
    constructor
    · intro h'
      have h2 := (List.getElem?_eq_some_iff.mp h').1
      simp at h2
      have : i = l.length := by (first | lia | omega)
      subst this
      simp at h'
      exact .inr ⟨rfl, h'⟩
    · rintro (h' | ⟨rfl, rfl⟩)
      · exact absurd (List.getElem?_eq_some_iff.mp h').1 h
      · simp
theorem canon_congr {f g : Nat → Nat} {x : Node} (h : ∀ k ∈ x.2, f k = g k) : canon f x = canon g x := by
  unfold canon; rw [List.map_congr_left h]
theorem Inv.new {σ σ1 : St} {T : List (Nat × Nat)} {nd : Node} (v : Inv σ σ.waiting T) (h : New σ nd σ1) (h12 : σ.nodes.length < 12) (hk : ∀ k ∈ nd.2, k < σ.nodes.length) (hl : nd.2.length ≤ 2) : Inv σ1 (σ.nodes.length :: σ1.waiting) T := by
  cases h with
  | @mk d D Dh w1 d1 cs hnn hcs =>
  have hpl := v.plen
  have hf := v.falls
  have hr : ∀ k, k < σ.nodes.length → root (σ.parent ++ [σ.parent.length]) k = root σ.parent k := fun k hk => root_snoc hf k (by (first | lia | omega))
  have hrn : root (σ.parent ++ [σ.parent.length]) σ.nodes.length = σ.nodes.length := by rw [← hpl]; exact root_new
  have ends : ∀ (i : Nat) (x : Node), ((σ.nodes ++ [(d, nd)]).map (·.2))[i]? = some x ↔ (nds σ)[i]? = some x ∨ (i = σ.nodes.length ∧ nd = x) := fun i x => by
    rw [List.map_append, List.map_cons, List.map_nil]
    rw [snoc_at]
    simp only [nds, List.length_map]
  have kids : ∀ (i : Nat) (x : Node), (nds σ)[i]? = some x → ∀ k ∈ x.2, k < σ.nodes.length := fun i x hx k hk => by
    have := (v.kids i x hx).1 k hk
    have := lt_of_at hx
    (first | lia | omega)
  have hnd : nd ∉ nds σ := fun hm => by
    obtain ⟨i, hi⟩ := List.mem_iff_getElem?.mp hm
    have : (nd, i) ∈ (nds σ).zipIdx := by rw [List.mem_zipIdx_iff_getElem?]; exact hi
    rw [← v.nums] at this
    obtain ⟨q, hq, e⟩ := List.mem_map.mp this
    exact hnn q hq (congrArg (·.1) e)
  have hcsn : ∀ x ∈ cs, x < σ.nodes.length := fun x hx => by
    obtain ⟨k, hk1, rfl⟩ := List.mem_map.mp ((hcs x).mp hx)
    rw [hr k (hk k hk1)]
    exact root_lt (hk k hk1)
  have kmono : ∀ i j, Cong (nds σ) (prs σ) i j → Cong ((σ.nodes ++ [(d, nd)]).map (·.2)) (prs σ) i j := fun i j h => h.mono (fun i x hx => (ends i x).mpr (.inl hx)) fun _ h => h
  have pow2 : (σ.nodes.length + 1) * 2 ^ σ.mrg.length = σ.nodes.length * 2 ^ σ.mrg.length + 2 ^ σ.mrg.length := by rw [Nat.add_mul, Nat.one_mul]
  have pow0 : 0 < 2 ^ σ.mrg.length := Nat.pow_pos (by decide)
  have hL : (σ.nodes ++ [(d, nd)]).length = σ.nodes.length + 1 := by simp
  constructor
  · exact falls_snoc hf
  · show (σ.parent ++ _).length = (σ.nodes ++ _).length
    simp [hpl]
  · show (σ.nodes ++ _).length ≤ 12
    simp; (first | lia | omega)
  · exact v.p12
  · show (σ.lots ++ _).length = (σ.nodes ++ _).length
    simp [v.lotsL]
  · intro p hp
    rcases List.mem_append.mp hp with hp | hp
    · exact v.lotsB p hp
    · rw [List.mem_singleton.mp hp]; exact pow0
  · show ((habAdd _ _ _).map (·.1)).Nodup
    rw [habAdd_keys, List.map_append, List.nodup_append]
    refine ⟨v.habN, by simp, fun x hx y hy e => ?_⟩
    simp only [List.map_cons, List.map_nil, List.mem_singleton] at hy
    have := ((v.habK x).mp hx).1
    (first | lia | omega)
  · intro r
    show r ∈ (habAdd _ _ _).map (·.1) ↔ r < (σ.nodes ++ [(d, nd)]).length ∧ (σ.parent ++ [σ.parent.length]).getD r 0 = r
    rw [habAdd_keys, List.map_append, List.mem_append, v.habK, hL, getD_snoc]
    simp only [List.map_cons, List.map_nil, List.mem_singleton]
    constructor
    · rintro (⟨h1, h2⟩ | rfl)
      · exact ⟨by (first | lia | omega), by rw [if_neg (by (first | lia | omega))]; exact h2⟩
      · exact ⟨by (first | lia | omega), by rw [if_pos hpl.symm]⟩
    · rintro ⟨h1, h2⟩
      by_cases e : r = σ.nodes.length
      · exact .inr e
      · rw [if_neg (by (first | lia | omega))] at h2
        exact .inl ⟨by (first | lia | omega), h2⟩
  · show (habAdd _ _ _).length + σ.mrg.length = (σ.nodes ++ _).length
    rw [hL]
    have := v.habM
    simp [habAdd]; (first | lia | omega)
  · intro p hp
    obtain ⟨q, hq, e1, e2⟩ := habAdd_mem hp
    show p.2.2.length ≤ (σ.nodes ++ [(d, nd)]).length * 2 ^ σ.mrg.length
    rw [hL, pow2, e2]
    have hq2 : q.2.2.length ≤ σ.nodes.length * 2 ^ σ.mrg.length := by
      rcases List.mem_append.mp hq with hq | hq
      · exact v.habB q hq
      · rw [List.mem_singleton.mp hq]; exact Nat.zero_le _
    split
    · rw [List.length_append]; simp; (first | lia | omega)
    · (first | lia | omega)
  · intro p hp i
    obtain ⟨q, hq, e1, e2⟩ := habAdd_mem hp
    show i ∈ p.2.2 ↔ ∃ x : Node, ((σ.nodes ++ [(d, nd)]).map (·.2))[i]? = some x ∧ ∃ k ∈ x.2, root (σ.parent ++ [σ.parent.length]) k = p.1
    rw [e1, e2]
    have hold : i ∈ q.2.2 ↔ ∃ x : Node, (nds σ)[i]? = some x ∧ ∃ k ∈ x.2, root (σ.parent ++ [σ.parent.length]) k = q.1 := by
      rcases List.mem_append.mp hq with hq | hq
      · rw [v.habU q hq i]
        constructor
        · rintro ⟨x, hx, k, hk1, hk2⟩; exact ⟨x, hx, k, hk1, by rw [hr k (kids i x hx k hk1)]; exact hk2⟩
        · rintro ⟨x, hx, k, hk1, hk2⟩; exact ⟨x, hx, k, hk1, by rw [hr k (kids i x hx k hk1)] at hk2; exact hk2⟩
      · rw [List.mem_singleton.mp hq]
        constructor
        · intro h; cases h
        · rintro ⟨x, hx, k, hk1, hk2⟩
          have := kids i x hx k hk1
          rw [hr k this] at hk2
          have := root_le (p := σ.parent) k
          dsimp only at hk2
          (first | lia | omega)
    have hnew : (∃ k ∈ nd.2, root (σ.parent ++ [σ.parent.length]) k = q.1) ↔ q.1 ∈ cs := by
      rw [hcs]; exact List.mem_map.symm
    have hni : i = σ.nodes.length → ¬ i ∈ q.2.2 := fun e hm => by
      obtain ⟨x, hx, _⟩ := hold.mp hm
      have := lt_of_at hx
      (first | lia | omega)
    constructor
    · intro hm
      split at hm
      · rcases List.mem_append.mp hm with hm | hm
        · obtain ⟨x, hx, r⟩ := hold.mp hm
          exact ⟨x, (ends i x).mpr (.inl hx), r⟩
        · rw [List.mem_singleton] at hm
          exact ⟨nd, (ends i nd).mpr (.inr ⟨hm, rfl⟩), hnew.mpr (by assumption)⟩
      · obtain ⟨x, hx, r⟩ := hold.mp hm
        exact ⟨x, (ends i x).mpr (.inl hx), r⟩
    · rintro ⟨x, hx, r⟩
      rcases (ends i x).mp hx with hx | ⟨e, rfl⟩
      · have := hold.mpr ⟨x, hx, r⟩
        split
        · exact List.mem_append_left _ this
        · exact this
      · rw [if_pos (hnew.mp r)]
        exact List.mem_append_right _ (by rw [e]; exact .head _)
  · intro i hi
    show i < (σ.nodes ++ [(d, nd)]).length
    rw [hL]
    rcases List.mem_cons.mp hi with rfl | hi
    · (first | lia | omega)
    · have := v.xs i hi; (first | lia | omega)
  · show σ.known.length + (σ.nodes.length :: σ.waiting).length ≤ (σ.nodes ++ [(d, nd)]).length + σ.mrg.length * ((σ.nodes ++ [(d, nd)]).length * 2 ^ σ.mrg.length)
    rw [hL, pow2, List.length_cons, Nat.mul_add]
    have := v.cnt
    (first | lia | omega)
  · exact v.edgL
  · exact v.forL
  · intro e he
    have := v.edgB e he
    show _ < (σ.nodes ++ [(d, nd)]).length ∧ _ < (σ.nodes ++ [(d, nd)]).length
    rw [hL]; (first | lia | omega)
  · exact v.forB
  · intro i x hx
    rcases (ends i x).mp hx with hx | ⟨e, rfl⟩
    · exact v.kids i x hx
    · exact ⟨fun k hk1 => by have := hk k hk1; (first | lia | omega), hl⟩
  · exact v.knN
  · intro q hq
    obtain ⟨h1, x, hx, h2⟩ := v.knS q hq
    refine ⟨fun k hk1 => ?_, x, (ends _ _).mpr (.inl hx), ?_⟩
    · show k < (σ.nodes ++ [(d, nd)]).length
      rw [hL]; have := h1 k hk1; (first | lia | omega)
    · show canon (root (σ.parent ++ [σ.parent.length])) q.1 = canon (root (σ.parent ++ [σ.parent.length])) x
      rw [canon_congr fun k hk1 => hr k (h1 k hk1), canon_congr fun k hk1 => hr k (kids _ x hx k hk1), h2]
  · intro i x hx hi
    rcases (ends i x).mp hx with hx | ⟨e, rfl⟩
    · obtain ⟨q, hq, e1, e2⟩ := v.comp i x hx fun hm => hi (.tail _ hm)
      obtain ⟨_, y, hy, _⟩ := v.knS q hq
      refine ⟨q, hq, ?_, ?_⟩
      · show q.1 = canon (root (σ.parent ++ [σ.parent.length])) x
        rw [canon_congr fun k hk1 => hr k (kids _ x hx k hk1)]; exact e1
      · show root (σ.parent ++ [σ.parent.length]) q.2.2 = root (σ.parent ++ [σ.parent.length]) i
        rw [hr _ (lt_of_at hy), hr _ (lt_of_at hx)]; exact e2
    · exact absurd (by rw [e]; exact .head _) hi
  · intro i hi
    show Cong ((σ.nodes ++ [(d, nd)]).map (·.2)) (prs σ) i (root (σ.parent ++ [σ.parent.length]) i)
    have hi' : i < (σ.nodes ++ [(d, nd)]).length := hi
    rw [hL] at hi'
    by_cases e : i = σ.nodes.length
    · rw [e, hrn]; exact .refl _
    · rw [hr i (by (first | lia | omega))]; exact kmono _ _ (v.sound i (by (first | lia | omega)))
  · intro q hq
    obtain ⟨h1, h2, h3⟩ := v.told q hq
    show q.1 < (σ.nodes ++ [(d, nd)]).length ∧ q.2 < (σ.nodes ++ [(d, nd)]).length ∧ root (σ.parent ++ [σ.parent.length]) q.1 = root (σ.parent ++ [σ.parent.length]) q.2
    rw [hL, hr _ h1, hr _ h2]
    exact ⟨by (first | lia | omega), by (first | lia | omega), h3⟩
  · exact v.tsub
  · show (σ.numbers ++ [(nd, d, σ.nodes.length)]).map (fun p => (p.1, p.2.2)) = ((σ.nodes ++ [(d, nd)]).map (·.2)).zipIdx
    rw [List.map_append, List.map_append, List.zipIdx_append, v.nums]
    simp [nds]
  · show ((σ.nodes ++ [(d, nd)]).map (·.2)).Nodup
    rw [List.map_append, List.nodup_append]
    refine ⟨v.ndsN, by simp, fun x hx y hy e => ?_⟩
    simp only [List.map_cons, List.map_nil, List.mem_singleton] at hy
    subst hy; subst e; exact hnd hx
  · show (σ.weights ++ _).length = (σ.nodes ++ _).length
    simp [v.wts]
  · show (σ.depths ++ _).length = (σ.nodes ++ _).length
    simp [v.dps]

theorem Join.keep {σ σ' : St} {i j : Nat} (h : Join σ i j σ') : σ'.nodes = σ.nodes ∧ σ'.rows = σ.rows ∧ σ'.pairs = σ.pairs ∧ σ'.spot = σ.spot ∧ σ'.cells = σ.cells := by
  cases h <;> exact ⟨rfl, rfl, rfl, rfl, rfl⟩
theorem Look.keep {σ σ' : St} {n : Nat} (h : Look σ n σ') : σ'.nodes = σ.nodes ∧ σ'.rows = σ.rows ∧ σ'.pairs = σ.pairs ∧ σ'.spot = σ.spot ∧ σ'.cells = σ.cells := by
  cases h with
  | old => exact ⟨rfl, rfl, rfl, rfl, rfl⟩
  | join _ _ _ _ h => exact h.keep
  | new => exact ⟨rfl, rfl, rfl, rfl, rfl⟩
theorem New.keep {σ σ' : St} {nd : Node} (h : New σ nd σ') : nds σ' = nds σ ++ [nd] ∧ σ'.rows = σ.rows ∧ σ'.pairs = σ.pairs ∧ σ'.spot = σ.spot ∧ σ'.cells = σ.cells := by
  cases h; exact ⟨by simp [nds], rfl, rfl, rfl, rfl⟩
end
section
section
variable {w : World} {Z : Heap} {b₀ : Shared} {P P' : Pers} {L a y C I : Addr} {loc loc' : List (Str × LV)} {tmp tmp' : List (Addr × G)} {tt tt' : List (Addr × List LV)} {s s' : Shared} {h' : Heap} {tk : Nat} {g g' : G}
  {A : Around} {E : Value → Shared → Prop} {env : Env} {x : Str} {pos : Pos} {Q : Value → Shared → Prop} {QU : Unit → Shared → Prop} {QF : Flow → Shared → Prop} {n : Nat} {fs : List (Str × Value)} {ad : Ad} {σ : St}
theorem r_appPairs {i j : Nat} {d : Addr} (c : Cfg w Z b₀ (pers ad σ) L loc tmp tt s) (hm : (d, [LV.int (i : Int), .int (j : Int)]) ∈ tt) (hz : σ.pairs.length ≤ 1000000) (h : ∀ s', Cfg w Z b₀ (pers ad { σ with pairs := σ.pairs ++ [(d, i, j)] }) L loc tmp tt s' → Q .none s') :
    wpAny (model prg w) A (call (.builtin "list.append") [.ref ad.pairs, .ref d]) Q E s := by
  have e : refs σ.pairs ++ [LV.ref d] = refs (σ.pairs ++ [(d, i, j)]) := by simp [refs]
  refine r_append (l := .ref d) (P' := pers ad { σ with pairs := σ.pairs ++ [(d, i, j)] }) (tmp' := tmp) c (by rw [e]; exact p_pairs) (fun p hp => ?_) rfl (by rw [refs_len]; exact hz) h
  rcases List.mem_append.mp hp with hp | hp
  · exact List.mem_append_left _ hp
  · simp only [pers, pairT, List.map_append, List.mem_append, List.map_cons, List.map_nil, List.mem_singleton] at hp ⊢
    rcases hp with h | h | h | h | h | h | h
    · exact .inr (.inl h)
    · exact .inr (.inr (.inl h))
    · exact .inr (.inr (.inr (.inl h)))
    · exact .inr (.inr (.inr (.inr (.inl h))))
    · exact .inr (.inr (.inr (.inr (.inr (.inl h)))))
    · exact .inr (.inr (.inr (.inr (.inr (.inr h)))))
    · subst h; exact .inl hm
theorem r_appRows {d : Addr} {nd : Node} (c : Cfg w Z b₀ (pers ad σ) L loc tmp tt s) (hd : (d, nlvs nd) ∈ tt) (hz : σ.rows.length ≤ 1000000)
    (h : ∀ s', Cfg w Z b₀ (pers ad { σ with rows := σ.rows ++ [(d, nd)] }) L loc tmp tt s' → Q .none s') : wpAny (model prg w) A (call (.builtin "list.append") [.ref ad.rows, .ref d]) Q E s := by
  have e : refs σ.rows ++ [LV.ref d] = refs (σ.rows ++ [(d, nd)]) := by simp [refs]
  refine r_append (l := .ref d) (P' := pers ad { σ with rows := σ.rows ++ [(d, nd)] }) (tmp' := tmp) c (by rw [e]; exact p_rows) (fun p hp => ?_) rfl (by rw [refs_len]; exact hz) h
  rcases List.mem_append.mp hp with hp | hp
  · exact List.mem_append_left _ hp
  · simp only [pers, nodeT, List.map_append, List.mem_append, List.map_cons, List.map_nil, List.mem_singleton] at hp ⊢
    rcases hp with h | h | h | h | (h | h) | h
    · exact .inr (.inl h)
    · exact .inr (.inr (.inl h))
    · exact .inr (.inr (.inr (.inl h)))
    · exact .inr (.inr (.inr (.inr (.inl h))))
    · exact .inr (.inr (.inr (.inr (.inr (.inl h)))))
    · subst h; exact .inl hd
    · exact .inr (.inr (.inr (.inr (.inr (.inr h)))))
theorem notch2 {t : Tok} (c : Cfg w Z b₀ (pers ad σ) L loc tmp tt s) (B : Base w Z) (r : Room 2 A) (hs : σ.spot ≤ 100000) (hc : σ.cells.length ≤ 100000)
    (ret : ∀ v t' s', v < 2 → Cfg w Z b₀ (pers ad { σ with spot := σ.spot + 1 }) L loc tmp tt s' → Q (.int (v : Nat) t') s') :
    wpAny (model prg w) A (call (.ref 494) [.ref ad.stick, .int 2 t]) Q E s := notch_spec (m := 2) c B r (by (first | lia | omega)) hs hc ret
theorem notch4 {t : Tok} (c : Cfg w Z b₀ (pers ad σ) L loc tmp tt s) (B : Base w Z) (r : Room 2 A) (hs : σ.spot ≤ 100000) (hc : σ.cells.length ≤ 100000)
    (ret : ∀ v t' s', v < 4 → Cfg w Z b₀ (pers ad { σ with spot := σ.spot + 1 }) L loc tmp tt s' → Q (.int (v : Nat) t') s') :
    wpAny (model prg w) A (call (.ref 494) [.ref ad.stick, .int 4 t]) Q E s := notch_spec (m := 4) c B r (by (first | lia | omega)) hs hc ret
theorem wordsF18a : True := by
  k_with "spec" => ((fail_if_success (have := endF18)); ((with_reducible show wpAny _ _ (call (.ref 494) _) _ _ _); first
      | (refine notch2 (by k_extra "cfg") (by assumption) (by k_extra "room") (by first | assumption | omega) (by assumption) ?_; intros)
      | (refine notch4 (by k_extra "cfg") (by assumption) (by k_extra "room") (by first | assumption | omega) (by assumption) ?_; intros)))
  k_with "spec" => ((fail_if_success (have := endF18)); ((with_reducible show wpAny _ _ (call (.ref 494) _) _ _ _); refine notch_spec (by k_extra "cfg") (by assumption) (by k_extra "room") (by first | assumption | omega) (by first | assumption | omega) (by assumption) ?_; intros))
  k_with "spec" => ((fail_if_success (have := endF18)); ((with_reducible show wpAny _ _ (call (.builtin "list.append") _) _ _ _); first
      | (refine r_appPairs (by k_extra "cfg") (by k_extra "mem") (by assumption) ?_; intro _ _)
      | (refine r_appRows (by k_extra "cfg") (by k_extra "mem") (by assumption) ?_; intro _ _)))
  exact trivial
set_option maxHeartbeats 8000000 in
theorem told_spec {T : List (Nat × Nat)} (c : Cfg w Z b₀ (pers ad σ) L loc tmp tt s) (B : Base w Z) (r : Room 6 A) (fz : Froz ad Z) (v : Inv σ σ.waiting T) (hr : σ.rows.length = σ.nodes.length) (h0 : 0 < σ.nodes.length) (hs : σ.spot ≤ 90000) (hc : σ.cells.length ≤ 100000) (hp : σ.pairs.length < 12)
    (ret : ∀ i j pt σ' s', i < σ.nodes.length → j < σ.nodes.length → Join { σ with spot := σ.spot + 1 + 1, pairs := σ.pairs ++ [(pt, i, j)] } i j σ' → Cfg w Z b₀ (pers ad σ') L loc tmp tt s' → Q .none s') :
    wpAny (model prg w) A (call (.ref 511) [.ref ad.stick, .ref ad.hp, .ref ad.rows, .ref ad.pairs]) Q E s := by
  have hr0 : 0 < σ.rows.length := by (first | lia | omega)
  have hn12 := v.n12
  have hpz : σ.pairs.length ≤ 1000000 := by (first | lia | omega)
  have hs1 : σ.spot ≤ 100000 := by (first | lia | omega)
  have hs2 : σ.spot + 1 ≤ 100000 := by (first | lia | omega)
  refine r_callP (n := 5) c B r (by k_is) (by k_is) (BindsTo.of_eq rfl) (locs rfl) (by decide) [(Str.ofString "stick", .ref ad.stick), (Str.ofString "heap", .ref ad.hp), (Str.ofString "rows", .ref ad.rows), (Str.ofString "pairs", .ref ad.pairs), (Str.ofString "one", .unset), (Str.ofString "other", .unset)] ?_ ?_ ?_
  · k_extra "locs"
  · k_extra "nodup"
  intro L' fo A' s' hb' r' c'
  k_extra "go"
  refine' joinM_spec (Y := []) (T := T) ?c B ?r fz ?v ?hi ?hj ?_
  case c => k_extra "cfg"
  case r => k_extra "room"
  case v => exact (v.pairs hp).spot
  case hi => (show _ < σ.nodes.length; rw [← hr]; assumption)
  case hj => (show _ < σ.nodes.length; rw [← hr]; assumption)
  intro σ' b s' hj c'
  k_extra "go"
  refine ret _ _ _ _ _ (by rw [← hr]; assumption) (by rw [← hr]; assumption) hj ?g
  case g => k_extra "leave"

theorem r_fg {v : Nat} {value slice : Expr} {t u : Tok} (c : Cfg w Z b₀ P L loc tmp tt s) (hv : v < 2) (h : ∀ t s', Cfg w Z b₀ P L loc tmp tt s' → Q (.str ⟨#[102 + v]⟩ t) s')
    (hs : subscripted slice false (.str (Str.ofString "fg") t) (.int (((v + 1 : Nat) : Int) - 1) u) = operate [.str (Str.ofString "fg") t, .int (((v + 1 : Nat) : Int) - 1) u] (getItem (.str (Str.ofString "fg") t) (.int (((v + 1 : Nat) : Int) - 1) u)) := by with_unfolding_all rfl)
    (ht : ∀ r, letTemporaryGo value (.str (Str.ofString "fg") t) r = pure () := by intro _; with_unfolding_all rfl) :
    wpAny (model prg w) A (subscriptTail value slice (.str (Str.ofString "fg") t) (.int (((v + 1 : Nat) : Int) - 1) u)) Q E s := by
  have : v = 0 ∨ v = 1 := by (first | lia | omega)
  rcases this with rfl | rfl
  · have e : Txt.item (Str.ofString "fg") (((0 + 1 : Nat) : Int) - 1) = ⟨#[102 + 0]⟩ := by decide +kernel
    exact item_str (by decide) (by decide +kernel) (by decide +kernel) (fun _ => by rw [e]; exact h _ _ c.tok) hs ht
  · have e : Txt.item (Str.ofString "fg") (((1 + 1 : Nat) : Int) - 1) = ⟨#[102 + 1]⟩ := by decide +kernel
    exact item_str (by decide) (by decide +kernel) (by decide +kernel) (fun _ => by rw [e]; exact h _ _ c.tok) hs ht
theorem wordsF18b : True := by
  k_with "opI" => ((fail_if_success (have := endF18)); ((with_reducible show wpAny _ _ (binaryOp .Add (.int 1 _) (.int (Nat.cast _) _)) _ _ _); refine r_add1 (by k_extra "cfg") ?_; intro _ _ _))
  k_with "subscriptTail" => ((fail_if_success (have := endF18)); ((with_reducible show wpAny _ _ (subscriptTail _ _ (.str (Str.ofString "fg") _) _) _ _ _); (refine r_fg (by k_extra "cfg") (by assumption) ?_; intro _ _ _)))
  k_with "spec" => ((fail_if_success (have := endF18)); ((with_reducible show wpAny _ _ (call (.type "range") _) _ _ _); refine r_range1N (by k_extra "cfg") ?_; intro _ _ _))
  exact trivial
theorem TurnQ.mk {J : Nat → Pers → List LV → Prop} {i : Nat} {acc : List LV} {l lv : LV} {v : Value} {rest led : List (Addr × G)} {et : List (Addr × List LV)} (hv : l.is v) (j : J (i + 1) P (acc ++ [l])) (c : Cfg w Z b₀ P C [(x, lv)] led et s) (h : Suf rest led) (ht : Suf tt et) : TurnQ w Z b₀ J C x rest tt i acc v s := by
  obtain ⟨pre, rfl⟩ := h.split
  exact ⟨P, l, lv, pre, et, hv, j, c, fun p hp => List.mem_append_left _ (ht.mem hp)⟩
theorem wordsF18c : True := by
  k_with "addR" => ((fail_if_success (have := endF18)); (refine r_addNd (by k_extra "cfg") (by k_extra "mem") (by k_extra "mem") (by assumption) ?_; intro _ _ _))
  exact trivial
theorem ok_fg {v : Nat} (h : v < 2) : OpOk (102 + v) := by
  have : v = 0 ∨ v = 1 := by (first | lia | omega)
  rcases this with rfl | rfl
  · exact ok_f
  · exact ok_g
/-- one deed: a number more -/
inductive More (σ : St) : St → Prop
  | old {n : Nat} : More σ { σ with spot := n }
  | new {n : Nat} {nd : Node} {σ1 σ2 : St} {d : Addr} : (∀ k ∈ nd.2, k < σ.nodes.length) → nd.2.length ≤ 2 → New { σ with spot := n } nd σ1 → Look σ1 σ.nodes.length σ2 → More σ { σ2 with rows := σ2.rows ++ [(d, nd)] }
set_option maxHeartbeats 8000000 in
theorem more_spec {T : List (Nat × Nat)} (c : Cfg w Z b₀ (pers ad σ) L loc tmp tt s) (B : Base w Z) (r : Room 9 A) (fz : Froz ad Z) (v : Inv σ σ.waiting T) (hr : σ.rows.length = σ.nodes.length) (h0 : 0 < σ.nodes.length) (hs : σ.spot ≤ 90000) (hc : σ.cells.length ≤ 100000)
    (h12 : σ.nodes.length < 12)
    (ret : ∀ σ' s', More σ σ' → σ'.spot ≤ σ.spot + 3 → Cfg w Z b₀ (pers ad σ') L loc tmp tt s' → Q .none s') :
    wpAny (model prg w) A (call (.ref 504) [.ref ad.stick, .ref ad.hp, .ref ad.rows]) Q E s := by
  have hr0 : 0 < σ.rows.length := by (first | lia | omega)
  have hn12 := v.n12
  have hs1 : σ.spot ≤ 100000 := by (first | lia | omega)
  have hs2 : σ.spot + 1 ≤ 100000 := by (first | lia | omega)
  refine r_callC (n := 8) (binds := [(Str.ofString "stick", .ref ad.stick), (Str.ofString "heap", .ref ad.hp), (Str.ofString "rows", .ref ad.rows)]) c B r (by k_is) (by k_is) (BindsTo.of_eq rfl) (by rfl) (by decide +kernel) [(Str.ofString "heap", .ref ad.hp), (Str.ofString "wide", .unset), (Str.ofString "row", .unset)] (fun L' => [(L' + 1 + 1, .ref ad.rows), (L' + 1, .ref ad.stick)]) ?_ ?_ ?_ ?_
  · intro L'; k_extra "locs"
  · k_extra "nodup"
  · intro L'
    show All2 _ [(Str.ofString "rows", L' + 1 + 1), (Str.ofString "stick", L' + 1)] _
    exact .cons ⟨rfl, ⟨_, rfl, rfl⟩⟩ (.cons ⟨rfl, ⟨_, rfl, rfl⟩⟩ .nil)
  intro L' fo A' s' hb' r' c'
  change Cfg _ _ _ _ _ _ ((L' + 1 + 1, .cell (.ref ad.rows)) :: (L' + 1, .cell (.ref ad.stick)) :: (L, .obj fo) :: tmp) _ _ at c'
  k_extra "go"
  refine r_LCgo nx_rg r'.h (fun i P acc => P = pers ad { σ with spot := σ.spot + 1 + i } ∧ i ≤ 2 ∧ ∃ ks : List Nat, acc = nlv ks ∧ ks.length = i ∧ ∀ x ∈ ks, x < σ.nodes.length) (by decide +kernel) rfl rfl ?_ ?_ ?_ ?_ ?_ (by assumption)
  · intro D fo i P acc j; trivial
  · rintro i P acc ⟨_, h0, ks, rfl, _, _⟩
    rw [nlv_len]; (first | lia | omega)
  · rintro C D fo i P acc s l hl ⟨rfl, _, ks, rfl, h1, h2⟩ c
    obtain ⟨hi, rfl⟩ := rngL_at hl
    have hsi : σ.spot + 1 + i ≤ 100000 := by (first | lia | omega)
    refine wpAny_tests_nil ?_
    rw [if_pos rfl]
    k_extra "go"
    refine' TurnQ.mk ?v ?j ?c ?h ?t
    case v => k_extra "lvis"
    case c => k_extra "cfg"
    case h => k_extra "suf"
    case t => k_extra "suf"
    refine ⟨rfl, by (first | lia | omega), ks ++ [_], (nlv_snoc _ _).symm, by simp [h1], fun x hx => ?_⟩
    rcases List.mem_append.mp hx with hx | hx
    · exact h2 x hx
    · rw [List.mem_singleton.mp hx, ← hr]; assumption
  · rintro C D fo P acc s lv hb ⟨rfl, h3, ks, rfl, h1, h2⟩ c
    rw [rngL_len] at h1 c
    refine post_Q ?_ hb c
    intro s' c'
    have hkl : ks.length ≤ 1000 := by (first | lia | omega)
    k_extra "go"
    refine' add_spec (T := T) ?c B ?r fz ?v ?ok ?h12 ?hkt ?hkl ?hks ?hnew ?_ ?_
    case c => k_extra "cfg"
    case r => k_extra "room"
    case v => exact v.spot
    case ok => exact ok_fg (by assumption)
    case h12 => exact h12
    case hkt => k_extra "mem"
    case hkl => dsimp only; (first | lia | omega)
    case hks => exact h2
    case hnew => exact fun σ1 hn => Inv.new v.spot hn h12 h2 (by dsimp only; (first | lia | omega))
    · intro i t' s' hi c'
      have hi2 := lt_of_at hi
      k_extra "go"
      · exfalso; dsimp only at *; (first | lia | omega)
      · refine ret _ _ (More.old (n := ?n1)) ?_ ?g1
        case g1 => k_extra "leave"
        dsimp only; (first | lia | omega)
    · intro σ1 σ' t' s' hn hl c'
      have k1 := hn.keep
      have k2 := hl.keep
      have hr1 : σ'.rows = σ.rows := k2.2.1.trans k1.2.1
      have hr2 : σ'.rows.length ≤ 1000000 := by rw [hr1]; (first | lia | omega)
      have hr3 : σ'.rows.length = σ.nodes.length := by rw [hr1]; exact hr
      have hs4 : σ'.spot ≤ σ.spot + 3 := by
        have e1 := k2.2.2.2.1
        have e2 := k1.2.2.2.1
        dsimp only at e2
        (first | lia | omega)
      k_extra "go"
      · refine ret _ _ (More.new (d := ?d2) h2 (by dsimp only; (first | lia | omega)) hn hl) ?_ ?g2
        case g2 => k_extra "leave"
        exact hs4
      · exfalso; (first | lia | omega)
  · exact ⟨rfl, by (first | lia | omega), [], rfl, rfl, by simp⟩
end
theorem endF18 : True := trivial
end
section
section
variable {w : World} {Z : Heap} {b₀ : Shared} {P P' : Pers} {L a y C I : Addr} {loc loc' : List (Str × LV)} {tmp tmp' : List (Addr × G)} {tt tt' : List (Addr × List LV)} {s s' : Shared} {h' : Heap} {tk : Nat} {g g' : G}
  {A : Around} {E : Value → Shared → Prop} {env : Env} {x : Str} {pos : Pos} {Q : Value → Shared → Prop} {QU : Unit → Shared → Prop} {QF : Flow → Shared → Prop} {n : Nat} {fs : List (Str × Value)} {ad : Ad} {σ : St}
abbrev cChanges : Addr := 269
abbrev fsCh (ad : Ad) (wk sn mk : Value) : List (Str × Value) := [(Str.ofString "heap", .ref ad.hp), (Str.ofString "walker", wk), (Str.ofString "seen", sn), (Str.ofString "marks", mk), (Str.ofString "backs", ad.backs)]
theorem wordsF19a : True := by
  k_with "spec" => ((fail_if_success (have := endF19)); ((with_reducible show wpAny _ _ (call (.ref 407) _) _ _ _); refine hfind_spec (by k_extra "cfg") (by assumption) (by k_extra "room") (by assumption) (by assumption) (by first | assumption | omega) ?_; intro _ _ _))
  k_with "spec" => ((fail_if_success (have := endF19)); ((with_reducible show wpAny _ _ (call (.ref 376) _) _ _ _); refine hsize_spec (by k_extra "cfg") (by assumption) (by k_extra "room") (by assumption) (by assumption) ?_; intro _ _ _))
  k_with "leave1" => ((fail_if_success (have := endF19)); (refine Cfg.leave1 (by assumption) (by k_extra "cfg") (by k_extra "lv") (by (intro p hp; refine List.mem_append_left _ ?_; k_extra "hp"))))
  exact trivial
noncomputable def edge0 (σ : St) (f : Nat) : Nat := ((σ.edges[f]?).map (·.2.1)).getD 0
noncomputable def chgF (σ : St) (e : Nat) (base : List Int) (i : Nat) : List Int := (σ.forest.take i).foldl (fun acc f => if e ≤ f then addK acc (root σ.parent (edge0 σ f) : Int) else acc) base
theorem chgF_succ {e : Nat} {base : List Int} {i f : Nat} (h : σ.forest[i]? = some f) : chgF σ e base (i + 1) = if e ≤ f then addK (chgF σ e base i) (root σ.parent (edge0 σ f) : Int) else chgF σ e base i := by
  unfold chgF
  rw [List.take_add_one, h, Option.toList_some, List.foldl_append, List.foldl_cons, List.foldl_nil]
theorem edge0_of {f : Nat} {p : Addr × Nat × Nat × Addr} (h : σ.edges[f]? = some p) : edge0 σ f = p.2.1 := by simp [edge0, h]
theorem chgF_nd {e : Nat} {base : List Int} (hb : base.Nodup) (i : Nat) : (chgF σ e base i).Nodup := by
  unfold chgF
  generalize σ.forest.take i = l
  induction l generalizing base with
  | nil => exact hb
  | cons f l ih =>
    rw [List.foldl_cons]
    split
    · exact ih (nodup_addK hb)
    · exact ih hb
theorem chgF_len {e : Nat} {base : List Int} (i : Nat) : (chgF σ e base i).length ≤ base.length + i := by
  unfold chgF
  have hl : (σ.forest.take i).length ≤ i := by rw [List.length_take]; (first | lia | omega)
  generalize σ.forest.take i = l at hl
  have : ∀ l : List Nat, ∀ base : List Int, (l.foldl (fun acc f => if e ≤ f then addK acc (root σ.parent (edge0 σ f) : Int) else acc) base).length ≤ base.length + l.length := by
    intro l
    induction l with
    | nil => intro base; simp
    | cons f l ih =>
      intro base
      rw [List.foldl_cons, List.length_cons]
      split
      · have := ih (addK base (root σ.parent (edge0 σ f) : Int))
        have := len_addK (ks := base) (k := (root σ.parent (edge0 σ f) : Int))
        (first | lia | omega)
      · have := ih base; (first | lia | omega)
  have := this l base
  (first | lia | omega)
theorem chgF_mem {e : Nat} {base : List Int} {x : Int} : x ∈ chgF σ e base σ.forest.length ↔ x ∈ base ∨ ∃ f ∈ σ.forest, e ≤ f ∧ (root σ.parent (edge0 σ f) : Int) = x := by
  unfold chgF
  rw [List.take_length]
  generalize σ.forest = l
  induction l generalizing base with
  | nil => simp
  | cons f l ih =>
    rw [List.foldl_cons]
    split
    · rw [ih, mem_addK]
      constructor
      · rintro ((h | h) | ⟨g, h1, h2⟩)
        · exact .inl h
        · exact .inr ⟨f, .head _, by assumption, h.symm⟩
        · exact .inr ⟨g, .tail _ h1, h2⟩
      · rintro (h | ⟨g, h1, h2, h3⟩)
        · exact .inl (.inl h)
        · rcases List.mem_cons.mp h1 with rfl | h1
          · exact .inl (.inr h3.symm)
          · exact .inr ⟨g, h1, h2, h3⟩
    · rw [ih]
      constructor
      · rintro (h | ⟨g, h1, h2⟩)
        · exact .inl h
        · exact .inr ⟨g, .tail _ h1, h2⟩
      · rintro (h | ⟨g, h1, h2, h3⟩)
        · exact .inl h
        · rcases List.mem_cons.mp h1 with rfl | h1
          · exact absurd h2 (by assumption)
          · exact .inr ⟨g, h1, h2, h3⟩
theorem r_edge0 {p : Addr × Nat × Nat × Addr} {f : Nat} {value slice : Expr} {u : Tok} (c : Cfg w Z b₀ (pers ad σ) L loc tmp tt s) (hp : σ.edges[f]? = some p) (h : ∀ t, Q (.int (p.2.1 : Int) t) s)
    (hs : subscripted slice false (.ref p.1) (.int 0 u) = operate [.ref p.1, .int 0 u] (getItem (.ref p.1) (.int 0 u)) := by with_unfolding_all rfl) :
    wpAny (model prg w) A (subscriptTail value slice (.ref p.1) (.int 0 u)) Q E s :=
  r_tupAt (k := 0) c (t_edge (List.mem_of_getElem? hp)) rfl (by (first | lia | omega)) (fun v hv => by obtain ⟨t, rfl⟩ := hv; exact h t) hs
theorem wordsF19b : True := by
  k_with "sub0" => ((fail_if_success (have := endF19)); (refine r_edge0 (by k_extra "cfg") (by assumption) ?_; intro _))
  k_with "setI" => ((fail_if_success (have := endF19)); (refine r_setK (by k_extra "cfg") (by k_extra "put") (by assumption) ?_; intro _ _))
  exact trivial
set_option maxHeartbeats 8000000 in
theorem changed_spec {ch mt : Addr} {m e : Nat} {wk sn mk : Value} {X : List Nat} {T : List (Nat × Nat)} (c : Cfg w Z b₀ (pers ad σ) L loc tmp tt s) (B : Base w Z) (r : Room 6 A) (fz : Froz ad Z) (fc : Inst Z ch cChanges (fsCh ad wk sn mk)) (v : Inv σ X T)
    (hmt : (mt, [LV.int (m : Int), .int (e : Int)]) ∈ tt) (hm : m ≤ σ.nodes.length)
    (ret : ∀ D cs s', Up cs → (∀ x, x ∈ cs ↔ (∃ n, m ≤ n ∧ n < σ.nodes.length ∧ root σ.parent n = x) ∨ ∃ f ∈ σ.forest, e ≤ f ∧ ∃ p, σ.edges[f]? = some p ∧ root σ.parent p.2.1 = x) → Cfg w Z b₀ (pers ad σ) L loc ((D, .list (nlv cs)) :: tmp) tt s' → Q (.ref D) s') :
    wpAny (model prg w) A (call (.ref 244) [.ref ch, .ref mt]) Q E s := by
  have hn12 := v.n12
  have hp := v.pw
  have hpl := v.plen
  have hb : σ.nodes.length ≤ 64 := by (first | lia | omega)
  refine r_callC (n := 5) (binds := [(Str.ofString "self", .ref ch), (Str.ofString "mark", .ref mt)]) c B r (by k_is) (by k_is) (BindsTo.of_eq rfl) (by rfl) (by decide +kernel) [(Str.ofString "mark", .ref mt), (Str.ofString "many", .unset), (Str.ofString "edges", .unset), (Str.ofString "found", .unset), (Str.ofString "spot", .unset)] (fun L' => [(L' + 1, .ref ch)]) ?_ ?_ ?_ ?_
  · intro L'; k_extra "locs"
  · k_extra "nodup"
  · intro L'
    exact (show All2 _ [(Str.ofString "self", L' + 1)] _ from .cons ⟨rfl, ⟨_, rfl, rfl⟩⟩ .nil)
  intro L' fo A' s' hb' r' c'
  change Cfg _ _ _ _ _ _ ((L' + 1, .cell (.ref ch)) :: (L, .obj fo) :: tmp) _ _ at c'
  k_extra "go"
  refine r_DCgo nx_rg r'.h (fun i => (root σ.parent (m + i) : Int)) (by decide +kernel) rfl rfl ?_ ?_ ?_ ?_ (by assumption)
  · intro D fo i acc; trivial
  · rw [rngL_len]; (first | lia | omega)
  · intro C D fo i acc s l hl c
    obtain ⟨hi, rfl⟩ := rngL_at hl
    have hi2 : m + i < σ.parent.length := by (first | lia | omega)
    rw [show (m : Int) + (i : Int) = ((m + i : Nat) : Int) by (first | lia | omega)] at c
    k_extra "go"
    refine ⟨⟨_, rfl⟩, rfl, .int ((m + i : Nat) : Int), [], tt, ?_, fun p hp => List.mem_append_left _ hp⟩
    k_extra "cfg"
  · intro C D fo s lv hb c
    rw [rngL_len] at c
    refine' post_storeS (z := Str.ofString "found") hb c ?U ?_
    case U => k_extra "put"
    intro s' c'
    k_extra "go"
    have hb0 : (setOf ((List.range (σ.nodes.length - m)).map fun i => (root σ.parent (m + i) : Int))).Nodup := nodup_setOf
    have hl0 : (setOf ((List.range (σ.nodes.length - m)).map fun i => (root σ.parent (m + i) : Int))).length ≤ 12 := by
      have := len_setOf (l := (List.range (σ.nodes.length - m)).map fun i => (root σ.parent (m + i) : Int))
      simp only [List.length_map, List.length_range] at this
      (first | lia | omega)
    have hm0 : ∀ x : Nat, (x : Int) ∈ setOf ((List.range (σ.nodes.length - m)).map fun i => (root σ.parent (m + i) : Int)) ↔ ∃ n, m ≤ n ∧ n < σ.nodes.length ∧ root σ.parent n = x := fun x => by
      rw [mem_setOf, List.mem_map]
      constructor
      · rintro ⟨i, hi, e⟩
        rw [List.mem_range] at hi
        exact ⟨m + i, by (first | lia | omega), by (first | lia | omega), by (first | lia | omega)⟩
      · rintro ⟨n, h1, h2, h3⟩
        exact ⟨n - m, List.mem_range.mpr (by (first | lia | omega)), by rw [show m + (n - m) = n by (first | lia | omega), h3]⟩
    have hp0 : ∀ x ∈ setOf ((List.range (σ.nodes.length - m)).map fun i => (root σ.parent (m + i) : Int)), 0 ≤ x := fun x hx => by
      obtain ⟨i, _, rfl⟩ := List.mem_map.mp (mem_setOf.mp hx)
      (first | lia | omega)
    generalize setOf ((List.range (σ.nodes.length - m)).map fun i => (root σ.parent (m + i) : Int)) = base at *
    have c9 := ‹Cfg _ _ _ _ _ _ ((_, G.liter _ 0) :: _) _ _›
    refine r_forD (fun lv => [(Str.ofString "mark", .ref mt), (Str.ofString "many", .int (m : Int)), (Str.ofString "edges", .int (e : Int)), (Str.ofString "found", .ref D), (Str.ofString "spot", lv)]) (fun i => .dictI (keysD (chgF σ e base i))) (nx_list (xs := nlv σ.forest)) r'.h ?_ ?_ ?_ c9
    · intro i; exact m_forest
    · intro i s v' l lv hx hv c
      refine turn_cut fun K hK => ?_
      simp only [nlv, List.getElem?_map, Option.map_eq_some_iff] at hx
      obtain ⟨f, hf, rfl⟩ := hx
      obtain ⟨t, rfl⟩ := hv
      have hfe := v.forB f (List.mem_of_getElem? hf)
      have hpe : σ.edges[f]? = some σ.edges[f] := List.getElem?_eq_getElem hfe
      have hea := (v.edgB _ (List.getElem_mem hfe)).1
      have e0 := edge0_of hpe
      have hS := chgF_succ (e := e) (base := base) hf
      generalize σ.edges[f] = p at *
      have hea2 : p.2.1 < σ.parent.length := by (first | lia | omega)
      have hfl := v.forL
      have hil := (List.getElem?_eq_some_iff.mp hf).1
      have hp9 := v.pow
      have hcl := chgF_len (σ := σ) (e := e) (base := base) i
      have hcl2 : (chgF σ e base i).length ≤ 1000000 := by (first | lia | omega)
      have hee := v.edgL
      have hep := v.p12
      have hee2 : σ.edges.length ≤ 1000000 := by (first | lia | omega)
      k_extra "go"
      all_goals refine hK _ _ ?_
      all_goals (first | (rw [hS, if_pos (by (first | lia | omega)), e0]; k_extra "body") | (rw [hS, if_neg (by (first | lia | omega))]; k_extra "body"))
    · intro lv s c
      rw [nlv_len] at c
      k_extra "go"
      have hfl := v.forL
      have hp9 := v.pow
      have hcl := chgF_len (σ := σ) (e := e) (base := base) σ.forest.length
      refine' r_sortedK ?c B r'.h ?h ?_
      case c => k_extra "cfg"
      case h => (first | lia | omega)
      intro d s' c'
      k_extra "go"
      obtain ⟨cs, e1, e2, e3, _⟩ := sorted_nat (chgF_nd (σ := σ) (e := e) hb0 σ.forest.length) fun x hx => by
        rcases chgF_mem.mp hx with h | ⟨f, _, _, rfl⟩
        · exact hp0 x h
        · (first | lia | omega)
      rw [e1, ← nlv_toI] at c'
      refine ret _ cs _ e2 (fun x => ?_) ?g
      case g => k_extra "leave1"
      rw [e3, chgF_mem, hm0]
      refine or_congr Iff.rfl ⟨?_, ?_⟩
      · rintro ⟨f, h1, h2, h3⟩
        have hfe := v.forB f h1
        have hpe : σ.edges[f]? = some σ.edges[f] := List.getElem?_eq_getElem hfe
        exact ⟨f, h1, h2, _, hpe, by rw [edge0_of hpe] at h3; (first | lia | omega)⟩
      · rintro ⟨f, h1, h2, p, h3, h4⟩
        exact ⟨f, h1, h2, by rw [edge0_of h3, h4]⟩
end
theorem endF19 : True := trivial
end
section
section
variable {w : World} {Z : Heap} {b₀ : Shared} {P P' : Pers} {L a y C I : Addr} {loc loc' : List (Str × LV)} {tmp tmp' : List (Addr × G)} {tt tt' : List (Addr × List LV)} {s s' : Shared} {h' : Heap} {tk : Nat} {g g' : G}
  {A : Around} {E : Value → Shared → Prop} {env : Env} {x : Str} {pos : Pos} {Q : Value → Shared → Prop} {QU : Unit → Shared → Prop} {QF : Flow → Shared → Prop} {n : Nat} {fs : List (Str × Value)} {ad : Ad} {σ : St}
noncomputable def someOf (ms : List Nat) (c : Nat) : List Nat := (List.range ms.length).filter fun n => decide ((ms.getD n 0 : Int) = (c : Int))
noncomputable def turnB (bs ms : List Nat) (c : Nat) : Bool := decide (bs.length ≤ (someOf ms c).getLastD 0) || decide (1 < (setOf (toI ((someOf ms c).map fun n => bs.getD n 0))).length)
theorem toI_last (ns : List Nat) : (toI ns).getD ((toI ns).length - 1) 0 = ((ns.getLastD 0 : Nat) : Int) := by
  simp only [toI, List.length_map]
  cases h : ns with
  | nil => rfl
  | cons x l =>
    rw [List.getLastD_cons, List.getLastD_eq_getLast?]
    rw [← h]
    have h1 : ns.length - 1 < ns.length := by rw [h]; simp
    have e : ns.getLast? = some (ns[ns.length - 1]) := by rw [List.getLast?_eq_getElem?, List.getElem?_eq_getElem h1]
    have e2 : (x :: l).getLast? = some (ns[ns.length - 1]) := by rw [← h]; exact e
    rw [List.getLast?_cons] at e2
    simp only [List.getD_eq_getElem?_getD, List.getElem?_map, List.getElem?_eq_getElem h1]
    simp at e2
    simp [e2]
theorem r_lastNat {ns : List Nat} {value slice : Expr} {u : Tok} (c : Cfg w Z b₀ P L loc tmp tt s) (hm : (a, .list (nlv ns)) ∈ tmp ++ P.objs) (h0 : 0 < ns.length) (hb : ns.length ≤ 1000000) (h : ∀ t, Q (.int (ns.getLastD 0 : Nat) t) s)
    (hs : subscripted slice false (.ref a) (.int (-1) u) = operate [.ref a, .int (-1) u] (getItem (.ref a) (.int (-1) u)) := by with_unfolding_all rfl) :
    wpAny (model prg w) A (subscriptTail value slice (.ref a) (.int (-1) u)) Q E s :=
  r_lastN (ls := toI ns) c (by rw [← nlv_toI]; exact hm) (by simpa [toI] using h0) (by simpa [toI] using hb) (by rw [toI_last]; exact h) hs
theorem r_appT {D : Addr} {ns : List Nat} {k : Nat} {t : Tok} (c : Cfg w Z b₀ P L loc tmp tt s) (U : Put tmp D (.list (nlv ns)) (.list (nlv (ns ++ [k]))) tmp') (hz : ns.length ≤ 1000000) (h : ∀ s', Cfg w Z b₀ P L loc tmp' tt s' → Q .none s') :
    wpAny (model prg w) A (call (.builtin "list.append") [.ref D, .int (k : Int) t]) Q E s :=
  r_append (l := .int (k : Int)) (P' := P) c (by rw [← nlv_snoc]; exact Put.left U _) (fun p hp => hp) ⟨t, rfl⟩ (by rw [nlv_len]; exact hz) h
theorem wordsF20a : True := by
  k_with "subscriptTail" => ((fail_if_success (have := endF20)); ((with_reducible show wpAny _ _ (subscriptTail _ _ (.ref _) (.int (-1) _)) _ _ _); (refine r_lastNat (by k_extra "cfg") (by k_extra "memP") (by assumption) (by assumption) ?_; intro _)))
  k_with "spec" => ((fail_if_success (have := endF20)); ((with_reducible show wpAny _ _ (call (.builtin "list.append") _) _ _ _); (refine r_appT (by k_extra "cfg") (by k_extra "put") (by assumption) ?_; intro _ _)))
  k_with "spec" => ((fail_if_success (have := endF20)); ((with_reducible show wpAny _ _ (call (.builtin "len") _) _ _ _); (refine r_lenSet (by k_extra "cfg") (by k_extra "mem0") ?_; intro _ _ _)))
  k_with "mem0" => ((fail_if_success (have := endF20)); (with_reducible exact List.mem_append_left _ (List.mem_cons_self)))
  exact trivial
theorem someOf_mem {ms : List Nat} {k n : Nat} : n ∈ someOf ms k ↔ n < ms.length ∧ ms.getD n 0 = k := by
  simp only [someOf, List.mem_filter, List.mem_range, decide_eq_true_eq]
  (first | lia | omega)
theorem someOf_up (ms : List Nat) (k : Nat) : Up (someOf ms k) := List.Pairwise.filter _ List.pairwise_lt_range
theorem Up.le_last : ∀ {l : List Nat}, Up l → ∀ x ∈ l, x ≤ l.getLastD 0
  | [], _, x, h => nomatch h
  | [a], _, x, h => by rw [List.mem_singleton.mp h]; simp
  | a :: b :: l, hu, x, h => by
    have hu' := List.pairwise_cons.mp hu
    have ih := Up.le_last hu'.2
    have e : (a :: b :: l).getLastD 0 = (b :: l).getLastD 0 := by simp
    rw [e]
    rcases List.mem_cons.mp h with rfl | h
    · exact Nat.le_trans (Nat.le_of_lt (hu'.1 b (.head _))) (ih b (.head _))
    · exact ih x h
inductive JTu (P : Pers) (bs ms cs : List Nat) (Dc Df ab am L' L : Addr) (fo1 : Obj) (tmp : List (Addr × G)) (tt : List (Addr × List LV)) (i : Nat) (P' : Pers) (loc' : List (Str × LV)) (tmp' : List (Addr × G)) (tt' : List (Addr × List LV)) : Prop
  | mk (h1 : P' = P) (h2 : tt' = tt) (lv lc : LV) (h6 : loc' = [(Str.ofString "found", .ref Df), (Str.ofString "some", lv)])
      (h7 : tmp' = (Dc, .list (nlv cs)) :: (Df, .list (nlv ((cs.take i).filter (turnB bs ms)))) :: (L' + 1 + 1 + 1, .cell lc) :: (L' + 1 + 1, .cell (.ref am)) :: (L' + 1, .cell (.ref ab)) :: (L, .obj fo1) :: tmp) : JTu P bs ms cs Dc Df ab am L' L fo1 tmp tt i P' loc' tmp' tt'
set_option maxHeartbeats 8000000 in
theorem turned_spec {ab am : Addr} {bs ms : List Nat} (c : Cfg w Z b₀ P L loc tmp tt s) (B : Base w Z) (r : Room 6 A) (hb : (ab, .list (nlv bs)) ∈ tmp) (hm : (am, .list (nlv ms)) ∈ tmp) (hl : bs.length ≤ ms.length) (h12 : ms.length ≤ 12)
    (ret : ∀ D fs s', Up fs → (∀ x, x ∈ fs ↔ x ∈ ms ∧ turnB bs ms x = true) → Cfg w Z b₀ P L loc ((D, .list (nlv fs)) :: tmp) tt s' → Q (.ref D) s') :
    wpAny (model prg w) A (call (.ref 516) [.ref ab, .ref am]) Q E s := by
  refine r_callC (n := 5) (binds := [(Str.ofString "before", .ref ab), (Str.ofString "marks", .ref am)]) c B r (by k_is) (by k_is) (BindsTo.of_eq rfl) (by rfl) (by decide +kernel) [(Str.ofString "found", .unset), (Str.ofString "some", .unset)] (fun L' => [(L' + 1 + 1 + 1, .unset), (L' + 1 + 1, .ref am), (L' + 1, .ref ab)]) ?_ ?_ ?_ ?_
  · intro L'; k_extra "locs"
  · k_extra "nodup"
  · intro L'
    show All2 _ [(Str.ofString "c", L' + 1 + 1 + 1), (Str.ofString "marks", L' + 1 + 1), (Str.ofString "before", L' + 1)] _
    exact .cons ⟨rfl, trivial⟩ (.cons ⟨rfl, ⟨_, rfl, rfl⟩⟩ (.cons ⟨rfl, ⟨_, rfl, rfl⟩⟩ .nil))
  intro L' fo1 A' s' hb' r' c'
  change Cfg _ _ _ _ _ _ ((L' + 1 + 1 + 1, .cell .unset) :: (L' + 1 + 1, .cell (.ref am)) :: (L' + 1, .cell (.ref ab)) :: (L, .obj fo1) :: tmp) _ _ at c'
  have h64 : (setOf (toI ms)).length < 64 := by
    have := len_setOf (l := toI ms)
    simp only [toI, List.length_map] at this
    simp only [toI]; (first | lia | omega)
  obtain ⟨cs, e1, e2, e3, e4⟩ := sorted_set ms
  k_extra "go"
  rename_i I1 s1 c9
  rw [e1, ← nlv_toI] at c9
  obtain ⟨Dc, Df, c9⟩ : ∃ Dc Df, Cfg w Z b₀ P L' [(Str.ofString "found", .ref Df), (Str.ofString "some", .unset)] ((I1, .liter Dc 0) :: (Dc, .list (nlv cs)) :: (Df, .list []) :: (L' + 1 + 1 + 1, .cell .unset) :: (L' + 1 + 1, .cell (.ref am)) :: (L' + 1, .cell (.ref ab)) :: (L, .obj fo1) :: tmp) tt s1 := ⟨_, _, c9⟩
  refine r_for (nx_list (l := Dc) (xs := nlv cs)) r'.h (JTu P bs ms cs Dc Df ab am L' L fo1 tmp tt) ?_ ?_ ?_ ⟨rfl, rfl, .unset, .unset, rfl, rfl⟩ c9
  · rintro i P' loc' tmp' tt' ⟨rfl, rfl, lv, lc, rfl, rfl⟩
    exact .tail _ (.head _)
  · rintro i P' loc' tmp' tt' s v l hx hv ⟨rfl, rfl, lv, lc, rfl, rfl⟩ c
    refine turn_cut fun K hK => ?_
    simp only [nlv, List.getElem?_map, Option.map_eq_some_iff] at hx
    obtain ⟨k, hk, rfl⟩ := hx
    obtain ⟨t, rfl⟩ := hv
    have hkm := (e3 k).mp (List.mem_of_getElem? hk)
    k_extra "go"
    refine r_LCnatF (List.range ms.length) (fun i => .int ((0 : Int) + (i : Nat))) (fun i => i) (fun n => decide ((ms.getD n 0 : Int) = (k : Int))) nx_rg r'.h (by decide +kernel) rfl rfl ?_ ?_ ?_ ?_ ?_ (by assumption)
    · intro D fo i acc; trivial
    · rw [List.length_range]; (first | lia | omega)
    · intro C D fo i acc s n hn c
      have hn2 : n < ms.length := by have := List.mem_of_getElem? hn; simpa using this
      rw [Int.zero_add] at c ⊢
      k_extra "go"
      k_extra "tst"
      rw [Bool.eq_iff_iff]
      simp
    · intro C D fo i acc s n hn hp c
      rw [Int.zero_add] at c
      k_extra "go"
      k_extra "elt"
    · intro C D fo s lv hb c
      refine' post_storeS (z := Str.ofString "some") hb c ?U ?_
      case U => k_extra "put"
      intro s' c'
      simp only [List.map_id'] at c'
      rw [show ((List.range ms.length).filter fun n => decide ((ms.getD n 0 : Int) = (k : Int))) = someOf ms k from rfl] at c'
      have hsl : (someOf ms k).length ≤ 12 := by
        have := List.length_filter_le (fun n => decide ((ms.getD n 0 : Int) = (k : Int))) (List.range ms.length)
        rw [List.length_range] at this
        unfold someOf; (first | lia | omega)
      have hsl2 : (someOf ms k).length ≤ 1000000 := by (first | lia | omega)
      have hs0 : 0 < (someOf ms k).length := by
        obtain ⟨n, hn⟩ := List.mem_iff_getElem?.mp hkm
        have hn2 := (List.getElem?_eq_some_iff.mp hn).1
        exact List.length_pos_of_mem (a := n) (someOf_mem.mpr ⟨hn2, by simp [List.getD, hn]⟩)
      have htk : cs.take (i + 1) = cs.take i ++ [k] := by rw [List.take_add_one, hk]; rfl
      have hF : ((cs.take (i + 1)).filter (turnB bs ms)) = (cs.take i).filter (turnB bs ms) ++ if turnB bs ms k = true then [k] else [] := by
        rw [htk, List.filter_append]; congr 1
        by_cases h : turnB bs ms k = true <;> simp [h]
      have hcl : ((cs.take i).filter (turnB bs ms)).length ≤ 1000000 := by
        have h1 := List.length_filter_le (turnB bs ms) (cs.take i)
        rw [List.length_take] at h1
        (first | lia | omega)
      have hll : bs.length ≤ 1000000 := by (first | lia | omega)
      k_extra "go"
      · have hT : turnB bs ms k = true := by
          unfold turnB
          rw [Bool.or_eq_true]
          refine .inl (decide_eq_true ?_)
          (first | lia | omega)
        rw [hT, if_pos rfl] at hF
        refine hK _ _ ?_
        refine' BodyQ.next (tmp := (Dc, .list (nlv cs)) :: (Df, .list (nlv ((cs.take (i + 1)).filter (turnB bs ms)))) :: (L' + 1 + 1 + 1, .cell (.int (k : Int))) :: (L' + 1 + 1, .cell (.ref am)) :: (L' + 1, .cell (.ref ab)) :: (L, .obj fo1) :: tmp) ?c1 ?h1 ?t1 ⟨rfl, rfl, _, _, rfl, rfl⟩
        case c1 => k_extra "cfg"
        case h1 => rw [hF]; k_extra "suf"
        case t1 => k_extra "suf"
      · have hlt : (someOf ms k).getLastD 0 < bs.length := by (first | lia | omega)
        have hall : ∀ n ∈ someOf ms k, n < bs.length := fun n hn => Nat.lt_of_le_of_lt ((someOf_up ms k).le_last n hn) hlt
        refine r_LCnat (someOf ms k) (fun n => .int (n : Int)) (fun n => bs.getD n 0) nx_list r'.h (by decide +kernel) rfl rfl ?_ (by (first | lia | omega)) ?_ ?_ (by assumption)
        · intro D fo i acc
          show (_, G.list (nlv (someOf ms k))) ∈ _
          k_extra "memP"
        · intro C D fo i acc s n hn c
          have hn2 := hall n (List.mem_of_getElem? hn)
          k_extra "go"
          k_extra "elt"
        · intro C D fo s lv hb c
          refine post_Q ?_ hb c
          intro s' c'
          k_extra "go"
          · have hT : turnB bs ms k = true := by
              unfold turnB
              rw [Bool.or_eq_true]
              refine .inr (decide_eq_true ?_)
              (first | lia | omega)
            rw [hT, if_pos rfl] at hF
            refine hK _ _ ?_
            refine' BodyQ.next (tmp := (Dc, .list (nlv cs)) :: (Df, .list (nlv ((cs.take (i + 1)).filter (turnB bs ms)))) :: (L' + 1 + 1 + 1, .cell (.int (k : Int))) :: (L' + 1 + 1, .cell (.ref am)) :: (L' + 1, .cell (.ref ab)) :: (L, .obj fo1) :: tmp) ?c2 ?h2 ?t2 ⟨rfl, rfl, _, _, rfl, rfl⟩
            case c2 => k_extra "cfg"
            case h2 => rw [hF]; k_extra "suf"
            case t2 => k_extra "suf"
          · have hT : turnB bs ms k = false := by
              unfold turnB
              rw [Bool.or_eq_false_iff]
              exact ⟨decide_eq_false (by (first | lia | omega)), decide_eq_false (by (first | lia | omega))⟩
            rw [hT, if_neg (by simp), List.append_nil] at hF
            refine hK _ _ ?_
            refine' BodyQ.next (tmp := (Dc, .list (nlv cs)) :: (Df, .list (nlv ((cs.take (i + 1)).filter (turnB bs ms)))) :: (L' + 1 + 1 + 1, .cell (.int (k : Int))) :: (L' + 1 + 1, .cell (.ref am)) :: (L' + 1, .cell (.ref ab)) :: (L, .obj fo1) :: tmp) ?c3 ?h3 ?t3 ⟨rfl, rfl, _, _, rfl, rfl⟩
            case c3 => k_extra "cfg"
            case h3 => rw [hF]; k_extra "suf"
            case t3 => k_extra "suf"
  · rintro P' loc' tmp' tt' s ⟨rfl, rfl, lv, lc, rfl, rfl⟩ c
    rw [nlv_len, List.take_length] at c
    replace c := c.sub (tt' := tt') (List.sublist_cons_self _ _) (fun p hp => List.mem_append_left _ hp)
    k_extra "go"
    refine ret _ (cs.filter (turnB bs ms)) _ (List.Pairwise.filter _ e2) (fun x => ?_) ?g
    case g => k_extra "leave1"
    rw [List.mem_filter, e3]
end
theorem endF20 : True := trivial
end
section
section
variable {w : World} {Z : Heap} {b₀ : Shared} {P P' : Pers} {L a y C I : Addr} {loc loc' : List (Str × LV)} {tmp tmp' : List (Addr × G)} {tt tt' : List (Addr × List LV)} {s s' : Shared} {h' : Heap} {tk : Nat} {g g' : G}
  {A : Around} {E : Value → Shared → Prop} {env : Env} {x : Str} {pos : Pos} {Q : Value → Shared → Prop} {QU : Unit → Shared → Prop} {QF : Flow → Shared → Prop} {n : Nat} {fs : List (Str × Value)} {ad : Ad} {σ : St}
theorem any_toI (fs : List Nat) (k : Nat) : (toI fs).any (· == (k : Int)) = fs.any (· == k) := by
  unfold toI
  rw [List.any_map]
  congr 1
  funext n
  simp only [Function.comp_apply]
  rw [Bool.eq_iff_iff]
  simp
  (first | lia | omega)
theorem r_inLN {fs : List Nat} {k : Nat} {t : Tok} (c : Cfg w Z b₀ P L loc tmp tt s) (hm : (a, .list (nlv fs)) ∈ tmp ++ P.objs) (h : Q (.bool (fs.any (· == k))) s) : wpAny (model prg w) A (compareOp .In (.int (k : Int) t) (.ref a)) Q E s :=
  r_inL (ns := toI fs) c (by rw [← nlv_toI]; exact hm) (by rw [any_toI]; exact h)
theorem r_neN0 {a b : Addr} {ns : List Nat} (c : Cfg w Z b₀ P L loc tmp tt s) (r : Room 2 A) (ha : (a, .list (nlv ns)) ∈ tmp ++ P.objs) (hb : (b, .list []) ∈ tmp ++ P.objs) (h : Q (.bool (decide (ns ≠ []))) s) : wpAny (model prg w) A (compareOp .NotEq (.ref a) (.ref b)) Q E s :=
  r_neL (ns := toI ns) (ms := []) c r (by rw [← nlv_toI]; exact ha) hb (by
    have e : (!decide (toI ns = [])) = decide (ns ≠ []) := by
      cases ns <;> simp [toI]
    rw [e]; exact h)
theorem BodyQ.nextP {i : Nat} {D : Addr} {gD : G} {gg : Nat → G} {J : Nat → Pers → List (Str × LV) → List (Addr × G) → List (Addr × List LV) → Prop} {rest led : List (Addr × G)} {et : List (Addr × List LV)} (c : Cfg w Z b₀ P L loc led et s) (h : List.Sublist ((D, gD) :: (I, gg (i + 1)) :: rest) led) (ht : Suf tt et)
    (j : J (i + 1) P loc ((D, gD) :: rest) tt) : BodyQ w Z b₀ L J I gg i QF .next s :=
  ⟨P, loc, _, tt, j, (c.sub h fun p hp => List.mem_append_left _ (ht.mem hp)).perm (List.Perm.swap _ _ _)⟩
noncomputable def rowKids (σ : St) (n : Nat) : List Nat := ((σ.rows[n]?).map (·.2.2)).getD []
/-- up from the classes, as the law goes -/
noncomputable def AbP (σ : St) (ms bg : List Nat) : Nat → Nat → Prop
  | 0, x => x ∈ bg
  | k + 1, x => AbP σ ms bg k x ∨ ∃ n, n < ms.length ∧ ms.getD n 0 = x ∧ ∃ kid ∈ rowKids σ n, AbP σ ms bg k (ms.getD kid 0)
noncomputable def upB (σ : St) (ms fs : List Nat) (n : Nat) : Bool := decide (((rowKids σ n).filter fun kid => fs.any (· == ms.getD kid 0)) ≠ [])
theorem wordsF21a : True := by
  k_with "spec" => ((fail_if_success (have := endF21)); ((with_reducible show wpAny _ _ (call (.builtin "sorted") _) _ _ _); (refine r_sortedSet (by k_extra "cfg") (by exact Room.h (by assumption)) (by assumption) ?_; intro _ _ _)))
  k_with "opIn" => ((fail_if_success (have := endF21)); (refine r_inLN (by k_extra "cfg") (by k_extra "memP") ?_))
  k_with "neR" => ((fail_if_success (have := endF21)); (refine r_neN0 (by k_extra "cfg") (by k_extra "room") (by k_extra "memP") (by k_extra "memP") ?_))
  exact trivial
theorem r_addLN {a b : Addr} {l1 l2 : List Nat} (c : Cfg w Z b₀ P L loc tmp tt s) (ha : (a, .list (nlv l1)) ∈ tmp ++ P.objs) (hb : (b, .list (nlv l2)) ∈ tmp ++ P.objs) (hz : l1.length + l2.length ≤ 1000000)
    (h : ∀ d s', Cfg w Z b₀ P L loc ((d, .list (nlv (l1 ++ l2))) :: tmp) tt s' → Q (.ref d) s') : wpAny (model prg w) A (binaryOp .Add (.ref a) (.ref b)) Q E s :=
  r_addL c ha hb (by rw [nlv_len, nlv_len]; exact hz) (by rw [show nlv l1 ++ nlv l2 = nlv (l1 ++ l2) by simp [nlv]]; exact h)
theorem wordsF21b : True := by
  k_with "addR" => ((fail_if_success (have := endF21)); (refine r_addLN (by k_extra "cfg") (by k_extra "memP") (by k_extra "memP") (by assumption) ?_; intro _ _ _))
  exact trivial
theorem Up.len {n : Nat} : ∀ {l : List Nat} {m : Nat}, Up l → (∀ x ∈ l, m ≤ x) → (∀ x ∈ l, x < n) → l.length ≤ n - m
  | [], _, _, _, _ => Nat.zero_le _
  | x :: l, m, hu, h1, h2 => by
    have hu' := List.pairwise_cons.mp hu
    have := Up.len (m := x + 1) hu'.2 (fun y hy => hu'.1 y hy) fun y hy => h2 y (.tail _ hy)
    have := h1 x (.head _)
    have := h2 x (.head _)
    rw [List.length_cons]; (first | lia | omega)
theorem AbP_lt {ms bg : List Nat} (hb : ∀ x ∈ bg, x < 12) (hm : ∀ x ∈ ms, x < 12) : ∀ {k x : Nat}, AbP σ ms bg k x → x < 12
  | 0, x, h => hb x h
  | k + 1, x, h => by
    rcases h with h | ⟨n, h1, h2, _⟩
    · exact AbP_lt hb hm h
    · rw [← h2]; simp only [List.getD, List.getElem?_eq_getElem h1]; exact hm _ (List.getElem_mem h1)
theorem upB_iff {ms fs : List Nat} {n : Nat} : upB σ ms fs n = true ↔ ∃ kid ∈ rowKids σ n, ms.getD kid 0 ∈ fs := by
  unfold upB
  rw [decide_eq_true_eq]
  constructor
  · intro h
    obtain ⟨kid, hk⟩ := List.exists_mem_of_ne_nil _ h
    obtain ⟨h1, h2⟩ := List.mem_filter.mp hk
    obtain ⟨y, hy, e⟩ := List.any_eq_true.mp h2
    have e2 : y = ms.getD kid 0 := by simpa using e
    exact ⟨kid, h1, e2 ▸ hy⟩
  · rintro ⟨kid, h1, h2⟩ h
    have : kid ∈ (rowKids σ n).filter fun kid => fs.any (· == ms.getD kid 0) := List.mem_filter.mpr ⟨h1, List.any_eq_true.mpr ⟨_, h2, by simp⟩⟩
    rw [h] at this; cases this
inductive JAb (ad : Ad) (σ : St) (ms bg : List Nat) (ab am L' L : Addr) (k : Nat) (fo1 : Obj) (tmp : List (Addr × G)) (tt : List (Addr × List LV)) (i : Nat) (P' : Pers) (loc' : List (Str × LV)) (tmp' : List (Addr × G)) (tt' : List (Addr × List LV)) : Prop
  | mk (h1 : P' = pers ad σ) (h2 : tt' = tt) (Df : Addr) (fs : List Nat) (lv lm : LV) (g1 : Up fs) (g2 : ∀ x, x ∈ fs ↔ AbP σ ms bg i x) (h6 : loc' = [(Str.ofString "begin", .ref ab), (Str.ofString "steps", .int (k : Int)), (Str.ofString "step", lv), (Str.ofString "more", lm)])
      (h7 : tmp' = (Df, .list (nlv fs)) :: (L' + 1 + 1 + 1, .cell (.ref Df)) :: (L' + 1 + 1, .cell (.ref am)) :: (L' + 1, .cell (.ref ad.rows)) :: (L, .obj fo1) :: tmp) : JAb ad σ ms bg ab am L' L k fo1 tmp tt i P' loc' tmp' tt'
set_option maxHeartbeats 8000000 in
theorem above_spec {am ab : Addr} {ms bg : List Nat} {k : Nat} {t : Tok} (c : Cfg w Z b₀ (pers ad σ) L loc tmp tt s) (B : Base w Z) (r : Room 6 A) (hb : (ab, .list (nlv bg)) ∈ tmp) (hm : (am, .list (nlv ms)) ∈ tmp) (hl : σ.rows.length = ms.length) (h12 : ms.length ≤ 12) (hbg : bg.length ≤ 12)
    (hbm : ∀ x ∈ bg, x < 12) (hms : ∀ x ∈ ms, x < 12) (hkid : ∀ p ∈ σ.rows, (∀ kid ∈ p.2.2, kid < ms.length) ∧ p.2.2.length ≤ 2) (hk3 : k ≤ 100)
    (ret : ∀ D fs s', Up fs → (∀ x, x ∈ fs ↔ AbP σ ms bg k x) → Cfg w Z b₀ (pers ad σ) L loc ((D, .list (nlv fs)) :: tmp) tt s' → Q (.ref D) s') :
    wpAny (model prg w) A (call (.ref 521) [.ref ad.rows, .ref am, .ref ab, .int (k : Int) t]) Q E s := by
  have h64 : (setOf (toI bg)).length < 64 := by
    have := len_setOf (l := toI bg)
    simp only [toI, List.length_map] at this
    simp only [toI]; (first | lia | omega)
  obtain ⟨cs, e1, e2, e3, e4⟩ := sorted_set bg
  refine r_callC (n := 5) (binds := [(Str.ofString "rows", .ref ad.rows), (Str.ofString "marks", .ref am), (Str.ofString "begin", .ref ab), (Str.ofString "steps", .int (k : Int) t)]) c B r (by k_is) (by k_is) (BindsTo.of_eq rfl) (by rfl) (by decide +kernel) [(Str.ofString "begin", .ref ab), (Str.ofString "steps", .int (k : Int)), (Str.ofString "step", .unset), (Str.ofString "more", .unset)] (fun L' => [(L' + 1 + 1 + 1, .unset), (L' + 1 + 1, .ref am), (L' + 1, .ref ad.rows)]) ?_ ?_ ?_ ?_
  · intro L'; k_extra "locs"
  · k_extra "nodup"
  · intro L'
    show All2 _ [(Str.ofString "found", L' + 1 + 1 + 1), (Str.ofString "marks", L' + 1 + 1), (Str.ofString "rows", L' + 1)] _
    exact .cons ⟨rfl, trivial⟩ (.cons ⟨rfl, ⟨_, rfl, rfl⟩⟩ (.cons ⟨rfl, ⟨_, rfl, rfl⟩⟩ .nil))
  intro L' fo1 A' s' hb' r' c'
  change Cfg _ _ _ _ _ _ ((L' + 1 + 1 + 1, .cell .unset) :: (L' + 1 + 1, .cell (.ref am)) :: (L' + 1, .cell (.ref ad.rows)) :: (L, .obj fo1) :: tmp) _ _ at c'
  k_extra "go"
  rename_i I1 s1 c9
  rw [e1, ← nlv_toI] at c9
  obtain ⟨Dc, c9⟩ : ∃ Dc, Cfg w Z b₀ (pers ad σ) L' [(Str.ofString "begin", .ref ab), (Str.ofString "steps", .int (k : Int)), (Str.ofString "step", .unset), (Str.ofString "more", .unset)]
    ((I1, rgO 0 k 0) :: (Dc, .list (nlv cs)) :: (L' + 1 + 1 + 1, .cell (.ref Dc)) :: (L' + 1 + 1, .cell (.ref am)) :: (L' + 1, .cell (.ref ad.rows)) :: (L, .obj fo1) :: tmp) tt s1 := ⟨_, c9.sub (by k_extra "subl") fun p hp => List.mem_append_left _ hp⟩
  refine r_for nx_rg r'.h (JAb ad σ ms bg ab am L' L k fo1 tmp tt) ?_ ?_ ?_ ⟨rfl, rfl, Dc, cs, .unset, .unset, e2, e3, rfl, rfl⟩ c9
  · intros; trivial
  · rintro i P' loc' tmp' tt' s v l hx hv ⟨rfl, rfl, Df, fs, lv, lm, f1, f2, rfl, rfl⟩ c
    refine turn_cut fun K hK => ?_
    obtain ⟨hi, rfl⟩ := rngL_at hx
    obtain ⟨t, rfl⟩ := hv
    have hfl : fs.length ≤ 12 := by have := Up.len (m := 0) (n := 12) f1 (fun _ _ => Nat.zero_le _) fun x hx => AbP_lt hbm hms ((f2 x).mp hx); (first | lia | omega)
    have hrl : σ.rows.length ≤ 1000000 := by (first | lia | omega)
    k_extra "go"
    refine r_LCnatF (List.range σ.rows.length) (fun i => .int ((0 : Int) + (i : Nat))) (fun n => ms.getD n 0) (upB σ ms fs) nx_rg r'.h (by decide +kernel) rfl rfl ?_ ?_ ?_ ?_ ?_ (by assumption)
    · intro D fo i acc; trivial
    · rw [List.length_range]; (first | lia | omega)
    · intro C D fo i acc s n hn c
      have hn2 : n < ms.length := by have := List.mem_of_getElem? hn; rw [List.mem_range] at this; (first | lia | omega)
      rw [Int.zero_add] at c ⊢
      have hnr : n < σ.rows.length := by (first | lia | omega)
      have hrow : σ.rows[n]? = some σ.rows[n] := List.getElem?_eq_getElem hnr
      have hrk : rowKids σ n = σ.rows[n].2.2 := by simp [rowKids, hrow]
      have hkd := hkid _ (List.getElem_mem hnr)
      generalize σ.rows[n] = p at *
      have hz : p.2.2.length ≤ 100000 := by (first | lia | omega)
      k_extra "go"
      refine r_LCnatF p.2.2 (fun k => .int (k : Int)) (fun k => k) (fun kid => fs.any (· == ms.getD kid 0)) nx_tup r'.h (by decide +kernel) rfl rfl ?_ (by (first | lia | omega)) ?_ ?_ ?_ (by assumption)
      · intro D fo i acc; exact .head _
      · intro C D fo i acc s kid hk c
        have hk2 := hkd.1 kid (List.mem_of_getElem? hk)
        k_extra "go"
        k_extra "tst"
        rfl
      · intro C D fo i acc s kid hk hp c
        k_extra "go"
        k_extra "elt"
      · intro C D fo s lv hb c
        refine post_Q ?_ hb c
        intro s' c'
        simp only [List.map_id'] at c'
        k_extra "go"
        k_extra "tst"
        unfold upB
        rw [hrk]
    · intro C D fo i acc s n hn hp c
      have hn2 : n < ms.length := by have := List.mem_of_getElem? hn; rw [List.mem_range] at this; (first | lia | omega)
      rw [Int.zero_add] at c
      k_extra "go"
      k_extra "elt"
    · intro C D fo s lv hb c
      refine' post_storeS (z := Str.ofString "more") hb c ?U ?_
      case U => k_extra "put"
      intro s' c'
      have hml : (((List.range σ.rows.length).filter (upB σ ms fs)).map fun n => ms.getD n 0).length ≤ 12 := by
        have := List.length_filter_le (upB σ ms fs) (List.range σ.rows.length)
        rw [List.length_range] at this
        rw [List.length_map]; (first | lia | omega)
      have haz : fs.length + (((List.range σ.rows.length).filter (upB σ ms fs)).map fun n => ms.getD n 0).length ≤ 1000000 := by (first | lia | omega)
      have hsl : (setOf (toI (fs ++ ((List.range σ.rows.length).filter (upB σ ms fs)).map fun n => ms.getD n 0))).length < 64 := by
        have := len_setOf (l := toI (fs ++ ((List.range σ.rows.length).filter (upB σ ms fs)).map fun n => ms.getD n 0))
        have e : (toI (fs ++ ((List.range σ.rows.length).filter (upB σ ms fs)).map fun n => ms.getD n 0)).length = fs.length + (((List.range σ.rows.length).filter (upB σ ms fs)).map fun n => ms.getD n 0).length := by
          unfold toI; rw [List.length_map, List.length_append]
        (first | lia | omega)
      have hset : (fs ++ ((List.range σ.rows.length).filter (upB σ ms fs)).map fun n => ms.getD n 0).length + 1 < scanBound := by
        have : scanBound = 4096 := rfl
        rw [List.length_append]; (first | lia | omega)
      k_extra "go"
      rename_i s2 c8
      obtain ⟨cs2, g1, g2, g3, _⟩ := sorted_set (fs ++ ((List.range σ.rows.length).filter (upB σ ms fs)).map fun n => ms.getD n 0)
      rw [g1, ← nlv_toI] at c8
      refine hK _ _ ?_
      refine' BodyQ.nextP c8 ?h4 ?t4 ⟨rfl, rfl, _, cs2, _, _, g2, fun x => ?_, rfl, rfl⟩
      case h4 => k_extra "subl"
      case t4 => k_extra "suf"
      rw [g3, List.mem_append, f2]
      refine or_congr Iff.rfl ?_
      rw [List.mem_map]
      constructor
      · rintro ⟨n, hn, e⟩
        obtain ⟨h1, h2⟩ := List.mem_filter.mp hn
        rw [List.mem_range] at h1
        obtain ⟨kid, h3, h4⟩ := upB_iff.mp h2
        exact ⟨n, by (first | lia | omega), e, kid, h3, (f2 _).mp h4⟩
      · rintro ⟨n, h1, e, kid, h3, h4⟩
        exact ⟨n, List.mem_filter.mpr ⟨List.mem_range.mpr (by (first | lia | omega)), upB_iff.mpr ⟨kid, h3, (f2 _).mpr h4⟩⟩, e⟩
  · rintro P' loc' tmp' tt' s ⟨rfl, rfl, Df, fs, lv, lm, f1, f2, rfl, rfl⟩ c
    rw [rngL_len] at f2
    k_extra "go"
    refine ret _ fs _ f1 f2 ?g
    case g => k_extra "leave1"
end
theorem endF21 : True := trivial
end
section
section
variable {w : World} {Z : Heap} {b₀ : Shared} {P P' : Pers} {L a y C I : Addr} {loc loc' : List (Str × LV)} {tmp tmp' : List (Addr × G)} {tt tt' : List (Addr × List LV)} {s s' : Shared} {h' : Heap} {tk : Nat} {g g' : G}
  {A : Around} {E : Value → Shared → Prop} {env : Env} {x : Str} {pos : Pos} {Q : Value → Shared → Prop} {QU : Unit → Shared → Prop} {QF : Flow → Shared → Prop} {n : Nat} {fs : List (Str × Value)} {ad : Ad} {σ : St}
noncomputable def nkids (σ : St) (i : Nat) : List Nat := (((nds σ)[i]?).map (·.2)).getD []
noncomputable def usersL (σ : St) (c : Nat) : List Nat := (List.range σ.nodes.length).filter fun i => (nkids σ i).any fun kid => root σ.parent kid == root σ.parent c
theorem usersL_up (c : Nat) : Up (usersL σ c) := List.Pairwise.filter _ List.pairwise_lt_range
theorem nkids_of {i : Nat} {x : Node} (h : (nds σ)[i]? = some x) : nkids σ i = x.2 := by simp [nkids, h]
theorem usersL_mem {c i : Nat} : i ∈ usersL σ c ↔ ∃ x : Node, (nds σ)[i]? = some x ∧ ∃ kid ∈ x.2, root σ.parent kid = root σ.parent c := by
  unfold usersL
  rw [List.mem_filter, List.mem_range, List.any_eq_true]
  constructor
  · rintro ⟨h1, kid, h2, h3⟩
    have h4 : i < (nds σ).length := by rw [nds_len]; exact h1
    have hx : (nds σ)[i]? = some (nds σ)[i] := List.getElem?_eq_getElem h4
    rw [nkids_of hx] at h2
    exact ⟨_, hx, kid, h2, by simpa using h3⟩
  · rintro ⟨x, hx, kid, h2, h3⟩
    exact ⟨lt_of_at hx, kid, by rw [nkids_of hx]; exact h2, by simpa using h3⟩
theorem usersI_spec {k : Nat} {t : Tok} {X : List Nat} {T : List (Nat × Nat)} (c : Cfg w Z b₀ (pers ad σ) L loc tmp tt s) (B : Base w Z) (r : Room 4 A) (fz : Froz ad Z) (v : Inv σ X T) (hk : k < σ.nodes.length) (h9 : σ.nodes.length ≤ 9)
    (ret : ∀ D s', Cfg w Z b₀ (pers ad σ) L loc ((D, .list (nlv (usersL σ k))) :: tmp) tt s' → Q (.ref D) s') : wpAny (model prg w) A (call (.ref 480) [.ref ad.hp, .int (k : Int) t]) Q E s := by
  obtain ⟨d, us, hm⟩ := mem_keys.mp ((v.habK _).mpr ⟨root_lt hk, root_root v.falls k⟩)
  have hM : σ.mrg.length ≤ 8 := by
    have h1 := v.habM
    have h2 : 0 < σ.hab.length := List.length_pos_of_mem hm
    (first | lia | omega)
  have hp : 2 ^ σ.mrg.length ≤ 256 := Nat.le_trans (Nat.pow_le_pow_right (by (first | lia | omega)) hM) (by decide)
  have hp2 : σ.nodes.length * 2 ^ σ.mrg.length ≤ 9 * 256 := Nat.mul_le_mul h9 hp
  have hul := v.habB _ hm
  dsimp only at hul
  obtain ⟨cs, e1, e2, e3, e4⟩ := sorted_set us
  have hu := v.habU _ hm
  have ecs : cs = usersL σ k := Up.ext e2 (usersL_up k) fun x => by rw [e3, usersL_mem]; exact hu x
  have hlen : cs.length ≤ 12 := by
    have := Up.len (m := 0) (n := 12) e2 (fun _ _ => Nat.zero_le _) fun x hx => by
      obtain ⟨y, hy, _⟩ := (hu x).mp ((e3 x).mp hx)
      have := lt_of_at hy
      (first | lia | omega)
    (first | lia | omega)
  exact users_spec c B r fz v.pw (by rw [v.plen]; exact hk) v.habN hm (by have : scanBound = 4096 := rfl; (first | lia | omega)) (by (first | lia | omega)) fun D s' c' => ret D s' (by rw [← ecs, nlv_toI, ← e1]; exact c')
theorem look_keysD (ns : List Int) (k : Int) : ((keysD ns).lookup k).isSome = ns.any (· == k) := by
  unfold keysD
  induction ns with
  | nil => rfl
  | cons n ns ih =>
    rw [List.map_cons, List.lookup_cons, List.any_cons]
    by_cases h : k = n
    · subst h; simp
    · have h1 : (k == n) = false := by simpa using h
      have h2 : (n == k) = false := by simpa using fun e => h e.symm
      rw [h1, h2, Bool.false_or]
      exact ih
theorem r_notinK {D : Addr} {ns : List Int} {k : Int} {t : Tok} (c : Cfg w Z b₀ P L loc tmp tt s) (B : Base w Z) (hm : (D, .dictI (keysD ns)) ∈ tmp ++ P.objs) (h : ∀ s', Cfg w Z b₀ P L loc tmp tt s' → Q (.bool (!ns.any (· == k))) s') :
    wpAny (model prg w) A (compareOp .NotIn (.int k t) (.ref D)) Q E s := r_notinDI c B hm (by rw [look_keysD]; exact h)
/-- up from the classes, as the heap goes -/
noncomputable def RchP (σ : St) (cl : List Nat) : Nat → Nat → Prop
  | 0, x => x ∈ cl
  | k + 1, x => RchP σ cl k x ∨ ∃ (n : Nat) (nd : Node), (nds σ)[n]? = some nd ∧ root σ.parent n = x ∧ ∃ kid ∈ nd.2, RchP σ cl k (root σ.parent kid)
theorem wordsF22a : True := by
  k_with "spec" => ((fail_if_success (have := endF22)); ((with_reducible show wpAny _ _ (call (.ref 407) _) _ _ _); refine hfind_spec (by k_extra "cfg") (by assumption) (by k_extra "room") (by assumption) (by assumption) (by first | assumption | omega) ?_; intro _ _ _))
  k_with "spec" => ((fail_if_success (have := endF22)); ((with_reducible show wpAny _ _ (call (.ref 480) _) _ _ _); refine usersI_spec (by k_extra "cfg") (by assumption) (by k_extra "room") (by assumption) (by assumption) (by assumption) (by assumption) ?_; intro _ _ _))
  k_with "spec" => ((fail_if_success (have := endF22)); ((with_reducible show wpAny _ _ (call (.type "list") _) _ _ _); refine r_listL (by k_extra "cfg") (by k_extra "memP") (by rw [nlv_len]; omega) ?_; intro _ _ _))
  k_with "spec" => ((fail_if_success (have := endF22)); ((with_reducible show wpAny _ _ (call (.builtin "sorted") _) _ _ _); (refine r_sortedSet (by k_extra "cfg") (by exact Room.h (by assumption)) (by assumption) ?_; intro _ _ _)))
  k_with "setI" => ((fail_if_success (have := endF22)); (refine r_setK (by k_extra "cfg") (by k_extra "put") (by assumption) ?_; intro _ _))
  k_with "opNotIn" => ((fail_if_success (have := endF22)); (refine r_notinK (by k_extra "cfg") (by assumption) (by k_extra "memP") ?_; intro _ _))
  exact trivial
theorem BodyQ.nextR {i : Nat} {gg : Nat → G} {J : Nat → Pers → List (Str × LV) → List (Addr × G) → List (Addr × List LV) → Prop} {led : List (Addr × G)} (c : Cfg w Z b₀ P L loc led tt s) (h : ((I, gg (i + 1)) :: tmp).Perm led) (j : J (i + 1) P loc tmp tt) : BodyQ w Z b₀ L J I gg i QF .next s :=
  ⟨P, loc, tmp, tt, j, c.perm h⟩
theorem flat_len {g : Nat → List Nat} {m : Nat} : ∀ (l : List Nat), (∀ x ∈ l, (g x).length ≤ m) → (l.flatMap g).length ≤ l.length * m
  | [], _ => by simp
  | x :: l, h => by
    have := flat_len l fun y hy => h y (.tail _ hy)
    have := h x (.head _)
    rw [List.flatMap_cons, List.length_append, List.length_cons, Nat.add_mul]
    (first | lia | omega)
theorem usersL_len (c : Nat) : (usersL σ c).length ≤ σ.nodes.length := by
  have := List.length_filter_le (fun i => (nkids σ i).any fun kid => root σ.parent kid == root σ.parent c) (List.range σ.nodes.length)
  rw [List.length_range] at this
  exact this
theorem rch_lt {cl : List Nat} (hcl : ∀ x ∈ cl, x < σ.nodes.length ∧ root σ.parent x = x) (hf : Falls σ.parent) : ∀ {k x : Nat}, RchP σ cl k x → x < σ.nodes.length ∧ root σ.parent x = x
  | 0, x, h => hcl x h
  | k + 1, x, h => by
    rcases h with h | ⟨n, nd, h1, rfl, _⟩
    · exact rch_lt hcl hf h
    · exact ⟨root_lt (lt_of_at h1), root_at (root_root hf n)⟩
theorem ints_len {ns : List Int} {n : Nat} (h1 : ns.Nodup) (h2 : ∀ z ∈ ns, 0 ≤ z) (h3 : ∀ x : Nat, (x : Int) ∈ ns → x < n) : ns.length ≤ n := by
  obtain ⟨cs, e1, e2, e3, e4⟩ := sorted_nat h1 h2
  have := Up.len (m := 0) (n := n) e2 (fun _ _ => Nat.zero_le _) fun x hx => h3 x ((e3 x).mp hx)
  (first | lia | omega)
inductive JRc (ad : Ad) (σ : St) (ac ch L' L : Addr) (k : Nat) (cl : List Nat) (fo1 : Obj) (tmp : List (Addr × G)) (tt : List (Addr × List LV)) (i : Nat) (P' : Pers) (loc' : List (Str × LV)) (tmp' : List (Addr × G)) (tt' : List (Addr × List LV)) : Prop
  | mk (h1 : P' = pers ad σ) (h2 : tt' = tt) (Df Dd : Addr) (frl : List Nat) (ns : List Int) (lv la lc : LV) (g1 : ∀ x ∈ frl, RchP σ cl i x) (g2 : frl.length ≤ 12) (g3 : ns.Nodup) (g4 : ∀ z ∈ ns, 0 ≤ z) (g5 : ∀ x : Nat, (x : Int) ∈ ns ↔ RchP σ cl i x)
      (g6 : ∀ x, RchP σ cl i x → x ∈ frl ∨ ∀ (n : Nat) (nd : Node), (nds σ)[n]? = some nd → (∃ kid ∈ nd.2, root σ.parent kid = x) → RchP σ cl i (root σ.parent n))
      (h6 : loc' = [(Str.ofString "classes", .ref ac), (Str.ofString "steps", .int (k : Int)), (Str.ofString "fresh", .ref Df), (Str.ofString "step", lv), (Str.ofString "above", la), (Str.ofString "c", lc)])
      (h7 : tmp' = (Df, .list (nlv frl)) :: (Dd, .dictI (keysD ns)) :: (L' + 1 + 1, .cell (.ref Dd)) :: (L' + 1, .cell (.ref ch)) :: (L, .obj fo1) :: tmp) : JRc ad σ ac ch L' L k cl fo1 tmp tt i P' loc' tmp' tt'
set_option maxHeartbeats 8000000 in
theorem reached_spec {ch ac : Addr} {cl : List Nat} {k : Nat} {t : Tok} {wk sn mk : Value} {X : List Nat} {T : List (Nat × Nat)} (c : Cfg w Z b₀ (pers ad σ) L loc tmp tt s) (B : Base w Z) (r : Room 7 A) (fz : Froz ad Z) (fc : Inst Z ch cChanges (fsCh ad wk sn mk)) (v : Inv σ X T)
    (hac : (ac, .list (nlv cl)) ∈ tmp) (hcl : ∀ x ∈ cl, x < σ.nodes.length ∧ root σ.parent x = x) (hll : cl.length ≤ 12) (h9 : σ.nodes.length ≤ 9) (hk3 : k ≤ 100)
    (ret : ∀ D fs s', Up fs → (∀ x, x ∈ fs ↔ RchP σ cl k x) → Cfg w Z b₀ (pers ad σ) L loc ((D, .list (nlv fs)) :: tmp) tt s' → Q (.ref D) s') :
    wpAny (model prg w) A (call (.ref 249) [.ref ch, .ref ac, .int (k : Int) t]) Q E s := by
  have hn12 := v.n12
  have hp := v.pw
  have hpl := v.plen
  refine r_callC (n := 6) (binds := [(Str.ofString "self", .ref ch), (Str.ofString "classes", .ref ac), (Str.ofString "steps", .int (k : Int) t)]) c B r (by k_is) (by k_is) (BindsTo.of_eq rfl) (by rfl) (by decide +kernel) [(Str.ofString "classes", .ref ac), (Str.ofString "steps", .int (k : Int)), (Str.ofString "fresh", .unset), (Str.ofString "step", .unset), (Str.ofString "above", .unset), (Str.ofString "c", .unset)] (fun L' => [(L' + 1 + 1, .unset), (L' + 1, .ref ch)]) ?_ ?_ ?_ ?_
  · intro L'; k_extra "locs"
  · k_extra "nodup"
  · intro L'
    show All2 _ [(Str.ofString "found", L' + 1 + 1), (Str.ofString "self", L' + 1)] _
    exact .cons ⟨rfl, trivial⟩ (.cons ⟨rfl, ⟨_, rfl, rfl⟩⟩ .nil)
  intro L' fo1 A' s' hb' r' c'
  change Cfg _ _ _ _ _ _ ((L' + 1 + 1, .cell .unset) :: (L' + 1, .cell (.ref ch)) :: (L, .obj fo1) :: tmp) _ _ at c'
  k_extra "go"
  refine r_DCgo (nx_list (xs := nlv cl)) r'.h (fun i => (cl.getD i 0 : Int)) (by decide +kernel) rfl rfl ?_ ?_ ?_ ?_ (by assumption)
  · intro D fo i acc
    show (_, G.list (nlv cl)) ∈ _
    k_extra "memP"
  · rw [nlv_len]; (first | lia | omega)
  · intro C D fo i acc s l hl c
    simp only [nlv, List.getElem?_map, Option.map_eq_some_iff] at hl
    obtain ⟨n, hn, rfl⟩ := hl
    have e : cl.getD i 0 = n := by simp [List.getD, hn]
    rw [e]
    k_extra "go"
    refine ⟨⟨_, rfl⟩, rfl, .int (n : Int), [], tt, ?_, fun p hp => List.mem_append_left _ hp⟩
    k_extra "cfg"
  · intro C D fo s lv hb c
    rw [nlv_len] at c
    refine post_Q ?_ hb c
    intro s' c'
    k_extra "go"
    rename_i I1 s1 c9
    have hb1 : (setOf ((List.range cl.length).map fun i => (cl.getD i 0 : Int))).Nodup := nodup_setOf
    have hb2 : ∀ x : Nat, (x : Int) ∈ setOf ((List.range cl.length).map fun i => (cl.getD i 0 : Int)) ↔ x ∈ cl := fun x => by
      rw [mem_setOf, List.mem_map]
      constructor
      · rintro ⟨i, hi, e⟩
        rw [List.mem_range] at hi
        have e2 : cl.getD i 0 = x := by (first | lia | omega)
        rw [← e2]; simp only [List.getD, List.getElem?_eq_getElem hi]; exact List.getElem_mem hi
      · intro hx
        obtain ⟨i, hi⟩ := List.mem_iff_getElem?.mp hx
        exact ⟨i, List.mem_range.mpr (List.getElem?_eq_some_iff.mp hi).1, by simp [List.getD, hi]⟩
    have hb3 : ∀ z ∈ setOf ((List.range cl.length).map fun i => (cl.getD i 0 : Int)), 0 ≤ z := fun z hz => by
      obtain ⟨i, _, rfl⟩ := List.mem_map.mp (mem_setOf.mp hz)
      (first | lia | omega)
    generalize setOf ((List.range cl.length).map fun i => (cl.getD i 0 : Int)) = base at *
    obtain ⟨Df, Dd, c9⟩ : ∃ Df Dd, Cfg w Z b₀ (pers ad σ) L' [(Str.ofString "classes", .ref ac), (Str.ofString "steps", .int (k : Int)), (Str.ofString "fresh", .ref Df), (Str.ofString "step", .unset), (Str.ofString "above", .unset), (Str.ofString "c", .unset)]
      ((I1, rgO 0 k 0) :: (Df, .list (nlv cl)) :: (Dd, .dictI (keysD base)) :: (L' + 1 + 1, .cell (.ref Dd)) :: (L' + 1, .cell (.ref ch)) :: (L, .obj fo1) :: tmp) tt s1 := ⟨_, _, c9.sub (by k_extra "subl") fun p hp => List.mem_append_left _ hp⟩
    refine r_for nx_rg r'.h (JRc ad σ ac ch L' L k cl fo1 tmp tt) ?_ ?_ ?_
      ⟨rfl, rfl, Df, Dd, cl, base, .unset, .unset, .unset, fun x hx => hx, hll, hb1, hb3, hb2, fun x hx => .inl hx, rfl, rfl⟩ c9
    · intros; trivial
    · rintro i P' loc' tmp' tt' s v' l hx hv ⟨rfl, rfl, Df, Dd, frl, ns, lv, la, lc, f1, f2, f3, f4, f5, f6, rfl, rfl⟩ c
      refine turn_cut fun K hK => ?_
      obtain ⟨hi, rfl⟩ := rngL_at hx
      obtain ⟨t, rfl⟩ := hv
      have hnl : ns.length ≤ 12 := by have := ints_len f3 f4 fun x hx => (rch_lt hcl hp.falls ((f5 x).mp hx)).1; (first | lia | omega)
      have hfl : ∀ l : List Nat, l.length ≤ 12 → (l.flatMap fun k => (usersL σ k).map (root σ.parent)).length ≤ 144 := fun l hl => by
        have := flat_len (m := 12) (g := fun k => (usersL σ k).map (root σ.parent)) l fun x _ => by
          rw [List.length_map]; have := usersL_len (σ := σ) x; (first | lia | omega)
        (first | lia | omega)
      k_extra "go"
      refine r_LCtwo frl (usersL σ) (root σ.parent) r'.h (by decide +kernel) rfl rfl rfl (by decide +kernel) (.tail _ (.head _)) ?_ ?_ ?_ ?_ (by assumption)
      · intro i j k _
        have h1 := hfl (frl.take i) (by rw [List.length_take]; (first | lia | omega))
        have h2 := usersL_len (σ := σ) k
        rw [List.length_append, List.length_map, List.length_take]
        (first | lia | omega)
      · intro C D fo i acc s k ly hk c
        have hk2 := (rch_lt hcl hp.falls (f1 k (List.mem_of_getElem? hk))).1
        k_extra "go"
        exact ⟨_, _, rfl, by k_extra "cfg"⟩
      · intro C D fo i acc s k u lx I2 U j hk hu c
        obtain ⟨_, hux, _⟩ := usersL_mem.mp hu
        have hu2 : u < σ.parent.length := by rw [hpl]; exact lt_of_at hux
        k_extra "go"
        exact ⟨⟨_, rfl⟩, _, _, by k_extra "cfg"⟩
      · intro C D fo s lx ly hb c
        refine' post_storeS (z := Str.ofString "above") hb c ?U ?_
        case U => k_extra "put"
        intro s' c'
        have hal := hfl frl f2
        have ham : ∀ x, x ∈ (frl.flatMap fun k => (usersL σ k).map (root σ.parent)) ↔ ∃ c ∈ frl, ∃ u ∈ usersL σ c, root σ.parent u = x := fun x => by
          rw [List.mem_flatMap]
          exact ⟨fun ⟨c, h1, h2⟩ => ⟨c, h1, List.mem_map.mp h2⟩, fun ⟨c, h1, h2⟩ => ⟨c, h1, List.mem_map.mpr h2⟩⟩
        generalize (frl.flatMap fun k => (usersL σ k).map (root σ.parent)) = abv at *
        k_extra "go"
        refine r_LCnatF abv (fun n => .int (n : Int)) (fun n => n) (fun (n : Nat) => !(ns.any (· == (n : Int)))) nx_list r'.h (by decide +kernel) rfl rfl ?_ (by (first | lia | omega)) ?_ ?_ ?_ (by assumption)
        · intro D fo i acc
          show (_, G.list (nlv abv)) ∈ _
          k_extra "memP"
        · intro C D fo i acc s x hx c
          k_extra "go"
          k_extra "tst"
          rfl
        · intro C D fo i acc s x hx hp c
          k_extra "go"
          k_extra "elt"
        · intro C D2 fo s lv hb c
          refine post_Q ?_ hb c
          intro s' c'
          simp only [List.map_id'] at c'
          have hnl2 : (abv.filter fun (n : Nat) => !(ns.any (· == (n : Int)))).length ≤ 144 := Nat.le_trans (List.length_filter_le ..) hal
          have hnm : ∀ x, x ∈ (abv.filter fun (n : Nat) => !(ns.any (· == (n : Int)))) ↔ x ∈ abv ∧ ¬ RchP σ cl i x := fun x => by
            rw [List.mem_filter, ← f5 x]
            refine and_congr Iff.rfl ?_
            rw [Bool.not_eq_true', List.any_eq_false]
            constructor
            · intro h hx
              exact absurd (by simp) (h _ hx)
            · intro h z hz e
              have : z = (x : Int) := by simpa using e
              exact h (this ▸ hz)
          have hset : (abv.filter fun (n : Nat) => !(ns.any (· == (n : Int)))).length + 1 < scanBound := by
            have : scanBound = 4096 := rfl
            (first | lia | omega)
          have habn : ∀ x ∈ abv, x < σ.nodes.length := fun x hx => by
            obtain ⟨c, _, u, hu, rfl⟩ := (ham x).mp hx
            obtain ⟨_, hux, _⟩ := usersL_mem.mp hu
            exact root_lt (lt_of_at hux)
          obtain ⟨fr, e1, e2, e3, e4⟩ := sorted_set (abv.filter fun (n : Nat) => !(ns.any (· == (n : Int))))
          have hfrl : fr.length ≤ 12 := by
            have := Up.len (m := 0) (n := 12) e2 (fun _ _ => Nat.zero_le _) fun x hx => by
              have := habn x ((hnm x).mp ((e3 x).mp hx)).1
              (first | lia | omega)
            (first | lia | omega)
          have h64 : (setOf (toI (abv.filter fun (n : Nat) => !(ns.any (· == (n : Int)))))).length < 64 := by (first | lia | omega)
          generalize (abv.filter fun (n : Nat) => !(ns.any (· == (n : Int)))) = nw at *
          k_extra "go"
          rename_i I2 s2 c8
          rw [e1, ← nlv_toI] at c8
          have c7 := c8.sub (tmp' := (I2, .liter _ 0) :: (_, .list (nlv fr)) :: (I1, rgO 0 k (i + 1)) :: (Dd, .dictI (keysD ns)) :: (L' + 1 + 1, .cell (.ref Dd)) :: (L' + 1, .cell (.ref ch)) :: (L, .obj fo1) :: tmp) (tt' := tt') (by k_extra "subl") fun p hp => List.mem_append_left _ hp
          obtain ⟨Dn, c8⟩ : ∃ Dn, Cfg w Z b₀ (pers ad σ) L' [(Str.ofString "classes", .ref ac), (Str.ofString "steps", .int (k : Int)), (Str.ofString "fresh", .ref Dn), (Str.ofString "step", .int ((0 : Int) + (i : Int))), (Str.ofString "above", .ref D), (Str.ofString "c", lc)]
            ((I2, .liter Dn 0) :: (Dd, .dictI (keysD ns)) :: (Dn, .list (nlv fr)) :: (I1, rgO 0 k (i + 1)) :: (L' + 1 + 1, .cell (.ref Dd)) :: (L' + 1, .cell (.ref ch)) :: (L, .obj fo1) :: tmp) tt' s2 :=
            ⟨_, c7.perm (List.Perm.cons _ (List.perm_middle (l₁ := [(_, _), (I1, _)])).symm)⟩
          refine r_forD (fun lv => [(Str.ofString "classes", .ref ac), (Str.ofString "steps", .int (k : Int)), (Str.ofString "fresh", .ref Dn), (Str.ofString "step", .int ((0 : Int) + (i : Int))), (Str.ofString "above", .ref D), (Str.ofString "c", lv)]) (fun j => .dictI (keysD ((toI (fr.take j)).foldl addK ns))) (nx_list (l := Dn) (xs := nlv fr)) r'.h ?_ ?_ ?_ c8
          · intro j; exact .tail _ (.tail _ (.head _))
          · intro j s v' l lv hx hv c
            refine turn_cut fun K hK => ?_
            simp only [nlv, List.getElem?_map, Option.map_eq_some_iff] at hx
            obtain ⟨x, hx, rfl⟩ := hx
            obtain ⟨t, rfl⟩ := hv
            have hS : (toI (fr.take (j + 1))).foldl addK ns = addK ((toI (fr.take j)).foldl addK ns) (x : Int) := by
              rw [List.take_add_one, hx]; simp [toI]
            have hz : ((toI (fr.take j)).foldl addK ns).length ≤ 1000000 := by
              have := (foldl_addK (toI (fr.take j)) ns f3).2.2
              have e : (toI (fr.take j)).length ≤ fr.length := by simp only [toI, List.length_map, List.length_take]; (first | lia | omega)
              (first | lia | omega)
            k_extra "go"
            refine hK _ _ ?_
            rw [hS]
            k_extra "body"
          · intro lv s c
            rw [nlv_len, List.take_length] at c
            k_extra "go"
            obtain ⟨g1, g2, _⟩ := foldl_addK (toI fr) ns f3
            have g3 : ∀ x : Nat, (x : Int) ∈ (toI fr).foldl addK ns ↔ RchP σ cl (i + 1) x := fun x => by
              rw [g2, f5]
              have e5 : (x : Int) ∈ toI fr ↔ x ∈ fr := by
                unfold toI
                rw [List.mem_map]
                exact ⟨fun ⟨y, hy, e⟩ => (show y = x by (first | lia | omega)) ▸ hy, fun h => ⟨x, h, rfl⟩⟩
              rw [e5, e3, hnm, ham]
              constructor
              · rintro (h | ⟨⟨c, h1, u, h2, rfl⟩, _⟩)
                · exact .inl h
                · obtain ⟨nd, h3, kid, h4, h5⟩ := usersL_mem.mp h2
                  have h6 := f1 c h1
                  have h7 := (rch_lt hcl hp.falls h6).2
                  exact .inr ⟨u, nd, h3, rfl, kid, h4, by rw [h5, h7]; exact h6⟩
              · rintro (h | ⟨n, nd, h1, rfl, kid, h2, h3⟩)
                · exact .inl h
                · rcases f6 _ h3 with h4 | h4
                  · by_cases h5 : RchP σ cl i (root σ.parent n)
                    · exact .inl h5
                    · exact .inr ⟨⟨_, h4, n, usersL_mem.mpr ⟨nd, h1, kid, h2, ((rch_lt hcl hp.falls h3).2).symm⟩, rfl⟩, h5⟩
                  · exact .inl (h4 n nd h1 ⟨kid, h2, rfl⟩)
            refine hK _ _ ?_
            refine BodyQ.nextR c ((List.reverse_perm [(Dd, _), (Dn, _), (I1, _)]).append_right _) ⟨rfl, rfl, Dn, Dd, fr, _, _, _, _, fun x hx => ?_, hfrl, g1, fun z hz => ?_, g3, fun x hx => ?_, rfl, rfl⟩
            · exact (g3 x).mp ((g2 _).mpr (.inr (by unfold toI; exact List.mem_map.mpr ⟨x, hx, rfl⟩)))
            · rcases (g2 z).mp hz with h | h
              · exact f4 z h
              · unfold toI at h
                obtain ⟨y, _, rfl⟩ := List.mem_map.mp h
                (first | lia | omega)
            · by_cases h5 : RchP σ cl i x
              · refine .inr fun n nd h1 ⟨kid, h2, h3⟩ => .inr ⟨n, nd, h1, rfl, kid, h2, by rw [h3]; exact h5⟩
              · refine .inl ((e3 x).mpr ((hnm x).mpr ⟨?_, h5⟩))
                rcases (g2 x).mp ((g3 x).mpr hx) with h | h
                · exact absurd ((f5 x).mp h) h5
                · unfold toI at h
                  obtain ⟨y, hy, e⟩ := List.mem_map.mp h
                  have : y = x := by (first | lia | omega)
                  subst this
                  exact ((hnm y).mp ((e3 y).mp hy)).1
    · rintro P' loc' tmp' tt' s ⟨rfl, rfl, Df, Dd, frl, ns, lv, la, lc, f1, f2, f3, f4, f5, f6, rfl, rfl⟩ c
      rw [rngL_len] at f5
      have hnl : ns.length ≤ 12 := by have := ints_len f3 f4 fun x hx => (rch_lt hcl hp.falls ((f5 x).mp hx)).1; (first | lia | omega)
      replace c := c.sub (tt' := tt') (List.sublist_cons_self _ _) (fun p hp => List.mem_append_left _ hp)
      k_extra "go"
      refine' r_sortedK ?c B r'.h ?h ?_
      case c => k_extra "cfg"
      case h => (first | lia | omega)
      intro d s' c'
      k_extra "go"
      obtain ⟨cs, e1, e2, e3, _⟩ := sorted_nat f3 f4
      rw [e1, ← nlv_toI] at c'
      refine ret _ cs _ e2 (fun x => by rw [e3, f5]) ?g
      case g => k_extra "leave1"
end
theorem endF22 : True := trivial
end
section
section
variable {w : World} {Z : Heap} {b₀ : Shared} {P P' : Pers} {L a y C I : Addr} {loc loc' : List (Str × LV)} {tmp tmp' : List (Addr × G)} {tt tt' : List (Addr × List LV)} {s s' : Shared} {h' : Heap} {tk : Nat} {g g' : G}
  {A : Around} {E : Value → Shared → Prop} {env : Env} {x : Str} {pos : Pos} {Q : Value → Shared → Prop} {QU : Unit → Shared → Prop} {QF : Flow → Shared → Prop} {n : Nat} {fs : List (Str × Value)} {ad : Ad} {σ : St}
theorem r_assignRB {x y : Str} {px py : Pos} {t : Addr} {k} {b : Addr} {v : Bool} (c : Cfg w Z b₀ P L loc tmp tt s) (hh : A.handled = none) (ht : (t, [.ref b, .bool v]) ∈ tt ++ P.tups)
    (h : ∀ s', Cfg w Z b₀ P L loc tmp tt s' → wpAny (model prg w) A (storeName env x (.ref b)) (fun _ s₁ => wpAny (model prg w) A (storeName env y (.bool v)) QU E s₁) E s') :
    wpAny (model prg w) A (assign (.Tuple [.Name x px, .Name y py] k pos) env (.ref t)) QU E s := r_assign2T c hh ht fun v1 v2 s' h1 h2 c' => by cases h1; cases h2; exact h s' c'
theorem r_assign3T {x y z : Str} {px py pz : Pos} {t : Addr} {k} {l1 l2 l3 : LV} (c : Cfg w Z b₀ P L loc tmp tt s) (hh : A.handled = none) (ht : (t, [l1, l2, l3]) ∈ tt ++ P.tups)
    (h : ∀ v1 v2 v3 s', l1.is v1 → l2.is v2 → l3.is v3 → Cfg w Z b₀ P L loc tmp tt s' → wpAny (model prg w) A (storeName env x v1) (fun _ s₁ => wpAny (model prg w) A (storeName env y v2) (fun _ s₂ => wpAny (model prg w) A (storeName env z v3) QU E s₂) E s₁) E s') :
    wpAny (model prg w) A (assign (.Tuple [.Name x px, .Name y py, .Name z pz] k pos) env (.ref t)) QU E s := by
  obtain ⟨us, hl, hv⟩ := c.rowTup ht
  have e := hv.size
  have hu : ∃ v1 v2 v3, us.toList = [v1, v2, v3] ∧ l1.is v1 ∧ l2.is v2 ∧ l3.is v3 := by
    generalize us.toList = l at hv
    cases hv with | cons h1 hv => cases hv with | cons h2 hv => cases hv with | cons h3 hv => cases hv; exact ⟨_, _, _, rfl, h1, h2, h3⟩
  obtain ⟨v1, v2, v3, e2, h1, h2, h3⟩ := hu
  refine assign_Tuple_tuple hh hl (by rw [← e]; rfl) rfl fun h' he => ?_
  rw [e2]
  have c' : Cfg w Z b₀ P L loc tmp tt { s with heap := h', toks := s.toks } := c.ext fun b o hb => he b o (fun q => by rw [q, get?_size] at hb; cases hb) hb
  refine assignInOrder_cons (wpAny_assign_Name ?_)
  refine wpAny_mono (h _ _ _ _ h1 h2 h3 c') (fun _ s₁ hq => ?_) fun _ _ e => e
  refine assignInOrder_cons (wpAny_assign_Name ?_)
  refine wpAny_mono hq (fun _ s₂ hq => ?_) fun _ _ e => e
  exact assignInOrder_cons (wpAny_assign_Name (wpAny_mono hq (fun _ s₂ hq => assignInOrder_nil hq) fun _ _ e => e))
theorem r_assignBRR {x y z : Str} {px py pz : Pos} {t : Addr} {k} {b d : Addr} {v : Bool} (c : Cfg w Z b₀ P L loc tmp tt s) (hh : A.handled = none) (ht : (t, [.bool v, .ref b, .ref d]) ∈ tt ++ P.tups)
    (h : ∀ s', Cfg w Z b₀ P L loc tmp tt s' → wpAny (model prg w) A (storeName env x (.bool v)) (fun _ s₁ => wpAny (model prg w) A (storeName env y (.ref b)) (fun _ s₂ => wpAny (model prg w) A (storeName env z (.ref d)) QU E s₂) E s₁) E s') :
    wpAny (model prg w) A (assign (.Tuple [.Name x px, .Name y py, .Name z pz] k pos) env (.ref t)) QU E s := r_assign3T c hh ht fun v1 v2 v3 s' h1 h2 h3 c' => by cases h1; cases h2; cases h3; exact h s' c'
theorem rngL_nlv (k : Nat) : rngL 0 k = nlv (List.range k) := by simp [rngL, nlv]
theorem r_listRN {r : Addr} {k : Nat} (c : Cfg w Z b₀ P L loc tmp tt s) (hh : A.handled = none) (hm : (r, .rng ((0 : Nat) : Int) (k : Int)) ∈ tmp ++ P.objs) (hk : k ≤ 1000000)
    (h : ∀ d s', Cfg w Z b₀ P L loc ((d, .list (nlv (List.range k))) :: tmp) tt s' → Q (.ref d) s') : wpAny (model prg w) A (call (.type "list") [.ref r]) Q E s :=
  r_listR c hh hm hk (by rw [rngL_nlv]; exact h)
theorem r_listRf {α : Type} {l : Addr} {ns : List (Addr × α)} (c : Cfg w Z b₀ P L loc tmp tt s) (hl : (l, .list (refs ns)) ∈ tmp ++ P.objs) (hz : ns.length ≤ 1000000) (h : ∀ d s', Cfg w Z b₀ P L loc ((d, .list (refs ns)) :: tmp) tt s' → Q (.ref d) s') :
    wpAny (model prg w) A (call (.type "list") [.ref l]) Q E s := r_listL c hl (by rw [refs_len]; exact hz) h
theorem wordsF23a : True := by
  k_with "asg" => ((fail_if_success (have := endF23)); (first
      | (refine r_assignRB (by k_extra "cfg") (by k_extra "hh") (by k_extra "memTT") ?_; intro _ _)
      | (refine r_assignBRR (by k_extra "cfg") (by k_extra "hh") (by k_extra "memTT") ?_; intro _ _)))
  k_with "spec" => ((fail_if_success (have := endF23)); ((with_reducible show wpAny _ _ (call (.type "list") _) _ _ _); first
      | (refine r_listRN (by k_extra "cfg") (by k_extra "hh") (by k_extra "memP") (by first | assumption | omega) ?_; intro _ _ _)
      | (refine r_listRf (by k_extra "cfg") (by k_extra "memP") (by first | assumption | omega) ?_; intro _ _ _)))
  exact trivial
theorem r_DictE {pos : Pos} (c : Cfg w Z b₀ P L loc tmp tt s) (h : ∀ d s', Cfg w Z b₀ P L loc ((d, .dictT []) :: tmp) tt s' → Q (.ref d) s') : wpAny (model prg w) A (eval (.Dict [] [] pos) env) Q E s := by
  rw [eval_Dict_empty]
  exact wpAny_bind (wpAny_standAt (r_newDT c h))
theorem wordsF23b : True := by
  k_with "dict0" => ((fail_if_success (have := endF23)); (refine r_DictE (by k_extra "cfg") ?_; intro _ _ _))
  k_with "spec" => ((fail_if_success (have := endF23)); ((with_reducible show wpAny _ _ (call (.type "enumerate") _) _ _ _); refine r_enum (by k_extra "cfg") (by k_extra "memP") ?_; intro _ _ _ _))
  k_with "iter" => ((fail_if_success (have := endF23)); ((refine r_iterE (by k_extra "cfg") (by with_reducible exact List.mem_cons_self) ?_)))
  exact trivial
theorem r_unpack3 {t : Addr} {l1 l2 l3 : LV} {m : Nat} {QL : List Value → Shared → Prop} (c : Cfg w Z b₀ P L loc tmp tt s) (hh : A.handled = none) (ht : (t, [l1, l2, l3]) ∈ tt ++ P.tups) (hn : m = 3)
    (h : ∀ v1 v2 v3 s', l1.is v1 → l2.is v2 → l3.is v3 → Cfg w Z b₀ P L loc tmp tt s' → QL [v1, v2, v3] s') : wpAny (model prg w) A (unpackItems (.ref t) m none) QL E s := by
  obtain ⟨us, hl, hv⟩ := c.rowTup ht
  have e := hv.size
  have hu : ∃ v1 v2 v3, us.toList = [v1, v2, v3] ∧ l1.is v1 ∧ l2.is v2 ∧ l3.is v3 := by
    generalize us.toList = l at hv
    cases hv with | cons h1 hv => cases hv with | cons h2 hv => cases hv with | cons h3 hv => cases hv; exact ⟨_, _, _, rfl, h1, h2, h3⟩
  obtain ⟨v1, v2, v3, e2, h1, h2, h3⟩ := hu
  have e3 : m = us.size := by rw [hn, ← e]; rfl
  subst e3
  refine unpackItems_tuple hh hl fun h' he => ?_
  rw [e2]
  exact h _ _ _ _ h1 h2 h3 (c.ext (tk := s.toks) fun b o hb => he b o (fun q => by rw [q, get?_size] at hb; cases hb) hb)
noncomputable def rnds (σ : St) : List Node := σ.rows.map (·.2)
structure MPre (σ : St) (ms : List Nat) : Prop where
  len : ms.length = σ.rows.length
  le : ∀ i < ms.length, ms.getD i 0 ≤ i
  sound : ∀ i < ms.length, Cong (rnds σ) (prs σ) i (ms.getD i 0)
structure MClosed (σ : St) (ms : List Nat) : Prop where
  told : ∀ q ∈ prs σ, ms.getD q.1 0 = ms.getD q.2 0
  cong : ∀ (i j : Nat) (x y : Node), (rnds σ)[i]? = some x → (rnds σ)[j]? = some y → canon (fun k => ms.getD k 0) x = canon (fun k => ms.getD k 0) y → ms.getD i 0 = ms.getD j 0
structure MetOK (σ : St) (ms : List Nat) (mk : List (Node × Addr × Nat)) (dl : List (Addr × Nat × Nat)) (i : Nat) : Prop where
  nd : (mk.map (·.1)).Nodup
  vals : ∀ x ∈ mk, ∃ y : Node, (rnds σ)[x.2.2]? = some y ∧ canon (fun k => ms.getD k 0) y = x.1
  has : ∀ n < i, ∀ y : Node, (rnds σ)[n]? = some y → ∃ x ∈ mk, x.1 = canon (fun k => ms.getD k 0) y ∧ ∃ T : Addr, (T, x.2.2, n) ∈ dl
  due : ∀ e ∈ dl, e.2.1 < σ.rows.length ∧ e.2.2 < σ.rows.length ∧ Cong (rnds σ) (prs σ) e.2.1 e.2.2
  told : ∀ q ∈ σ.pairs, q ∈ dl
  len : mk.length ≤ i ∧ dl.length ≤ 12 + i
theorem r_sdMet {D d : Addr} {mk : List (Node × Addr × Nat)} {nd : Node} {k : Nat} {t : Tok} (c : Cfg w Z b₀ P L loc tmp tt s) (B : Base w Z) (r : Room (n + 1) A) (hmk : ∀ x ∈ mk, (x.2.1, nlvs x.1) ∈ tt) (hd : (d, nlvs nd) ∈ tt) (U : Put tmp D (.dictT (dT mk)) (.dictT (dT (mk ++ [(nd, d, k)]))) tmp') (hz : mk.length ≤ 1000000)
    (hold : ∀ x ∈ mk, x.1 = nd → ∀ t' s', Cfg w Z b₀ P L loc tmp tt s' → Q (.int (x.2.2 : Int) t') s')
    (hnew : (∀ x ∈ mk, x.1 ≠ nd) → ∀ s', Cfg w Z b₀ P L loc tmp' tt s' → Q (.int (k : Int) t) s') : wpAny (model prg w) A (call (.builtin "dict.setdefault") [.ref D, .ref d, .int (k : Int) t]) Q E s := by
  have e : dT mk ++ [(nkey nd, d, LV.int (k : Int))] = dT (mk ++ [(nd, d, k)]) := by simp [dT]
  refine r_sdDT (l := .int (k : Int)) (k := nkey nd) (P' := P) (tmp' := tmp') c B r (fun x hx => ?_) (List.mem_append_left _ (by rw [nkey_lv]; exact hd)) (by rw [e]; exact Put.left U _) (fun p hp => hp) ⟨t, rfl⟩ (by rw [dT_len]; exact hz)
    (fun l' v' s' hl hv c' => ?_) fun hl s' c' => hnew (lookT_none hl) s' c'
  · obtain ⟨p, hp, rfl⟩ := List.mem_map.mp hx
    show (p.2.1, (nkey p.1).map Atom.lv) ∈ _
    rw [nkey_lv]; exact List.mem_append_left _ (hmk p hp)
  · obtain ⟨p, hp, e1, rfl⟩ := lookT_some hl
    obtain ⟨t', rfl⟩ := hv
    exact hold p hp e1 t' s' c'
theorem r_rowTo {nd : Node} {value slice : Expr} {t S : Addr} {u : Tok} (c : Cfg w Z b₀ P L loc tmp tt s) (ht : (t, nlvs nd) ∈ tt ++ P.tups) (hs : (S, .fld "slice" #[.none, .int 1 u, .none]) ∈ tmp) (hz : nd.2.length ≤ 1000)
    (h : ∀ d s', Cfg w Z b₀ P L loc tmp ((d, [.str nd.1]) :: tt) s' → Q (.ref d) s')
    (hsb : subscripted slice false (.ref t) (.ref S) = operate [.ref S, .ref t] (getItem (.ref t) (.ref S)) := by with_unfolding_all rfl) :
    wpAny (model prg w) A (subscriptTail value slice (.ref t) (.ref S)) Q E s :=
  r_tupTo (l := .str nd.1) (xs := nlv nd.2) c ht hs (by rw [nlv_len]; (first | lia | omega)) (fun d s' tt' hm hsub c' => h d s' (c'.sub (List.Sublist.refl _) fun p hp => by
    rcases List.mem_cons.mp hp with rfl | hp
    · exact hm
    · exact List.mem_append_left _ (hsub p hp))) hsb
theorem r_appDue {D d : Addr} {dl : List (Addr × Nat × Nat)} {i j : Nat} (c : Cfg w Z b₀ P L loc tmp tt s) (U : Put tmp D (.list (refs dl)) (.list (refs (dl ++ [(d, i, j)]))) tmp') (hz : dl.length ≤ 1000000) (h : ∀ s', Cfg w Z b₀ P L loc tmp' tt s' → Q .none s') :
    wpAny (model prg w) A (call (.builtin "list.append") [.ref D, .ref d]) Q E s :=
  r_append (l := .ref d) (P' := P) c (by rw [show refs dl ++ [LV.ref d] = refs (dl ++ [(d, i, j)]) by simp [refs]]; exact Put.left U _) (fun p hp => hp) rfl (by rw [refs_len]; exact hz) h
theorem wordsF23c : True := by
  k_with "asg" => ((fail_if_success (have := endF23)); (refine r_assignIR (by k_extra "cfg") (by k_extra "hh") (by k_extra "memTT") ?_; intro _ _ _))
  k_with "subR" => ((fail_if_success (have := endF23)); (refine r_rowTo (by k_extra "cfg") (by k_extra "memT") (by k_extra "mem") (by assumption) ?_; intro _ _ _))
  k_with "addR" => ((fail_if_success (have := endF23)); (refine r_addNd (by k_extra "cfg") (by k_extra "mem") (by k_extra "mem") (by assumption) ?_; intro _ _ _))
  exact trivial
theorem MetOK.old {ms : List Nat} {mk : List (Node × Addr × Nat)} {dl : List (Addr × Nat × Nat)} {i : Nat} {y : Node} {x : Node × Addr × Nat} {T : Addr} (m : MetOK σ ms mk dl i) (hx : x ∈ mk) (e : x.1 = canon (fun k => ms.getD k 0) y) (hy : (rnds σ)[i]? = some y) 
    (hcg : Cong (rnds σ) (prs σ) x.2.2 i) : MetOK σ ms mk (dl ++ [(T, x.2.2, i)]) (i + 1) := by
  have hlt : ∀ {j : Nat} {z : Node}, (rnds σ)[j]? = some z → j < σ.rows.length := fun h => by have := (List.getElem?_eq_some_iff.mp h).1; simpa [rnds] using this
  refine ⟨m.nd, m.vals, fun n hn z hz => ?_, fun e he => ?_, fun q hq => List.mem_append_left _ (m.told q hq), by have := m.len; rw [List.length_append]; simp; (first | lia | omega)⟩
  · by_cases h : n = i
    · subst h
      rw [hy] at hz; cases hz
      exact ⟨x, hx, e, T, List.mem_append_right _ (.head _)⟩
    · obtain ⟨x', h1, h2, T', h3⟩ := m.has n (by (first | lia | omega)) z hz
      exact ⟨x', h1, h2, T', List.mem_append_left _ h3⟩
  · rcases List.mem_append.mp he with he | he
    · exact m.due e he
    · rw [List.mem_singleton.mp he]
      obtain ⟨z, hz, _⟩ := m.vals x hx
      exact ⟨hlt hz, hlt hy, hcg⟩
theorem MetOK.new {ms : List Nat} {mk : List (Node × Addr × Nat)} {dl : List (Addr × Nat × Nat)} {i : Nat} {y : Node} {d T : Addr} (m : MetOK σ ms mk dl i) (hn : ∀ x ∈ mk, x.1 ≠ canon (fun k => ms.getD k 0) y) (hy : (rnds σ)[i]? = some y) :
    MetOK σ ms (mk ++ [(canon (fun k => ms.getD k 0) y, d, i)]) (dl ++ [(T, i, i)]) (i + 1) := by
  have hlt : i < σ.rows.length := by have := (List.getElem?_eq_some_iff.mp hy).1; simpa [rnds] using this
  refine ⟨?_, fun x hx => ?_, fun n hn' z hz => ?_, fun e he => ?_, fun q hq => List.mem_append_left _ (m.told q hq), by have := m.len; rw [List.length_append, List.length_append]; simp; (first | lia | omega)⟩
  · rw [List.map_append, List.nodup_append]
    refine ⟨m.nd, by simp, fun a ha b hb e => ?_⟩
    simp only [List.map_cons, List.map_nil, List.mem_singleton] at hb
    obtain ⟨x, hx, rfl⟩ := List.mem_map.mp ha
    exact hn x hx (e.trans hb)
  · rcases List.mem_append.mp hx with hx | hx
    · exact m.vals x hx
    · rw [List.mem_singleton.mp hx]
      exact ⟨y, hy, rfl⟩
  · by_cases h : n = i
    · subst h
      rw [hy] at hz; cases hz
      exact ⟨_, List.mem_append_right _ (.head _), rfl, T, List.mem_append_right _ (.head _)⟩
    · obtain ⟨x', h1, h2, T', h3⟩ := m.has n (by (first | lia | omega)) z hz
      exact ⟨x', List.mem_append_left _ h1, h2, T', List.mem_append_left _ h3⟩
  · rcases List.mem_append.mp he with he | he
    · exact m.due e he
    · rw [List.mem_singleton.mp he]
      exact ⟨hlt, hlt, .refl _⟩
theorem wordsF23d : True := by
  k_with "asg" => ((fail_if_success (have := endF23)); (refine r_assignII (by k_extra "cfg") (by k_extra "hh") (by first | with_reducible assumption | with_reducible exact List.mem_append_left _ List.mem_cons_self) ?_; intro _ _ _ _))
  exact trivial
theorem MetOK.closed {ms : List Nat} {mk : List (Node × Addr × Nat)} {dl : List (Addr × Nat × Nat)} (m : MetOK σ ms mk dl σ.rows.length) (h : ∀ e ∈ dl, ms.getD e.2.1 0 = ms.getD e.2.2 0) : MClosed σ ms := by
  have hlt : ∀ {j : Nat} {z : Node}, (rnds σ)[j]? = some z → j < σ.rows.length := fun h => by have := (List.getElem?_eq_some_iff.mp h).1; simpa [rnds] using this
  refine ⟨fun q hq => ?_, fun i j x y hx hy e => ?_⟩
  · obtain ⟨e, he, rfl⟩ := List.mem_map.mp hq
    exact h e (m.told e he)
  · obtain ⟨x1, h1, h2, T1, h3⟩ := m.has i (hlt hx) x hx
    obtain ⟨x2, h4, h5, T2, h6⟩ := m.has j (hlt hy) y hy
    have ek : x1.1 = x2.1 := by rw [h2, h5, e]
    have : x1 = x2 := by
      have hn := m.nd
      clear h3 h6 h2 h5
      generalize mk = l at h1 h4 hn
      induction l with
      | nil => cases h1
      | cons a l ih =>
        rw [List.map_cons, List.nodup_cons] at hn
        rcases List.mem_cons.mp h1 with e1 | h1
        · rcases List.mem_cons.mp h4 with e2 | h4
          · rw [e1, e2]
          · exact absurd (List.mem_map.mpr ⟨x2, h4, by rw [← ek, e1]⟩) hn.1
        · rcases List.mem_cons.mp h4 with e2 | h4
          · exact absurd (List.mem_map.mpr ⟨x1, h1, by rw [ek, e2]⟩) hn.1
          · exact ih h1 h4 hn.2
    subst this
    have a1 := h _ h3
    have a2 := h _ h6
    exact a1.symm.trans a2
theorem low_sum {l : List Nat} {low top : Nat} (hl : low < top) (hm : top ∈ l) : (l.map fun m => if m = top then low else m).sum < l.sum := by
  have hle : ∀ l : List Nat, (l.map fun m => if m = top then low else m).sum ≤ l.sum := fun l => by
    induction l with
    | nil => exact Nat.le_refl _
    | cons a l ih => rw [List.map_cons, List.sum_cons, List.sum_cons]; split <;> (first | lia | omega)
  induction l with
  | nil => cases hm
  | cons a l ih =>
    rw [List.map_cons, List.sum_cons, List.sum_cons]
    rcases List.mem_cons.mp hm with e | hm
    · rw [if_pos e.symm]; have := hle l; (first | lia | omega)
    · have := ih hm; split <;> (first | lia | omega)
theorem getD_map_lt {f : Nat → Nat} {l : List Nat} {i : Nat} (h : i < l.length) : (l.map f).getD i 0 = f (l.getD i 0) := by
  simp only [List.getD, List.getElem?_map, List.getElem?_eq_getElem h, Option.map_some, Option.getD_some]
theorem MPre.step {ms : List Nat} (m : MPre σ ms) {a b : Nat} (ha : a < ms.length) (hb : b < ms.length) (hc : Cong (rnds σ) (prs σ) a b) (hne : ms.getD a 0 ≠ ms.getD b 0) :
    MPre σ (ms.map fun m => if m = max (ms.getD a 0) (ms.getD b 0) then min (ms.getD a 0) (ms.getD b 0) else m) := by
  have hca := m.sound a ha
  have hcb := m.sound b hb
  have hab : Cong (rnds σ) (prs σ) (ms.getD a 0) (ms.getD b 0) := (hca.symm.trans hc).trans hcb
  refine ⟨by rw [List.length_map]; exact m.len, fun i hi => ?_, fun i hi => ?_⟩ <;> rw [List.length_map] at hi <;> rw [getD_map_lt hi]
  · have := m.le i hi
    split <;> (first | lia | omega)
  · have hs := m.sound i hi
    split
    · rename_i e
      rcases Nat.le_total (ms.getD a 0) (ms.getD b 0) with h | h
      · rw [Nat.max_eq_right h] at e
        rw [Nat.min_eq_left h]
        exact (e ▸ hs).trans hab.symm
      · rw [Nat.max_eq_left h] at e
        rw [Nat.min_eq_right h]
        exact (e ▸ hs).trans hab
    · exact hs
theorem r_min2N {j k : Nat} {t u : Tok} (c : Cfg w Z b₀ P L loc tmp tt s) (hh : A.handled = none) (h : ∀ t s', Cfg w Z b₀ P L loc tmp tt s' → Q (.int ((min j k : Nat) : Int) t) s') : wpAny (model prg w) A (call (.builtin "min") [.int (j : Int) t, .int (k : Int) u]) Q E s :=
  r_min2 c hh (by rw [show min (j : Int) (k : Int) = ((min j k : Nat) : Int) by (first | lia | omega)]; exact h)
theorem r_max2N {j k : Nat} {t u : Tok} (c : Cfg w Z b₀ P L loc tmp tt s) (hh : A.handled = none) (h : ∀ t s', Cfg w Z b₀ P L loc tmp tt s' → Q (.int ((max j k : Nat) : Int) t) s') : wpAny (model prg w) A (call (.builtin "max") [.int (j : Int) t, .int (k : Int) u]) Q E s :=
  r_max2 c hh (by rw [show max (j : Int) (k : Int) = ((max j k : Nat) : Int) by (first | lia | omega)]; exact h)
theorem wordsF23e : True := by
  k_with "spec" => ((fail_if_success (have := endF23)); ((with_reducible show wpAny _ _ (call (.builtin "min") _) _ _ _); refine r_min2N (by k_extra "cfg") (by k_extra "hh") ?_; intro _ _ _))
  k_with "spec" => ((fail_if_success (have := endF23)); ((with_reducible show wpAny _ _ (call (.builtin "max") _) _ _ _); refine r_max2N (by k_extra "cfg") (by k_extra "hh") ?_; intro _ _ _))
  exact trivial
theorem mpre0 : MPre σ (List.range σ.rows.length) := by
  refine ⟨by simp, fun i hi => ?_, fun i hi => ?_⟩ <;> rw [List.length_range] at hi <;> have e : (List.range σ.rows.length).getD i 0 = i := by simp [List.getD, hi]
  · rw [e]; (first | lia | omega)
  · rw [e]; exact .refl _
abbrev marksL (ad : Ad) (bo met due n row one oth : LV) : List (Str × LV) := [(Str.ofString "rows", .ref ad.rows), (Str.ofString "pairs", .ref ad.pairs), (Str.ofString "is_open", bo), (Str.ofString "met", met), (Str.ofString "due", due), (Str.ofString "n", n), (Str.ofString "row", row), (Str.ofString "one", one), (Str.ofString "other", oth)]
inductive JW (w : World) (Z : Heap) (b₀ : Shared) (ad : Ad) (σ : St) (L' L : Addr) (fo1 : Obj) (tmp : List (Addr × G)) (tt : List (Addr × List LV)) (m : Nat) (s : Shared) : Prop
  | mk (Dm : Addr) (ms : List Nat) (bo : Bool) (lmet ldue ln lrow lone loth ltop llow : LV) (h1 : MPre σ ms) (h2 : bo = false → MClosed σ ms) (h3 : m = 2 * ms.sum + (if bo = true then 1 else 0))
      (h4 : Cfg w Z b₀ (pers ad σ) L' (marksL ad (.bool bo) lmet ldue ln lrow lone loth) ((Dm, .list (nlv ms)) :: (L' + 1 + 1 + 1, .cell ltop) :: (L' + 1 + 1, .cell llow) :: (L' + 1, .cell (.ref Dm)) :: (L, .obj fo1) :: tmp) tt s) : JW w Z b₀ ad σ L' L fo1 tmp tt m s
inductive JE (ad : Ad) (σ : St) (ms : List Nat) (Dm Dd Dt L' L : Addr) (fo1 : Obj) (ltop llow lone loth : LV) (tmp : List (Addr × G)) (tt : List (Addr × List LV)) (i : Nat) (P' : Pers) (loc' : List (Str × LV)) (tmp' : List (Addr × G)) (tt' : List (Addr × List LV)) : Prop
  | mk (h1 : P' = pers ad σ) (h2 : ∀ p ∈ tt, p ∈ tt') (mk : List (Node × Addr × Nat)) (dl : List (Addr × Nat × Nat)) (ln lrow : LV) (h3 : MetOK σ ms mk dl i) (h4 : ∀ x ∈ mk, (x.2.1, nlvs x.1) ∈ tt') (h5 : ∀ e ∈ dl, (e.1, [LV.int (e.2.1 : Int), .int (e.2.2 : Int)]) ∈ tt' ++ (pers ad σ).tups)
      (h6 : loc' = marksL ad (.bool false) (.ref Dt) (.ref Dd) ln lrow lone loth) (h7 : tmp' = (Dd, .list (refs dl)) :: (Dt, .dictT (dT mk)) :: (Dm, .list (nlv ms)) :: (L' + 1 + 1 + 1, .cell ltop) :: (L' + 1 + 1, .cell llow) :: (L' + 1, .cell (.ref Dm)) :: (L, .obj fo1) :: tmp) : JE ad σ ms Dm Dd Dt L' L fo1 ltop llow lone loth tmp tt i P' loc' tmp' tt'
inductive JT (ad : Ad) (σ : St) (ms : List Nat) (dl : List (Addr × Nat × Nat)) (Dd Dt L' L : Addr) (fo1 : Obj) (ln lrow : LV) (tmp : List (Addr × G)) (tt' : List (Addr × List LV)) (i : Nat) (P' : Pers) (loc' : List (Str × LV)) (tmp' : List (Addr × G)) (tt'' : List (Addr × List LV)) : Prop
  | mk (h1 : P' = pers ad σ) (h2 : tt'' = tt') (Dk : Addr) (ms' : List Nat) (bo : Bool) (lone loth ltop llow : LV) (h3 : MPre σ ms') (h4 : bo = false → ms' = ms ∧ ∀ e ∈ dl.take i, ms.getD e.2.1 0 = ms.getD e.2.2 0) (h5 : bo = true → ms'.sum < ms.sum)
      (h6 : loc' = marksL ad (.bool bo) (.ref Dt) (.ref Dd) ln lrow lone loth) (h7 : tmp' = (Dk, .list (nlv ms')) :: (Dd, .list (refs dl)) :: (L' + 1 + 1 + 1, .cell ltop) :: (L' + 1 + 1, .cell llow) :: (L' + 1, .cell (.ref Dk)) :: (L, .obj fo1) :: tmp) : JT ad σ ms dl Dd Dt L' L fo1 ln lrow tmp tt' i P' loc' tmp' tt''
set_option maxHeartbeats 8000000 in
theorem marks_spec (c : Cfg w Z b₀ (pers ad σ) L loc tmp tt s) (B : Base w Z) (r : Room 6 A) (hr12 : σ.rows.length ≤ 12) (hp12 : σ.pairs.length ≤ 12)
    (hkid : ∀ (i : Nat) (x : Node), (rnds σ)[i]? = some x → (∀ k ∈ x.2, k < i) ∧ x.2.length ≤ 2) (hpb : ∀ q ∈ σ.pairs, q.2.1 < σ.rows.length ∧ q.2.2 < σ.rows.length)
    (ret : ∀ D ms s', MPre σ ms → MClosed σ ms → Cfg w Z b₀ (pers ad σ) L loc ((D, .list (nlv ms)) :: tmp) tt s' → Q (.ref D) s') :
    wpAny (model prg w) A (call (.ref 499) [.ref ad.rows, .ref ad.pairs]) Q E s := by
  have hr6 : σ.rows.length ≤ 1000000 := by (first | lia | omega)
  have hp6 : σ.pairs.length ≤ 1000000 := by (first | lia | omega)
  refine r_callC (n := 5) (binds := [(Str.ofString "rows", .ref ad.rows), (Str.ofString "pairs", .ref ad.pairs)]) c B r (by k_is) (by k_is) (BindsTo.of_eq rfl) (by rfl) (by decide +kernel) [(Str.ofString "rows", .ref ad.rows), (Str.ofString "pairs", .ref ad.pairs), (Str.ofString "is_open", .unset), (Str.ofString "met", .unset), (Str.ofString "due", .unset), (Str.ofString "n", .unset), (Str.ofString "row", .unset), (Str.ofString "one", .unset), (Str.ofString "other", .unset)] (fun L' => [(L' + 1 + 1 + 1, .unset), (L' + 1 + 1, .unset), (L' + 1, .unset)]) ?_ ?_ ?_ ?_
  · intro L'; k_extra "locs"
  · k_extra "nodup"
  · intro L'
    show All2 _ [(Str.ofString "top", L' + 1 + 1 + 1), (Str.ofString "low", L' + 1 + 1), (Str.ofString "marks", L' + 1)] _
    exact .cons ⟨rfl, trivial⟩ (.cons ⟨rfl, trivial⟩ (.cons ⟨rfl, trivial⟩ .nil))
  intro L' fo1 A' s' hb' r' c'
  change Cfg _ _ _ _ _ _ ((L' + 1 + 1 + 1, .cell .unset) :: (L' + 1 + 1, .cell .unset) :: (L' + 1, .cell .unset) :: (L, .obj fo1) :: tmp) _ _ at c'
  k_extra "go"
  rename_i s1 c9
  obtain ⟨Dm, c9⟩ : ∃ Dm, Cfg w Z b₀ (pers ad σ) L' [(Str.ofString "rows", .ref ad.rows), (Str.ofString "pairs", .ref ad.pairs), (Str.ofString "is_open", .bool true), (Str.ofString "met", .unset), (Str.ofString "due", .unset), (Str.ofString "n", .unset), (Str.ofString "row", .unset), (Str.ofString "one", .unset), (Str.ofString "other", .unset)]
    ((Dm, .list (nlv (List.range σ.rows.length))) :: (L' + 1 + 1 + 1, .cell .unset) :: (L' + 1 + 1, .cell .unset) :: (L' + 1, .cell (.ref Dm)) :: (L, .obj fo1) :: tmp) tt s1 := ⟨_, c9.sub (by k_extra "subl") fun p hp => List.mem_append_left _ (.tail _ hp)⟩
  refine r_while (JW w Z b₀ ad σ L' L fo1 tmp tt) ?_ _ ⟨Dm, List.range σ.rows.length, true, .unset, .unset, .unset, .unset, .unset, .unset, .unset, .unset, mpre0, (fun h => by cases h), rfl, c9⟩
  have met0 : ∀ {ms : List Nat}, MetOK σ ms [] σ.pairs 0 := fun {ms} => ⟨List.nodup_nil, (fun x hx => by cases hx), (fun n hn => by (first | lia | omega)), (fun q hq => ⟨(hpb q hq).1, (hpb q hq).2, .told (List.mem_map.mpr ⟨q, hq, rfl⟩)⟩), (fun q hq => hq), by simp, by (first | lia | omega)⟩
  rintro m s ⟨Dm, ms, bo, lmet, ldue, ln, lrow, lone, loth, ltop, llow, hpre, hcl, rfl, c⟩
  have hmlen := hpre.len
  have hms6 : ms.length ≤ 1000000 := by (first | lia | omega)
  cases bo with
  | false =>
    k_extra "go"
    refine ret _ ms _ hpre (hcl rfl) ?g0
    case g0 => k_extra "leave1"
  | true =>
    k_extra "go"
    refine' r_unpack3 ?c ?hh ?m ?n ?_
    case c => k_extra "cfg"
    case hh => k_extra "hh"
    case m => k_extra "memTT"
    case n => rfl
    rintro v1 v2 v3 s2 h1 h2 h3 c2
    cases h1
    cases h2
    cases h3
    refine assignInOrder_cons (wpAny_bindName ?_)
    k_extra "go"
    rename_i e1 it1 s3 c8
    obtain ⟨Dd, Dt, c8⟩ : ∃ Dd Dt, Cfg w Z b₀ (pers ad σ) L' [(Str.ofString "rows", .ref ad.rows), (Str.ofString "pairs", .ref ad.pairs), (Str.ofString "is_open", .bool false), (Str.ofString "met", .ref Dt), (Str.ofString "due", .ref Dd), (Str.ofString "n", ln), (Str.ofString "row", lrow), (Str.ofString "one", lone), (Str.ofString "other", loth)]
      ((e1, .obj (enO it1 0 .none)) :: (it1, .liter ad.rows 0) :: (Dd, .list (refs σ.pairs)) :: (Dt, .dictT (dT [])) :: (Dm, .list (nlv ms)) :: (L' + 1 + 1 + 1, .cell ltop) :: (L' + 1 + 1, .cell llow) :: (L' + 1, .cell (.ref Dm)) :: (L, .obj fo1) :: tmp) tt s3 := ⟨_, _, c8.sub (List.Sublist.refl _) fun p hp => List.mem_append_left _ (.tail _ hp)⟩
    refine r_forE (xs := refs σ.rows) r'.h (JE ad σ ms Dm Dd Dt L' L fo1 ltop llow lone loth tmp tt) ?_ ?_ ?_
      ⟨rfl, fun p hp => hp, [], σ.pairs, ln, lrow, met0, (fun x hx => by cases hx), (fun e he => t_pair he), rfl, rfl⟩ c8
    · rintro i P' loc' tmp' tt' ⟨rfl, _, _, _, _, _, _, _, _, _, _⟩
      exact m_rows
    · rintro i P' loc' tmp' tt' s T old l' hx ⟨rfl, htt, mk, dl, ln, lrow, mo, hmk, hdl, rfl, rfl⟩ c
      refine turn_cut fun K hK => ?_
      simp only [refs, List.getElem?_map, Option.map_eq_some_iff] at hx
      obtain ⟨p, hp, rfl⟩ := hx
      have hpi := (List.getElem?_eq_some_iff.mp hp).1
      have hrp : (rnds σ)[i]? = some p.2 := by simp [rnds, hp]
      have hkd := hkid i p.2 hrp
      have hz1 : p.2.2.length ≤ 1000 := by (first | lia | omega)
      have hz : p.2.2.length ≤ 100000 := by (first | lia | omega)
      k_extra "go"
      refine r_LCnat p.2.2 (fun k => .int (k : Int)) (fun k => ms.getD k 0) nx_tup r'.h (by decide +kernel) rfl rfl ?_ (by (first | lia | omega)) ?_ ?_ (by assumption)
      · intro D fo i acc; exact .head _
      · intro C D fo i acc s k hk c
        have hk2 : k < ms.length := by rw [hpre.len]; have := hkd.1 k (List.mem_of_getElem? hk); (first | lia | omega)
        k_extra "go"
        k_extra "elt"
      · intro C D fo s lv hb c
        refine post_Q ?_ hb c
        intro s' c'
        have hzm : (p.2.2.map fun k => ms.getD k 0).length ≤ 1000 := by rw [List.length_map]; exact hz1
        k_extra "go"
        have hml := mo.len
        refine' r_sdMet (nd := canon (fun k => ms.getD k 0) p.2) (mk := mk) (k := i) ?c5 B r' ?h5 ?d5 ?U5 ?z5 ?_ ?_
        case c5 => k_extra "cfg"
        case h5 =>
          intro x hx
          have := hmk x hx
          k_extra "hp"
        case d5 => exact .head _
        case U5 => k_extra "put"
        case z5 => (first | lia | omega)
        · intro x hx hxe t' s' c'
          have hdz : dl.length ≤ 1000000 := by (first | lia | omega)
          have hcg : Cong (rnds σ) (prs σ) x.2.2 i := by
            obtain ⟨z, hz, e⟩ := mo.vals x hx
            have hb : ∀ {j : Nat} {z : Node}, (rnds σ)[j]? = some z → ∀ k ∈ z.2, k < (rnds σ).length := fun h k hk => by
              have := (hkid _ _ h).1 k hk
              have := (List.getElem?_eq_some_iff.mp h).1
              (first | lia | omega)
            exact Cong.of_canon (f := fun k => ms.getD k 0) (fun k hk => hpre.sound k (by rw [hpre.len]; simpa [rnds] using hk)) hz hrp (hb hz) (hb hrp) (e.trans hxe)
          k_extra "go"
          refine' r_appDue (i := x.2.2) (j := i) (dl := dl) ?c6 ?U6 ?z6 ?_
          case c6 => k_extra "cfg"
          case U6 => k_extra "put"
          case z6 => exact hdz
          intro s' c'
          k_extra "go"
          refine hK _ _ ?_
          refine' BodyE.next c' ?h7 Suf.refl ⟨rfl, fun p hp => ?_, mk, _, _, _, mo.old hx hxe hrp hcg, fun x hx => ?_, fun e he => ?_, rfl, rfl⟩
          case h7 => k_extra "suf"
          · have := htt p hp; k_extra "hp"
          · have := hmk x hx; k_extra "hp"
          · rcases List.mem_append.mp he with he | he
            · rcases List.mem_append.mp (hdl e he) with h | h
              · refine List.mem_append_left _ ?_; k_extra "hp"
              · exact List.mem_append_right _ h
            · rw [List.mem_singleton.mp he]
              exact List.mem_append_left _ (.head _)
        · intro hxn s' c'
          have hdz : dl.length ≤ 1000000 := by (first | lia | omega)
          k_extra "go"
          refine' r_appDue (i := i) (j := i) (dl := dl) ?c6b ?U6b ?z6b ?_
          case c6b => k_extra "cfg"
          case U6b => k_extra "put"
          case z6b => exact hdz
          intro s' c'
          k_extra "go"
          refine hK _ _ ?_
          refine' BodyE.next c' ?h7b Suf.refl ⟨rfl, fun p hp => ?_, _, _, _, _, mo.new hxn hrp, fun x hx => ?_, fun e he => ?_, rfl, rfl⟩
          case h7b => k_extra "suf"
          · have := htt p hp; k_extra "hp"
          · rcases List.mem_append.mp hx with hx | hx
            · have := hmk x hx; k_extra "hp"
            · rw [List.mem_singleton.mp hx]
              exact .tail _ (.head _)
          · rcases List.mem_append.mp he with he | he
            · rcases List.mem_append.mp (hdl e he) with h | h
              · refine List.mem_append_left _ ?_; k_extra "hp"
              · exact List.mem_append_right _ h
            · rw [List.mem_singleton.mp he]
              exact List.mem_append_left _ (.head _)
    · rintro P' loc' tmp' tt' s ⟨rfl, htt, mk, dl, ln, lrow, mo, hmk, hdl, rfl, rfl⟩ c
      rw [refs_len] at mo
      have hml := mo.len
      k_extra "go"
      rename_i I2 s4 c7
      have c6 := c7.sub (tmp' := (I2, .liter Dd 0) :: (Dd, .list (refs dl)) :: (Dm, .list (nlv ms)) :: (L' + 1 + 1 + 1, .cell ltop) :: (L' + 1 + 1, .cell llow) :: (L' + 1, .cell (.ref Dm)) :: (L, .obj fo1) :: tmp) (tt' := tt') (by k_extra "subl") fun p hp => List.mem_append_left _ hp
      have c5 := c6.perm (tmp' := (I2, .liter Dd 0) :: (Dm, .list (nlv ms)) :: (Dd, .list (refs dl)) :: (L' + 1 + 1 + 1, .cell ltop) :: (L' + 1 + 1, .cell llow) :: (L' + 1, .cell (.ref Dm)) :: (L, .obj fo1) :: tmp) (List.Perm.cons _ (List.Perm.swap _ _ _))
      refine r_forT r'.h (rs := dl) (JT ad σ ms dl Dd Dt L' L fo1 ln lrow tmp tt') ?_ ?_ ?_
        ⟨rfl, rfl, Dm, ms, false, lone, loth, ltop, llow, hpre, (fun _ => ⟨rfl, fun e he => by simp at he⟩), (fun h => by cases h), rfl, rfl⟩ c5
      · rintro i P' loc' tmp' tt'' ⟨rfl, rfl, Dk, ms', bo, lone, loth, ltop, llow, g1, g2, g3, rfl, rfl⟩
        exact .tail _ (.head _)
      · rintro i P' loc' tmp' tt'' s p hp ⟨rfl, rfl, Dk, ms', bo, lone, loth, ltop, llow, g1, g2, g3, rfl, rfl⟩ c
        refine turn_cut fun K hK => ?_
        have hpm := List.mem_of_getElem? hp
        have hpt := hdl p hpm
        obtain ⟨hp1, hp2, hpc⟩ := mo.due p hpm
        have hl1 : p.2.1 < ms'.length := by rw [g1.len]; exact hp1
        have hl2 : p.2.2 < ms'.length := by rw [g1.len]; exact hp2
        have hms7 : ms'.length ≤ 1000000 := by rw [g1.len]; (first | lia | omega)
        refine' r_assignII ?c8 ?hh8 hpt ?_
        case c8 => k_extra "cfg"
        case hh8 => k_extra "hh"
        intro _ _ _ _
        k_extra "go"
        · have hne : ms'.getD p.2.1 0 ≠ ms'.getD p.2.2 0 := by (first | lia | omega)
          refine r_LCnat ms' (fun n => .int (n : Int)) (fun m => if m = max (ms'.getD p.2.1 0) (ms'.getD p.2.2 0) then min (ms'.getD p.2.1 0) (ms'.getD p.2.2 0) else m) nx_list r'.h (by decide +kernel) rfl rfl ?_ hms7 ?_ ?_ (by assumption)
          · intro D fo i acc
            show (_, G.list (nlv ms')) ∈ _
            k_extra "memP"
          · intro C D fo i acc s k hk c
            by_cases hkt : k = max (ms'.getD p.2.1 0) (ms'.getD p.2.2 0)
            · simp only [if_pos hkt]
              k_extra "go"
              · k_extra "elt"
              · exfalso; (first | lia | omega)
            · simp only [if_neg hkt]
              k_extra "go"
              · exfalso; (first | lia | omega)
              · k_extra "elt"
          · intro C D fo s lv hb c
            refine post_Q ?_ hb c
            intro s' c'
            k_extra "go"
            rename_i s9 c10
            refine hK _ _ ?_
            refine' BodyQ.nextP c10 ?h9 ?t9 ⟨rfl, rfl, _, _, true, _, _, _, _, g1.step hl1 hl2 hpc hne, (fun h => by cases h), (fun _ => ?_), rfl, rfl⟩
            case h9 => k_extra "subl"
            case t9 => k_extra "suf"
            have h1 := low_sum (l := ms') (low := min (ms'.getD p.2.1 0) (ms'.getD p.2.2 0)) (top := max (ms'.getD p.2.1 0) (ms'.getD p.2.2 0)) (by (first | lia | omega)) (by
              rcases Nat.le_total (ms'.getD p.2.1 0) (ms'.getD p.2.2 0) with h | h
              · rw [Nat.max_eq_right h]; simp only [List.getD, List.getElem?_eq_getElem hl2]; exact List.getElem_mem hl2
              · rw [Nat.max_eq_left h]; simp only [List.getD, List.getElem?_eq_getElem hl1]; exact List.getElem_mem hl1)
            cases bo with
            | false => rw [(g2 rfl).1] at h1; rw [(g2 rfl).1]; exact h1
            | true => exact Nat.lt_trans h1 (g3 rfl)
        · have heq : ms'.getD p.2.1 0 = ms'.getD p.2.2 0 := by (first | lia | omega)
          rename_i s9 c10
          refine hK _ _ ?_
          refine' BodyQ.next (tmp := (Dk, .list (nlv ms')) :: (Dd, .list (refs dl)) :: (L' + 1 + 1 + 1, .cell (.int _)) :: (L' + 1 + 1, .cell (.int _)) :: (L' + 1, .cell (.ref Dk)) :: (L, .obj fo1) :: tmp) ?c9 ?h8 ?t8 ⟨rfl, rfl, Dk, ms', bo, _, _, _, _, g1, (fun h => ⟨(g2 h).1, fun e he => ?_⟩), g3, rfl, rfl⟩
          case c9 => k_extra "cfg"
          case h8 => k_extra "suf"
          case t8 => k_extra "suf"
          rw [List.take_add_one, hp] at he
          rcases List.mem_append.mp he with he | he
          · exact (g2 h).2 e he
          · have : e = p := by simpa using he
            rw [this, ← (g2 h).1]; exact heq
      · rintro P' loc' tmp' tt'' s ⟨rfl, rfl, Dk, ms', bo, lone, loth, ltop, llow, g1, g2, g3, rfl, rfl⟩ c
        rw [List.take_length] at g2
        have c3 := c.sub (tmp' := (Dk, .list (nlv ms')) :: (L' + 1 + 1 + 1, .cell ltop) :: (L' + 1 + 1, .cell llow) :: (L' + 1, .cell (.ref Dk)) :: (L, .obj fo1) :: tmp) (tt' := tt) (by k_extra "subl") fun p hp => List.mem_append_left _ (htt p hp)
        k_extra "go"
        refine ⟨2 * ms'.sum + (if bo = true then 1 else 0), ?_, Dk, ms', bo, _, _, _, _, _, _, _, _, g1, fun h => ?_, rfl, c3⟩
        · cases bo with
          | false => rw [(g2 rfl).1]; simp
          | true => have := g3 rfl; simp; (first | lia | omega)
        · obtain ⟨rfl, hall⟩ := g2 h
          exact mo.closed hall
end
theorem endF23 : True := trivial
end
section
section
variable {w : World} {Z : Heap} {b₀ : Shared} {P P' : Pers} {L a y C I : Addr} {loc loc' : List (Str × LV)} {tmp tmp' : List (Addr × G)} {tt tt' : List (Addr × List LV)} {s s' : Shared} {h' : Heap} {tk : Nat} {g g' : G}
  {A : Around} {E : Value → Shared → Prop} {env : Env} {x : Str} {pos : Pos} {Q : Value → Shared → Prop} {QU : Unit → Shared → Prop} {QF : Flow → Shared → Prop} {n : Nat} {fs : List (Str × Value)} {ad : Ad} {σ : St}
theorem r_DictE0 {pos : Pos} (c : Cfg w Z b₀ P L loc tmp tt s) (h : ∀ d s', Cfg w Z b₀ P L loc ((d, .dictT []) :: tmp) tt s' → Q (.ref d) s') : wpAny (model prg w) A (eval (.Dict [] [] pos) env) Q E s := by
  rw [eval_Dict_empty]
  exact wpAny_bind (wpAny_standAt (r_newDT c h))
theorem wordsF24a : True := by
  k_with "dict0" => ((fail_if_success (have := endF24)); (refine r_DictE0 (by k_extra "cfg") ?_; intro _ _ _))
  k_with "notin" => ((fail_if_success (have := endF24)); ((try simp only [List.map_cons, List.map_nil, List.map_append, List.nil_append, List.cons_append]); decide +kernel))
  k_with "flds" => ((fail_if_success (have := endF24)); (first | assumption | exact All2.nil))
  k_with "setAttr ref" => ((fail_if_success (have := endF24)); (refine r_setA (by k_extra "cfg") (by assumption) (by k_extra "mem") (by intro _; k_extra "put") (by k_extra "flds") (by k_extra "notin") (by exact Nat.le_of_ble_eq_true rfl) (by k_is) (by k_is) (by k_is) (by k_is) ?_; intro _ _ _ _ _))
  k_with "exec Assign" => ((fail_if_success (have := endF24)); ((with_reducible show wpAny _ _ (exec (.Assign [.Attribute _ _ _] _ _) _) _ _ _); refine plainObj_wpAny_Assign_Attribute ?_ ?_; rotate_left; with_unfolding_all rfl))
  exact trivial
set_option maxHeartbeats 8000000 in
theorem bank_make (c : Cfg w Z b₀ P L loc tmp tt s) (B : Base w Z) (r : Room 4 A)
    (ret : ∀ x dx es n a1 a2 a3 a4 s', FldsE [(Str.ofString "nodes", .ref a1), (Str.ofString "numbers", .ref a2), (Str.ofString "weights", .ref a3), (Str.ofString "depths", .ref a4)] es →
      Cfg w Z b₀ P L loc ((a4, .list []) :: (a3, .list []) :: (a2, .dictT []) :: (a1, .list []) :: (x, .obj (instObj cBank dx)) :: (dx, .obj (dictOf es n)) :: tmp) tt s' → Q (.ref x) s') :
    wpAny (model prg w) A (call (.ref 183) []) Q E s := by
  refine r_make (m := 2) (C := 183) (f := 93) (binds := fun x => [(Str.ofString "self", .ref x)]) c B r (by k_is) (by k_is) (by k_is) (by k_is) (by k_is) (fun x s' => BindsTo.of_eq rfl) (fun x => locs rfl) (by decide) (fun x => [(Str.ofString "self", .ref x)]) ?_ ?_ ?_
  · intro x; k_extra "locs"
  · intro x; k_extra "nodup"
  intro x dx L' fo A' s' hb' r' c'
  k_extra "go"
  refine' ⟨rfl, ret x dx _ _ _ _ _ _ _ ?he ?g⟩
  case g => exact hb' _ _ _ [(_, _), (_, _), (_, _), (_, _)] _ _ _ (by assumption)
  case he => assumption
set_option maxHeartbeats 8000000 in
theorem unions_make (c : Cfg w Z b₀ P L loc tmp tt s) (B : Base w Z) (r : Room 4 A)
    (ret : ∀ x dx es n a1 a2 a3 s', FldsE [(Str.ofString "above", .ref a1), (Str.ofString "lots", .ref a2), (Str.ofString "merged", .ref a3)] es →
      Cfg w Z b₀ P L loc ((a3, .list []) :: (a2, .list []) :: (a1, .list []) :: (x, .obj (instObj cUnions dx)) :: (dx, .obj (dictOf es n)) :: tmp) tt s' → Q (.ref x) s') :
    wpAny (model prg w) A (call (.ref 351) []) Q E s := by
  refine r_make (m := 2) (C := 351) (f := 287) (binds := fun x => [(Str.ofString "self", .ref x)]) c B r (by k_is) (by k_is) (by k_is) (by k_is) (by k_is) (fun x s' => BindsTo.of_eq rfl) (fun x => locs rfl) (by decide) (fun x => [(Str.ofString "self", .ref x)]) ?_ ?_ ?_
  · intro x; k_extra "locs"
  · intro x; k_extra "nodup"
  intro x dx L' fo A' s' hb' r' c'
  k_extra "go"
  refine' ⟨rfl, ret x dx _ _ _ _ _ _ ?he ?g⟩
  case g => exact hb' _ _ _ [(_, _), (_, _), (_, _)] _ _ _ (by assumption)
  case he => assumption
theorem wordsF24b : True := by
  k_with "spec" => ((fail_if_success (have := endF24)); ((with_reducible show wpAny _ _ (call (.ref 183) _) _ _ _); refine bank_make (by k_extra "cfg") (by assumption) (by k_extra "room") ?_; intro _ _ _ _ _ _ _ _ _ _ _))
  k_with "spec" => ((fail_if_success (have := endF24)); ((with_reducible show wpAny _ _ (call (.ref 351) _) _ _ _); refine unions_make (by k_extra "cfg") (by assumption) (by k_extra "room") ?_; intro _ _ _ _ _ _ _ _ _ _))
  exact trivial
set_option maxHeartbeats 8000000 in
theorem heap_make (c : Cfg w Z b₀ P L loc tmp tt s) (B : Base w Z) (r : Room 7 A)
    (ret : ∀ x dx es n xb dxb eb nb xu dxu eu nu a1 a2 a3 a4 u1 u2 u3 ed fr kn ab wt bt s', FldsE [(Str.ofString "bank", .ref xb), (Str.ofString "unions", .ref xu), (Str.ofString "edges", .ref ed), (Str.ofString "forest", .ref fr), (Str.ofString "known", .ref kn), (Str.ofString "above", .ref ab), (Str.ofString "waiting", .ref wt), (Str.ofString "backs", .int 0 bt)] es →
      FldsE [(Str.ofString "nodes", .ref a1), (Str.ofString "numbers", .ref a2), (Str.ofString "weights", .ref a3), (Str.ofString "depths", .ref a4)] eb → FldsE [(Str.ofString "above", .ref u1), (Str.ofString "lots", .ref u2), (Str.ofString "merged", .ref u3)] eu →
      Cfg w Z b₀ P L loc ((wt, .list []) :: (ab, .dictT []) :: (kn, .dictT []) :: (fr, .list []) :: (ed, .list []) :: (u3, .list []) :: (u2, .list []) :: (u1, .list []) :: (xu, .obj (instObj cUnions dxu)) :: (dxu, .obj (dictOf eu nu)) ::
        (a4, .list []) :: (a3, .list []) :: (a2, .dictT []) :: (a1, .list []) :: (xb, .obj (instObj cBank dxb)) :: (dxb, .obj (dictOf eb nb)) :: (x, .obj (instObj cHeap dx)) :: (dx, .obj (dictOf es n)) :: tmp) tt s' → Q (.ref x) s') :
    wpAny (model prg w) A (call (.ref 483) []) Q E s := by
  refine r_make (m := 5) (C := 483) (f := 369) (binds := fun x => [(Str.ofString "self", .ref x)]) c B r (by k_is) (by k_is) (by k_is) (by k_is) (by k_is) (fun x s' => BindsTo.of_eq rfl) (fun x => locs rfl) (by decide) (fun x => [(Str.ofString "self", .ref x)]) ?_ ?_ ?_
  · intro x; k_extra "locs"
  · intro x; k_extra "nodup"
  intro x dx L' fo A' s' hb' r' c'
  k_extra "go"
  refine' ⟨rfl, ret x dx _ _ _ _ _ _ _ _ _ _ _ _ _ _ _ _ _ _ _ _ _ _ _ _ ?he ?hb ?hu ?g⟩
  case g => exact hb' _ _ _ [(_, _), (_, _), (_, _), (_, _), (_, _), (_, _), (_, _), (_, _), (_, _), (_, _), (_, _), (_, _), (_, _), (_, _), (_, _), (_, _)] _ _ _ (by assumption)
  case he => assumption
  case hb => assumption
  case hu => assumption
end
theorem endF24 : True := trivial
end
section
section
variable {w : World} {Z : Heap} {b₀ : Shared} {P P' : Pers} {L a y C I : Addr} {loc loc' : List (Str × LV)} {tmp tmp' : List (Addr × G)} {tt tt' : List (Addr × List LV)} {s s' : Shared} {h' : Heap} {tk : Nat} {g g' : G}
  {A : Around} {E : Value → Shared → Prop} {env : Env} {x : Str} {pos : Pos} {Q : Value → Shared → Prop} {QU : Unit → Shared → Prop} {QF : Flow → Shared → Prop} {n : Nat} {fs : List (Str × Value)} {ad : Ad} {σ : St}
theorem wordsF25a : True := by
  k_with "dict0" => ((fail_if_success (have := endF25)); (refine r_DictE0 (by k_extra "cfg") ?_; intro _ _ _))
  k_with "notin" => ((fail_if_success (have := endF25)); ((try simp only [List.map_cons, List.map_nil, List.map_append, List.nil_append, List.cons_append]); decide +kernel))
  k_with "flds" => ((fail_if_success (have := endF25)); (first | assumption | exact All2.nil))
  k_with "setAttr ref" => ((fail_if_success (have := endF25)); (refine r_setA (by k_extra "cfg") (by assumption) (by k_extra "mem") (by intro _; k_extra "put") (by k_extra "flds") (by k_extra "notin") (by exact Nat.le_of_ble_eq_true rfl) (by k_is) (by k_is) (by k_is) (by k_is) ?_; intro _ _ _ _ _))
  k_with "exec Assign" => ((fail_if_success (have := endF25)); ((with_reducible show wpAny _ _ (exec (.Assign [.Attribute _ _ _] _ _) _) _ _ _); refine plainObj_wpAny_Assign_Attribute ?_ ?_; rotate_left; with_unfolding_all rfl))
  k_with "getAttr ref" => ((fail_if_success (have := endF25)); (k_dflt (refine r_attr (by k_extra "cfg") (by assumption) (by k_extra "inst") (by k_extra "mem") (by k_is) (by k_is) (by k_is) (by k_is) (by first | assumption | k_handed) ?_; intro _ _)))
  exact trivial
set_option maxHeartbeats 8000000 in
theorem walker_make {hp : Addr} (c : Cfg w Z b₀ P L loc tmp tt s) (B : Base w Z) (r : Room 4 A)
    (ret : ∀ x dx es n s', Cfg w Z b₀ P L loc ((x, .obj (instObj 221 dx)) :: (dx, .obj (dictOf es n)) :: tmp) tt s' → Q (.ref x) s') :
    wpAny (model prg w) A (call (.ref 221) [.ref hp]) Q E s := by
  refine r_make (m := 2) (C := 221) (f := 201) (binds := fun x => [(Str.ofString "self", .ref x), (Str.ofString "heap", .ref hp)]) c B r (by k_is) (by k_is) (by k_is) (by k_is) (by k_is) (fun x s' => BindsTo.of_eq rfl) (fun x => locs rfl) (by decide) (fun x => [(Str.ofString "self", .ref x), (Str.ofString "heap", .ref hp)]) ?_ ?_ ?_
  · intro x; k_extra "locs"
  · intro x; k_extra "nodup"
  intro x dx L' fo A' s' hb' r' c'
  k_extra "go"
  refine' ⟨rfl, ret x dx _ _ _ ?g⟩
  case g => exact hb' _ _ _ [] _ _ _ (by assumption)
theorem wordsF25b : True := by
  k_with "spec" => ((fail_if_success (have := endF25)); ((with_reducible show wpAny _ _ (call (.ref 221) _) _ _ _); refine walker_make (by k_extra "cfg") (by assumption) (by k_extra "room") ?_; intro _ _ _ _ _ _))
  exact trivial
set_option maxHeartbeats 8000000 in
theorem changes_make (c : Cfg w Z b₀ P L loc tmp tt s) (B : Base w Z) (r : Room 7 A) (fz : Froz ad Z) (hbk : handedIn ad.backs = true)
    (ret : ∀ x dx es n wk sn mk s', FldsE [(Str.ofString "heap", .ref ad.hp), (Str.ofString "walker", wk), (Str.ofString "seen", sn), (Str.ofString "marks", mk), (Str.ofString "backs", ad.backs)] es →
      Cfg w Z b₀ P L loc ((x, .obj (instObj cChanges dx)) :: (dx, .obj (dictOf es n)) :: tmp) tt s' → Q (.ref x) s') :
    wpAny (model prg w) A (call (.ref 269) [.ref ad.hp]) Q E s := by
  refine r_make (m := 5) (C := 269) (f := 239) (binds := fun x => [(Str.ofString "self", .ref x), (Str.ofString "heap", .ref ad.hp)]) c B r (by k_is) (by k_is) (by k_is) (by k_is) (by k_is) (fun x s' => BindsTo.of_eq rfl) (fun x => locs rfl) (by decide) (fun x => [(Str.ofString "self", .ref x), (Str.ofString "heap", .ref ad.hp)]) ?_ ?_ ?_
  · intro x; k_extra "locs"
  · intro x; k_extra "nodup"
  intro x dx L' fo A' s' hb' r' c'
  k_extra "go"
  refine' ⟨rfl, ret x dx _ _ _ _ _ _ ?he ?g⟩
  case g => exact (hb' _ _ _ [(_, _), (_, _), (_, _), (_, _)] _ _ _ (by assumption)).sub (List.sublist_append_right [(_, _), (_, _), (_, _), (_, _)] _) fun p hp => List.mem_append_left _ hp
  case he => assumption
end
theorem endF25 : True := trivial
end
section
theorem Inv.join {σ σ' : St} {Y : List Nat} {T : List (Nat × Nat)} {i j : Nat} (v : Inv σ (Y ++ σ.waiting) T) (hi : i < σ.nodes.length) (hj : j < σ.nodes.length) (hc : Cong (nds σ) (prs σ) i j) (h : Join σ i j σ')
    (he : root σ.parent i = root σ.parent j → σ.edges.length < σ.mrg.length + σ.pairs.length) : Inv σ' (Y ++ σ'.waiting) T ∧ root σ'.parent i = root σ'.parent j := by
  cases h with
  | @same e rs hr =>
    refine ⟨⟨v.falls, v.plen, v.n12, v.p12, v.lotsL, v.lotsB, v.habN, v.habK, v.habM, v.habB, v.habU, v.xs, v.cnt, ?_, v.forL, fun x hx => ?_, fun f hf => ?_, v.kids, v.knN, v.knS, v.comp, v.sound, v.told, v.tsub, v.nums, v.ndsN, v.wts, v.dps⟩, hr⟩
    · show (σ.edges ++ _).length ≤ _
      rw [List.length_append]; exact he hr
    · rcases List.mem_append.mp hx with hx | hx
      · exact v.edgB x hx
      · rw [List.mem_singleton.mp hx]; exact ⟨hi, hj⟩
    · show f < (σ.edges ++ _).length
      rw [List.length_append]; exact Nat.lt_of_lt_of_le (v.forB f hf) (Nat.le_add_right _ _)
  | @diff e rs m D ak ag dk dg lk lg uk ug kept gone hne ek eg hlk hlg hhk hhg =>
    have hf := v.falls
    have hpl := v.plen
    have hri : root σ.parent i < σ.nodes.length := root_lt hi
    have hrj : root σ.parent j < σ.nodes.length := root_lt hj
    have rri := root_root hf i
    have rrj := root_root hf j
    have hlt : kept < gone := by (first | lia | omega)
    have hgb : gone < σ.parent.length := by (first | lia | omega)
    have hgk : σ.parent.getD gone 0 = gone := by
      rcases max_root (p := σ.parent) (i := i) (j := j) with e | e <;> rw [eg, e] <;> assumption
    have hkk : σ.parent.getD kept 0 = kept := by
      rcases min_root (p := σ.parent) (i := i) (j := j) with e | e <;> rw [ek, e] <;> assumption
    have hr : ∀ k, root (σ.parent.set gone kept) k = if root σ.parent k = gone then kept else root σ.parent k := fun k => root_set hf hgk hkk hlt hgb k
    have hsame : ∀ a b, root σ.parent a = root σ.parent b → root (σ.parent.set gone kept) a = root (σ.parent.set gone kept) b := fun a b h => by rw [hr, hr, h]
    have hcan : ∀ x y : Node, canon (root σ.parent) x = canon (root σ.parent) y → canon (root (σ.parent.set gone kept)) x = canon (root (σ.parent.set gone kept)) y := fun x y h => by
      have hm : ∀ z : Node, canon (root (σ.parent.set gone kept)) z = canon (fun r => if r = gone then kept else r) (canon (root σ.parent) z) := fun z => by
        unfold canon
        rw [List.map_map]
        congr 1
        exact List.map_congr_left fun k _ => hr k
      rw [hm, hm, h]
    have hij : root (σ.parent.set gone kept) i = root (σ.parent.set gone kept) j := by
      rw [hr, hr]
      by_cases h1 : root σ.parent i = gone
      · rw [if_pos h1, if_neg (by (first | lia | omega))]; (first | lia | omega)
      · rw [if_neg h1, if_pos (by (first | lia | omega))]; (first | lia | omega)
    have hug : ∀ k, k ∈ ug ↔ ∃ x : Node, (nds σ)[k]? = some x ∧ ∃ l ∈ x.2, root σ.parent l = gone := v.habU _ hhg
    have huk : ∀ k, k ∈ uk ↔ ∃ x : Node, (nds σ)[k]? = some x ∧ ∃ l ∈ x.2, root σ.parent l = kept := v.habU _ hhk
    have hn2 : ((σ.hab.filter fun p => decide (p.1 ≠ gone)).map (·.1)).Nodup := List.Nodup.sublist ((List.filter_sublist ..).map _) v.habN
    have pw1 : 2 ^ (σ.mrg.length + 1) = 2 * 2 ^ σ.mrg.length := by rw [Nat.pow_succ, Nat.mul_comm]
    have pw0 : 0 < 2 ^ σ.mrg.length := Nat.pow_pos (by decide)
    have pw2 : σ.nodes.length * 2 ^ (σ.mrg.length + 1) = 2 * (σ.nodes.length * 2 ^ σ.mrg.length) := by rw [pw1, Nat.mul_left_comm]
    have hML : (σ.mrg ++ [LV.ref m]).length = σ.mrg.length + 1 := by simp
    have hbk := v.habB _ hhk
    have hbg := v.habB _ hhg
    dsimp only at hbk hbg
    refine ⟨⟨falls_set hf hlt hgb, ?_, v.n12, v.p12, ?_, ?_, ?_, ?_, ?_, ?_, ?_, ?_, ?_, ?_, ?_, ?_, ?_, v.kids, v.knN, ?_, ?_, ?_, ?_, v.tsub, v.nums, v.ndsN, v.wts, v.dps⟩, hij⟩
    · show (σ.parent.set _ _).length = _
      rw [List.length_set]; exact v.plen
    · show (σ.lots.set _ _).length = _
      rw [List.length_set]; exact v.lotsL
    · intro p hp
      show p.2.length ≤ 2 ^ (σ.mrg ++ [LV.ref m]).length
      rw [hML, pw1]
      rcases List.mem_or_eq_of_mem_set hp with hp | rfl
      · have := v.lotsB p hp; (first | lia | omega)
      · have h1 := v.lotsB _ (List.mem_of_getElem? hlk)
        have h2 := v.lotsB _ (List.mem_of_getElem? hlg)
        dsimp only at h1 h2 ⊢
        rw [List.length_append]; (first | lia | omega)
    · show ((habPut _ _ _ _).map (·.1)).Nodup
      rw [habPut_keys]; exact hn2
    · intro r
      show r ∈ (habPut _ _ _ _).map (·.1) ↔ r < σ.nodes.length ∧ (σ.parent.set gone kept).getD r 0 = r
      rw [habPut_keys, getD_set _ _ _ _ hgb]
      have e1 : r ∈ (σ.hab.filter fun p => decide (p.1 ≠ gone)).map (·.1) ↔ r ∈ σ.hab.map (·.1) ∧ r ≠ gone := by
        simp only [List.mem_map, List.mem_filter, decide_eq_true_eq]
        constructor
        · rintro ⟨p, ⟨h1, h2⟩, rfl⟩; exact ⟨⟨p, h1, rfl⟩, h2⟩
        · rintro ⟨⟨p, h1, rfl⟩, h2⟩; exact ⟨p, ⟨h1, h2⟩, rfl⟩
      rw [e1, v.habK]
      by_cases hg : r = gone
      · rw [if_pos hg]
        constructor
        · rintro ⟨_, h⟩; exact absurd hg h
        · rintro ⟨_, h⟩; (first | lia | omega)
      · rw [if_neg hg]
        exact ⟨fun h => h.1, fun h => ⟨h, hg⟩⟩
    · show (habPut _ _ _ _).length + (σ.mrg ++ [LV.ref m]).length = σ.nodes.length
      rw [habPut_len, hML]
      have h1 := filter_len σ.hab gone v.habN (List.mem_map.mpr ⟨_, hhg, rfl⟩)
      have h2 := v.habM
      (first | lia | omega)
    · intro p hp
      show p.2.2.length ≤ σ.nodes.length * 2 ^ (σ.mrg ++ [LV.ref m]).length
      rw [hML, pw2]
      rcases habPut_mem hp with rfl | ⟨hp, _⟩
      · dsimp only; rw [List.length_append]; (first | lia | omega)
      · have := v.habB p (List.mem_filter.mp hp).1; (first | lia | omega)
    · intro p hp k
      show k ∈ p.2.2 ↔ ∃ x : Node, (nds σ)[k]? = some x ∧ ∃ l ∈ x.2, root (σ.parent.set gone kept) l = p.1
      rcases habPut_mem hp with rfl | ⟨hp, hpk⟩
      · dsimp only
        rw [List.mem_append, huk, hug]
        constructor
        · rintro (⟨x, hx, l, h1, h2⟩ | ⟨x, hx, l, h1, h2⟩)
          · exact ⟨x, hx, l, h1, by rw [hr, if_neg (by (first | lia | omega))]; exact h2⟩
          · exact ⟨x, hx, l, h1, by rw [hr, if_pos h2]⟩
        · rintro ⟨x, hx, l, h1, h2⟩
          rw [hr] at h2
          by_cases hg : root σ.parent l = gone
          · exact .inr ⟨x, hx, l, h1, hg⟩
          · rw [if_neg hg] at h2; exact .inl ⟨x, hx, l, h1, h2⟩
      · obtain ⟨hp1, hp2⟩ := List.mem_filter.mp hp
        have hp2' : p.1 ≠ gone := by simpa using hp2
        rw [v.habU p hp1 k]
        constructor
        · rintro ⟨x, hx, l, h1, h2⟩
          exact ⟨x, hx, l, h1, by rw [hr, if_neg (by (first | lia | omega))]; exact h2⟩
        · rintro ⟨x, hx, l, h1, h2⟩
          rw [hr] at h2
          by_cases hg : root σ.parent l = gone
          · rw [if_pos hg] at h2; exact absurd h2.symm hpk
          · rw [if_neg hg] at h2; exact ⟨x, hx, l, h1, h2⟩
    · intro k hk
      rw [← List.append_assoc] at hk
      rcases List.mem_append.mp hk with hk | hk
      · exact v.xs k hk
      · obtain ⟨x, hx, _⟩ := (hug k).mp hk; exact lt_of_at hx
    · show σ.known.length + (Y ++ (σ.waiting ++ ug)).length ≤ σ.nodes.length + (σ.mrg ++ [LV.ref m]).length * (σ.nodes.length * 2 ^ (σ.mrg ++ [LV.ref m]).length)
      have h1 := v.cnt
      rw [hML, pw2, Nat.add_mul, Nat.one_mul]
      rw [List.length_append] at h1
      rw [List.length_append, List.length_append]
      have h3 : σ.mrg.length * (2 * (σ.nodes.length * 2 ^ σ.mrg.length)) = 2 * (σ.mrg.length * (σ.nodes.length * 2 ^ σ.mrg.length)) := by rw [Nat.mul_left_comm]
      (first | lia | omega)
    · show (σ.edges ++ _).length ≤ (σ.mrg ++ [LV.ref m]).length + σ.pairs.length
      have := v.edgL
      rw [hML, List.length_append]; simp; (first | lia | omega)
    · show (σ.forest ++ _).length = (σ.mrg ++ [LV.ref m]).length
      have := v.forL
      rw [hML, List.length_append]; simp; (first | lia | omega)
    · intro x hx
      rcases List.mem_append.mp hx with hx | hx
      · exact v.edgB x hx
      · rw [List.mem_singleton.mp hx]; exact ⟨hi, hj⟩
    · intro f hf'
      show f < (σ.edges ++ [(e, i, j, rs)]).length
      rcases List.mem_append.mp hf' with hf' | hf'
      · rw [List.length_append]; exact Nat.lt_of_lt_of_le (v.forB f hf') (Nat.le_add_right _ _)
      · rw [List.mem_singleton.mp hf', List.length_append]; simp
    · intro q hq
      obtain ⟨h1, x, hx, h2⟩ := v.knS q hq
      exact ⟨h1, x, hx, hcan _ _ h2⟩
    · intro k x hx hk
      have hk' : k ∉ (Y ++ σ.waiting) ++ ug := by rw [List.append_assoc]; exact hk
      rw [List.mem_append] at hk'
      obtain ⟨q, hq, e1, e2⟩ := v.comp k x hx fun h => hk' (.inl h)
      refine ⟨q, hq, ?_, hsame _ _ e2⟩
      show q.1 = canon (root (σ.parent.set gone kept)) x
      rw [e1]
      refine canon_congr fun l hl => ?_
      rw [hr, if_neg fun hg => hk' (.inr ((hug k).mpr ⟨x, hx, l, hl, hg⟩))]
    · intro k hk
      have h1 := v.sound k hk
      show Cong (nds σ) (prs σ) k (root (σ.parent.set gone kept) k)
      rw [hr]
      split
      · rename_i hg
        rw [hg] at h1
        refine h1.trans ?_
        have hI := v.sound i hi
        have hJ := v.sound j hj
        have hIJ : Cong (nds σ) (prs σ) (root σ.parent i) (root σ.parent j) := (hI.symm.trans hc).trans hJ
        rcases Nat.le_total (root σ.parent i) (root σ.parent j) with h | h
        · rw [ek, eg, Nat.min_eq_left h, Nat.max_eq_right h]; exact hIJ.symm
        · rw [ek, eg, Nat.min_eq_right h, Nat.max_eq_left h]; exact hIJ
      · exact h1
    · intro q hq
      obtain ⟨h1, h2, h3⟩ := v.told q hq
      exact ⟨h1, h2, hsame _ _ h3⟩
end
section
theorem kid_lt {σ : St} {X : List Nat} {T : List (Nat × Nat)} (v : Inv σ X T) {i : Nat} {x : Node} (hx : (nds σ)[i]? = some x) : ∀ k ∈ x.2, k < (nds σ).length := fun k hk => by
  have := (v.kids i x hx).1 k hk
  have := lt_of_at hx
  rw [nds_len]; (first | lia | omega)
/-- the number that was looked at waits no more -/
theorem Inv.drop {σ : St} {n : Nat} {X : List Nat} {T : List (Nat × Nat)} (v : Inv σ (n :: X) T) (h : n ∈ X ∨ ∀ x : Node, (nds σ)[n]? = some x → ∃ q ∈ σ.known, q.1 = canon (root σ.parent) x ∧ root σ.parent q.2.2 = root σ.parent n) : Inv σ X T :=
  { v with
    xs := fun i hi => v.xs i (.tail _ hi)
    cnt := by have := v.cnt; rw [List.length_cons] at this; (first | lia | omega)
    comp := fun i x hx hi => by
      by_cases e : i = n
      · subst e
        rcases h with h | h
        · exact absurd h hi
        · exact h x hx
      · exact v.comp i x hx fun hm => (List.mem_cons.mp hm).elim e hi }
theorem Inv.look {σ σ' : St} {n : Nat} {T : List (Nat × Nat)} (v : Inv σ (n :: σ.waiting) T) (h : Look σ n σ') : Inv σ' σ'.waiting T := by
  cases h with
  | @old x q hx hq e1 e2 =>
    exact v.drop (.inr fun y hy => by rw [hx] at hy; cases hy; exact ⟨q, hq, e1, e2⟩)
  | @join x q σ' hx hq e1 e2 hj =>
    obtain ⟨hk, y, hy, hc⟩ := v.knS q hq
    have hq2 := lt_of_at hy
    have hn := lt_of_at hx
    have hidem : canon (root σ.parent) q.1 = canon (root σ.parent) x := by
      rw [e1]; unfold canon
      rw [List.map_map]
      congr 1
      exact List.map_congr_left fun k _ => root_at (root_root v.falls k)
    have hcg : Cong (nds σ) (prs σ) q.2.2 n := Cong.of_canon (f := root σ.parent) (fun k hk => v.sound k (by rw [← nds_len]; exact hk)) hy hx (kid_lt v hy) (kid_lt v hx) (hc.symm.trans hidem)
    obtain ⟨v', hr⟩ := Inv.join (Y := [n]) v hq2 hn hcg hj fun e => absurd e e2
    have v' : Inv σ' (n :: σ'.waiting) T := v'
    cases hj with
    | same e => exact absurd e e2
    | @diff e rs m D ak ag dk dg lk lg uk ug kept gone hne ek eg hlk hlg hhk hhg =>
      refine v'.drop ?_
      by_cases hm : n ∈ ug
      · exact .inl (List.mem_append_right _ hm)
      · refine .inr fun y hy => ⟨q, hq, ?_, hr⟩
        have hy' : (nds σ)[n]? = some y := hy
        rw [hx] at hy'; cases hy'
        have hf := v.falls
        have hpl := v.plen
        have hri : root σ.parent q.2.2 < σ.nodes.length := root_lt hq2
        have hrj : root σ.parent n < σ.nodes.length := root_lt hn
        have hlt : kept < gone := by (first | lia | omega)
        have hgk : σ.parent.getD gone 0 = gone := by
          rcases max_root (p := σ.parent) (i := q.2.2) (j := n) with e | e <;> rw [eg, e] <;> exact root_root hf _
        have hkk : σ.parent.getD kept 0 = kept := by
          rcases min_root (p := σ.parent) (i := q.2.2) (j := n) with e | e <;> rw [ek, e] <;> exact root_root hf _
        show q.1 = canon (root (σ.parent.set gone kept)) x
        rw [e1]
        refine canon_congr fun l hl => ?_
        rw [root_set hf hgk hkk hlt (by (first | lia | omega)), if_neg fun hg => hm ((v.habU _ hhg n).mpr ⟨x, hx, l, hl, hg⟩)]
  | @new x d hx hno =>
    have hn := lt_of_at hx
    have hkl : ∀ k ∈ (canon (root σ.parent) x).2, k < σ.nodes.length := fun k hk => by
      obtain ⟨l, hl, rfl⟩ := List.mem_map.mp hk
      have := kid_lt v hx l hl
      rw [nds_len] at this
      exact root_lt this
    have hidem : canon (root σ.parent) (canon (root σ.parent) x) = canon (root σ.parent) x := by
      unfold canon
      rw [List.map_map]
      congr 1
      exact List.map_congr_left fun k _ => root_at (root_root v.falls k)
    refine ⟨v.falls, v.plen, v.n12, v.p12, v.lotsL, v.lotsB, v.habN, v.habK, v.habM, v.habB, v.habU, fun i hi => v.xs i (.tail _ hi), ?_, v.edgL, v.forL, v.edgB, v.forB, v.kids, ?_, fun q hq => ?_, fun i y hy hi => ?_, v.sound, v.told, v.tsub, v.nums, v.ndsN, v.wts, v.dps⟩
    · show (σ.known ++ _).length + σ.waiting.length ≤ _
      have := v.cnt
      rw [List.length_cons] at this
      rw [List.length_append]; simp only [List.length_cons, List.length_nil]; (first | lia | omega)
    · show ((σ.known ++ _).map (·.1)).Nodup
      rw [List.map_append, List.nodup_append]
      refine ⟨v.knN, by simp, fun a ha b hb e => ?_⟩
      simp only [List.map_cons, List.map_nil, List.mem_singleton] at hb
      obtain ⟨q, hq, rfl⟩ := List.mem_map.mp ha
      exact hno q hq (e.trans hb)
    · rcases List.mem_append.mp hq with hq | hq
      · exact v.knS q hq
      · rw [List.mem_singleton.mp hq]
        exact ⟨hkl, x, hx, hidem⟩
    · by_cases e : i = n
      · subst e
        have hy' : (nds σ)[i]? = some y := hy
        rw [hx] at hy'; cases hy'
        exact ⟨_, List.mem_append_right _ (.head _), rfl, rfl⟩
      · obtain ⟨q, hq, h1, h2⟩ := v.comp i y hy fun hm => (List.mem_cons.mp hm).elim e hi
        exact ⟨q, List.mem_append_left _ hq, h1, h2⟩
/-- a told likeness, done -/
theorem Inv.toldJ {σ σ' : St} {i j : Nat} {pt : Addr} {T : List (Nat × Nat)} {n : Nat} (v : Inv σ σ.waiting T) (hp : σ.pairs.length < 12) (hi : i < σ.nodes.length) (hj : j < σ.nodes.length) (h : Join { σ with spot := n, pairs := σ.pairs ++ [(pt, i, j)] } i j σ') : Inv σ' σ'.waiting (T ++ [(i, j)]) := by
  have v1 : Inv { σ with spot := n, pairs := σ.pairs ++ [(pt, i, j)] } ([] ++ { σ with spot := n, pairs := σ.pairs ++ [(pt, i, j)] }.waiting) T := (v.pairs hp).spot
  have hin : (i, j) ∈ prs { σ with spot := n, pairs := σ.pairs ++ [(pt, i, j)] } := by
    show (i, j) ∈ (σ.pairs ++ [(pt, i, j)]).map (·.2)
    rw [List.map_append]; exact List.mem_append_right _ (.head _)
  obtain ⟨v2, hr⟩ := Inv.join (Y := []) v1 hi hj (.told hin) h fun _ => by
    show σ.edges.length < σ.mrg.length + (σ.pairs ++ [(pt, i, j)]).length
    have := v.edgL
    rw [List.length_append]; simp only [List.length_cons, List.length_nil]; (first | lia | omega)
  have v2 : Inv σ' σ'.waiting T := v2
  have hk := h.keep
  refine { v2 with told := fun q hq => ?_, tsub := fun q hq => ?_ }
  · rcases List.mem_append.mp hq with hq | hq
    · exact v2.told q hq
    · rw [List.mem_singleton.mp hq]
      have e := hk.1
      dsimp only at e
      exact ⟨by rw [e]; exact hi, by rw [e]; exact hj, hr⟩
  · rcases List.mem_append.mp hq with hq | hq
    · exact v2.tsub q hq
    · rw [List.mem_singleton.mp hq]
      have e := hk.2.2.1
      dsimp only at e
      unfold prs at hin ⊢
      rw [e]; exact hin
/-- settled: the classes are what is forced -/
theorem Inv.full {σ : St} {T : List (Nat × Nat)} (v : Inv σ [] T) (hT : ∀ q ∈ prs σ, q ∈ T) {i j : Nat} (h : Cong (nds σ) (prs σ) i j) : root σ.parent i = root σ.parent j := by
  refine h.closed (f := root σ.parent) (fun q hq => (v.told q (hT q hq)).2.2) fun i j x y hx hy e => ?_
  obtain ⟨q1, h1, e1, r1⟩ := v.comp i x hx (by simp)
  obtain ⟨q2, h2, e2, r2⟩ := v.comp j y hy (by simp)
  have ek : q1.1 = q2.1 := by rw [e1, e2, e]
  have : q1 = q2 := by
    have hn := v.knN
    clear e1 e2 r1 r2
    generalize σ.known = l at h1 h2 hn
    induction l with
    | nil => cases h1
    | cons a l ih =>
      rw [List.map_cons, List.nodup_cons] at hn
      rcases List.mem_cons.mp h1 with a1 | h1
      · rcases List.mem_cons.mp h2 with a2 | h2
        · rw [a1, a2]
        · exact absurd (List.mem_map.mpr ⟨q2, h2, by rw [← ek, a1]⟩) hn.1
      · rcases List.mem_cons.mp h2 with a2 | h2
        · exact absurd (List.mem_map.mpr ⟨q1, h1, by rw [ek, a2]⟩) hn.1
        · exact ih h1 h2 hn.2
  subst this
  exact r1.symm.trans r2

structure Ch (σ : St) (N0 E0 : Nat) (p0 : List Nat) : Prop where
  a : ∀ f ∈ σ.forest, E0 ≤ f → ∃ e, σ.edges[f]? = some e ∧ root σ.parent e.2.1 = root σ.parent e.2.2.1 ∧ (N0 ≤ e.2.1 ∨ N0 ≤ e.2.2.1 ∨ root p0 e.2.1 ≠ root p0 e.2.2.1)
  b : ∀ i < N0, ∀ j < N0, root σ.parent i = root σ.parent j → root p0 i = root p0 j ∨ ∃ f ∈ σ.forest, E0 ≤ f ∧ ∃ e, σ.edges[f]? = some e ∧ root σ.parent e.2.1 = root σ.parent i
  c : ∀ i < N0, ∀ j < N0, root p0 i = root p0 j → root σ.parent i = root σ.parent j
  d : E0 ≤ σ.edges.length ∧ N0 ≤ σ.nodes.length
theorem Ch.init {σ : St} {X : List Nat} {T : List (Nat × Nat)} (v : Inv σ X T) : Ch σ σ.nodes.length σ.edges.length σ.parent :=
  ⟨fun f hf h => absurd (v.forB f hf) (by (first | lia | omega)), fun i _ j _ h => .inl h, fun i _ j _ h => h, ⟨Nat.le_refl _, Nat.le_refl _⟩⟩
theorem Ch.join {σ σ' : St} {N0 E0 i j : Nat} {p0 : List Nat} {X : List Nat} {T : List (Nat × Nat)} (v : Inv σ X T) (ch : Ch σ N0 E0 p0) (hi : i < σ.nodes.length) (hj : j < σ.nodes.length) (h : Join σ i j σ') : Ch σ' N0 E0 p0 := by
  have hed : ∀ {f : Nat} {e x : Addr × Nat × Nat × Addr}, σ.edges[f]? = some e → (σ.edges ++ [x])[f]? = some e := fun h => snoc_at.mpr (.inl h)
  cases h with
  | @same e rs hr =>
    refine ⟨fun f hf hE => ?_, fun a ha b hb hab => ?_, ch.c, ⟨by show E0 ≤ (σ.edges ++ _).length; rw [List.length_append]; exact Nat.le_trans ch.d.1 (Nat.le_add_right _ _), ch.d.2⟩⟩
    · obtain ⟨x, h1, h2⟩ := ch.a f hf hE
      exact ⟨x, hed h1, h2⟩
    · rcases ch.b a ha b hb hab with h | ⟨f, h1, h2, x, h3, h4⟩
      · exact .inl h
      · exact .inr ⟨f, h1, h2, x, hed h3, h4⟩
  | @diff e rs m D ak ag dk dg lk lg uk ug kept gone hne ek eg hlk hlg hhk hhg =>
    have hf := v.falls
    have hpl := v.plen
    have hri : root σ.parent i < σ.nodes.length := root_lt hi
    have hrj : root σ.parent j < σ.nodes.length := root_lt hj
    have hlt : kept < gone := by (first | lia | omega)
    have hgk : σ.parent.getD gone 0 = gone := by
      rcases max_root (p := σ.parent) (i := i) (j := j) with e | e <;> rw [eg, e] <;> exact root_root hf _
    have hkk : σ.parent.getD kept 0 = kept := by
      rcases min_root (p := σ.parent) (i := i) (j := j) with e | e <;> rw [ek, e] <;> exact root_root hf _
    have hr : ∀ k, root (σ.parent.set gone kept) k = if root σ.parent k = gone then kept else root σ.parent k := fun k => root_set hf hgk hkk hlt (by (first | lia | omega)) k
    have hsame : ∀ a b, root σ.parent a = root σ.parent b → root (σ.parent.set gone kept) a = root (σ.parent.set gone kept) b := fun a b h => by rw [hr, hr, h]
    have hij : root (σ.parent.set gone kept) i = root (σ.parent.set gone kept) j := by
      rw [hr, hr]
      by_cases h1 : root σ.parent i = gone
      · rw [if_pos h1, if_neg (by (first | lia | omega))]; (first | lia | omega)
      · rw [if_neg h1, if_pos (by (first | lia | omega))]; (first | lia | omega)
    have hlen : (σ.edges ++ [(e, i, j, rs)]).length - 1 = σ.edges.length := by simp
    have hnew : (σ.edges ++ [(e, i, j, rs)])[σ.edges.length]? = some (e, i, j, rs) := snoc_at.mpr (.inr ⟨rfl, rfl⟩)
    refine ⟨fun f hf' hE => ?_, fun a ha b hb hab => ?_, fun a ha b hb hab => hsame _ _ (ch.c a ha b hb hab), ⟨by show E0 ≤ (σ.edges ++ _).length; rw [List.length_append]; exact Nat.le_trans ch.d.1 (Nat.le_add_right _ _), ch.d.2⟩⟩
    · rcases List.mem_append.mp hf' with hf' | hf'
      · obtain ⟨x, h1, h2, h3⟩ := ch.a f hf' hE
        exact ⟨x, hed h1, hsame _ _ h2, h3⟩
      · rw [List.mem_singleton.mp hf', hlen]
        refine ⟨_, hnew, hij, ?_⟩
        dsimp only
        by_cases h1 : N0 ≤ i
        · exact .inl h1
        · by_cases h2 : N0 ≤ j
          · exact .inr (.inl h2)
          · exact .inr (.inr fun h => hne (ch.c i (by (first | lia | omega)) j (by (first | lia | omega)) h))
    · have hab' : root (σ.parent.set gone kept) a = root (σ.parent.set gone kept) b := hab
      by_cases ho : root σ.parent a = root σ.parent b
      · rcases ch.b a ha b hb ho with h | ⟨f, h1, h2, x, h3, h4⟩
        · exact .inl h
        · exact .inr ⟨f, List.mem_append_left _ h1, h2, x, hed h3, hsame _ _ h4⟩
      · refine .inr ⟨(σ.edges ++ [(e, i, j, rs)]).length - 1, List.mem_append_right _ (.head _), by rw [hlen]; exact ch.d.1, (e, i, j, rs), by rw [hlen]; exact hnew, ?_⟩
        show root (σ.parent.set gone kept) i = root (σ.parent.set gone kept) a
        rw [hr, hr] at hab'
        rw [hr, hr]
        by_cases ha1 : root σ.parent a = gone <;> by_cases hb1 : root σ.parent b = gone <;> by_cases hi1 : root σ.parent i = gone <;> simp only [ha1, hb1, hi1, if_true, if_false] at hab' ⊢ ho <;> (first | lia | omega)
theorem Ch.look {σ σ' : St} {N0 E0 n : Nat} {p0 : List Nat} {X : List Nat} {T : List (Nat × Nat)} (v : Inv σ X T) (ch : Ch σ N0 E0 p0) (h : Look σ n σ') : Ch σ' N0 E0 p0 := by
  cases h with
  | old => exact ch
  | @join x q σ' hx hq e1 e2 hj =>
    obtain ⟨_, y, hy, _⟩ := v.knS q hq
    exact ch.join v (lt_of_at hy) (lt_of_at hx) hj
  | new => exact ⟨ch.a, ch.b, ch.c, ch.d⟩
theorem Ch.new {σ σ' : St} {N0 E0 : Nat} {nd : Node} {p0 : List Nat} {X : List Nat} {T : List (Nat × Nat)} (v : Inv σ X T) (ch : Ch σ N0 E0 p0) (h : New σ nd σ') : Ch σ' N0 E0 p0 := by
  cases h with
  | @mk d D Dh w1 d1 cs hnn hcs =>
  have hpl := v.plen
  have hr : ∀ k, k < σ.nodes.length → root (σ.parent ++ [σ.parent.length]) k = root σ.parent k := fun k hk => root_snoc v.falls k (by (first | lia | omega))
  have hd := ch.d
  refine ⟨fun f hf hE => ?_, fun i hi j hj h => ?_, fun i hi j hj h => ?_, ⟨hd.1, by show N0 ≤ (σ.nodes ++ _).length; rw [List.length_append]; exact Nat.le_trans hd.2 (Nat.le_add_right _ _)⟩⟩
  · obtain ⟨x, h1, h2, h3⟩ := ch.a f hf hE
    obtain ⟨b1, b2⟩ := v.edgB x (List.mem_of_getElem? h1)
    exact ⟨x, h1, by show root (σ.parent ++ _) _ = root (σ.parent ++ _) _; rw [hr _ b1, hr _ b2]; exact h2, h3⟩
  · have h' : root (σ.parent ++ [σ.parent.length]) i = root (σ.parent ++ [σ.parent.length]) j := h
    rw [hr i (by (first | lia | omega)), hr j (by (first | lia | omega))] at h'
    rcases ch.b i hi j hj h' with h | ⟨f, h1, h2, x, h3, h4⟩
    · exact .inl h
    · obtain ⟨b1, b2⟩ := v.edgB x (List.mem_of_getElem? h3)
      refine .inr ⟨f, h1, h2, x, h3, ?_⟩
      show root (σ.parent ++ _) _ = root (σ.parent ++ _) _
      rw [hr _ b1, hr i (by (first | lia | omega))]; exact h4
  · show root (σ.parent ++ _) _ = root (σ.parent ++ _) _
    rw [hr i (by (first | lia | omega)), hr j (by (first | lia | omega))]; exact ch.c i hi j hj h
end
section
structure Deed (σ : St) (n p : Nat) : Prop where
  inv : Inv σ σ.waiting (prs σ)
  rows : rnds σ = nds σ
  n : σ.nodes.length ≤ n
  p : σ.pairs.length ≤ p
  c : σ.cells.length ≤ 100000
  pos : 0 < σ.nodes.length
theorem Deed.rlen {σ : St} {n p : Nat} (d : Deed σ n p) : σ.rows.length = σ.nodes.length := by
  have := congrArg List.length d.rows
  simpa [rnds, nds] using this
theorem Deed.more {σ σ' : St} {n p : Nat} (d : Deed σ n p) (h12 : n < 12) (h : More σ σ') : Deed σ' (n + 1) p ∧ ∀ N0 E0 p0, Ch σ N0 E0 p0 → Ch σ' N0 E0 p0 := by
  cases h with
  | old => exact ⟨⟨d.inv.spot, d.rows, Nat.le_succ_of_le d.n, d.p, d.c, d.pos⟩, fun N0 E0 p0 ch => ⟨ch.a, ch.b, ch.c, ch.d⟩⟩
  | @new m nd σ1 σ2 a hk hl hn hlk =>
    have hdn := d.n
    have v0 : Inv { σ with spot := m } { σ with spot := m }.waiting (prs σ) := d.inv.spot
    have v1 := Inv.new v0 hn (by show σ.nodes.length < 12; (first | lia | omega)) hk hl
    have v2 := v1.look hlk
    have k1 := hn.keep
    have k2 := hlk.keep
    have hp : σ2.pairs = σ.pairs := k2.2.2.1.trans k1.2.2.1
    have hr : σ2.rows = σ.rows := k2.2.1.trans k1.2.1
    have hc : σ2.cells = σ.cells := k2.2.2.2.2.trans k1.2.2.2.2
    have hnd : nds σ2 = nds σ ++ [nd] := by
      have e1 : nds σ2 = nds σ1 := by unfold nds; rw [k2.1]
      rw [e1, k1.1]; rfl
    have hlen : σ2.nodes.length = σ.nodes.length + 1 := by
      have := congrArg List.length hnd
      rw [List.length_append, nds_len, nds_len] at this
      simpa using this
    have hpr : prs σ2 = prs σ := by unfold prs; rw [hp]
    refine ⟨⟨?_, ?_, by show σ2.nodes.length ≤ n + 1; (first | lia | omega), by show σ2.pairs.length ≤ p; rw [hp]; exact d.p, by show σ2.cells.length ≤ 100000; rw [hc]; exact d.c, by show 0 < σ2.nodes.length; (first | lia | omega)⟩, fun N0 E0 p0 ch => ?_⟩
    · have := v2.rows (l := σ2.rows ++ [(a, nd)])
      rw [← hpr] at this
      exact this
    · show (σ2.rows ++ [(a, nd)]).map (·.2) = nds σ2
      rw [List.map_append, hr, hnd]
      have := d.rows
      unfold rnds at this
      rw [this]; rfl
    · have ch0 : Ch { σ with spot := m } N0 E0 p0 := ⟨ch.a, ch.b, ch.c, ch.d⟩
      have ch2 := (ch0.new v0 hn).look v1 hlk
      exact ⟨ch2.a, ch2.b, ch2.c, ch2.d⟩
theorem Deed.told {σ σ' : St} {n p i j m : Nat} {pt : Addr} (d : Deed σ n p) (h12 : p < 12) (hi : i < σ.nodes.length) (hj : j < σ.nodes.length) (h : Join { σ with spot := m, pairs := σ.pairs ++ [(pt, i, j)] } i j σ') : Deed σ' n (p + 1) ∧ ∀ N0 E0 p0, Ch σ N0 E0 p0 → Ch σ' N0 E0 p0 := by
  have hdp := d.p
  have v := Inv.toldJ d.inv (by (first | lia | omega)) hi hj h
  have k := h.keep
  dsimp only at k
  have hpr : prs σ' = prs σ ++ [(i, j)] := by unfold prs; rw [k.2.2.1, List.map_append]; rfl
  have hnd : nds σ' = nds σ := by unfold nds; rw [k.1]
  refine ⟨⟨by rw [hpr]; exact v, by rw [hnd, ← d.rows]; unfold rnds; rw [k.2.1], by rw [k.1]; exact d.n, by rw [k.2.2.1, List.length_append]; simp; (first | lia | omega), by rw [k.2.2.2.2]; exact d.c, by rw [k.1]; exact d.pos⟩, fun N0 E0 p0 ch => ?_⟩
  have v0 : Inv { σ with spot := m, pairs := σ.pairs ++ [(pt, i, j)] } σ.waiting (prs σ) := (d.inv.pairs (by (first | lia | omega))).spot
  exact Ch.join v0 (σ := { σ with spot := m, pairs := σ.pairs ++ [(pt, i, j)] }) ⟨ch.a, ch.b, ch.c, ch.d⟩ hi hj h
theorem Deed.look {σ σ' : St} {n p k : Nat} {ws : List Nat} (d : Deed σ n p) (e : σ.waiting = ws ++ [k]) (h : Look { σ with waiting := ws } k σ') : Deed σ' n p ∧ ∀ N0 E0 p0, Ch σ N0 E0 p0 → Ch σ' N0 E0 p0 := by
  have v := d.inv.pop e
  have v' : Inv { σ with waiting := ws } (k :: { σ with waiting := ws }.waiting) (prs σ) := v
  have v2 := v'.look h
  have kp := h.keep
  dsimp only at kp
  have hpr : prs σ' = prs σ := by unfold prs; rw [kp.2.2.1]
  have hnd : nds σ' = nds σ := by unfold nds; rw [kp.1]
  refine ⟨⟨by rw [hpr]; exact v2, by rw [hnd, ← d.rows]; unfold rnds; rw [kp.2.1], by rw [kp.1]; exact d.n, by rw [kp.2.2.1]; exact d.p, by rw [kp.2.2.2.2]; exact d.c, by rw [kp.1]; exact d.pos⟩, fun N0 E0 p0 ch => ?_⟩
  exact Ch.look v (σ := { σ with waiting := ws }) ⟨ch.a, ch.b, ch.c, ch.d⟩ h

section
variable {σ : St} {n p : Nat}
theorem Deed.marks (d : Deed σ n p) (hw : σ.waiting = []) {ms : List Nat} (h1 : MPre σ ms) (h2 : MClosed σ ms) : ms.length = σ.nodes.length ∧ ∀ i < σ.nodes.length, ms.getD i 0 = root σ.parent i := by
  have v := d.inv
  rw [hw] at v
  have hl : ms.length = σ.nodes.length := by rw [h1.len, d.rlen]
  refine ⟨hl, fun i hi => ?_⟩
  refine least_eq (nds := nds σ) (prs := prs σ) (N := σ.nodes.length) (f := fun i => ms.getD i 0) (g := root σ.parent) (fun i hi => h1.le i (by (first | lia | omega))) (fun i _ => root_le i) (fun i hi => by have := h1.sound i (by (first | lia | omega)); rw [d.rows] at this; exact this) v.sound
    (fun i j h => ?_) (fun i j h => v.full (fun q hq => hq) h) i hi
  refine Cong.closed (f := fun i => ms.getD i 0) h2.told (fun i j x y hx hy e => h2.cong i j x y (by rw [d.rows]; exact hx) (by rw [d.rows]; exact hy) e) h
theorem set_two {l : List Int} : 1 < (setOf l).length ↔ ∃ a ∈ l, ∃ b ∈ l, a ≠ b := by
  have hn := nodup_setOf (l := l)
  have hm := fun a => mem_setOf (l := l) (a := a)
  generalize setOf l = s at hn hm
  constructor
  · intro h
    match s, hn, hm, h with
    | a :: b :: s, hn, hm, _ =>
      refine ⟨a, (hm a).mp (.head _), b, (hm b).mp (.tail _ (.head _)), fun e => ?_⟩
      exact (List.nodup_cons.mp hn).1 (e ▸ .head _)
  · rintro ⟨a, ha, b, hb, hne⟩
    have h1 := (hm a).mpr ha
    have h2 := (hm b).mpr hb
    match s, h1, h2 with
    | [x], h1, h2 =>
      rw [List.mem_singleton] at h1 h2
      exact absurd (h1.trans h2.symm) hne
    | _ :: _ :: _, _, _ => simp
theorem turn_iff {X : List Nat} {T : List (Nat × Nat)} {ms bs p0 : List Nat} {N0 E0 x : Nat} (v : Inv σ X T) (hl : ms.length = σ.nodes.length) (hm : ∀ i < σ.nodes.length, ms.getD i 0 = root σ.parent i) (hb : bs.length = N0) (hbs : ∀ i < N0, bs.getD i 0 = root p0 i) (ch : Ch σ N0 E0 p0) :
    ((∃ n, N0 ≤ n ∧ n < σ.nodes.length ∧ root σ.parent n = x) ∨ ∃ f ∈ σ.forest, E0 ≤ f ∧ ∃ p, σ.edges[f]? = some p ∧ root σ.parent p.2.1 = x) ↔ x ∈ ms ∧ turnB bs ms x = true := by
  have hso : ∀ n, n ∈ someOf ms x ↔ n < σ.nodes.length ∧ root σ.parent n = x := fun n => by
    rw [someOf_mem, hl]
    exact and_congr_right fun h => by rw [hm n h]
  have hin : ∀ n, n < σ.nodes.length → root σ.parent n = x → x ∈ ms := fun n h1 h2 => by
    rw [← h2, ← hm n h1]
    have : n < ms.length := by (first | lia | omega)
    simp only [List.getD, List.getElem?_eq_getElem this]; exact List.getElem_mem this
  have hbig : ∀ n, N0 ≤ n → n < σ.nodes.length → root σ.parent n = x → turnB bs ms x = true := fun n h0 h1 h2 => by
    unfold turnB
    rw [Bool.or_eq_true]
    have := (someOf_up ms x).le_last n ((hso n).mpr ⟨h1, h2⟩)
    exact .inl (decide_eq_true (by (first | lia | omega)))
  constructor
  · rintro (⟨n, h0, h1, h2⟩ | ⟨f, hf, hE, e, he, hr⟩)
    · exact ⟨hin n h1 h2, hbig n h0 h1 h2⟩
    · obtain ⟨e', he', hab, hor⟩ := ch.a f hf hE
      rw [he] at he'; cases he'
      obtain ⟨b1, b2⟩ := v.edgB e (List.mem_of_getElem? he)
      have hr2 : root σ.parent e.2.2.1 = x := hab.symm.trans hr
      refine ⟨hin _ b1 hr, ?_⟩
      by_cases h1 : N0 ≤ e.2.1
      · exact hbig _ h1 b1 hr
      by_cases h2 : N0 ≤ e.2.2.1
      · exact hbig _ h2 b2 hr2
      have h3 : root p0 e.2.1 ≠ root p0 e.2.2.1 := by
        rcases hor with h | h | h
        · exact absurd h h1
        · exact absurd h h2
        · exact h
      unfold turnB
      rw [Bool.or_eq_true]
      refine .inr (decide_eq_true (set_two.mpr ⟨(bs.getD e.2.1 0 : Int), ?_, (bs.getD e.2.2.1 0 : Int), ?_, ?_⟩))
      · unfold toI; exact List.mem_map.mpr ⟨_, List.mem_map.mpr ⟨e.2.1, (hso _).mpr ⟨b1, hr⟩, rfl⟩, rfl⟩
      · unfold toI; exact List.mem_map.mpr ⟨_, List.mem_map.mpr ⟨e.2.2.1, (hso _).mpr ⟨b2, hr2⟩, rfl⟩, rfl⟩
      · rw [hbs _ (by (first | lia | omega)), hbs _ (by (first | lia | omega))]
        intro q; exact h3 (by (first | lia | omega))
  · rintro ⟨hx, hT⟩
    obtain ⟨i, hi⟩ := List.mem_iff_getElem?.mp hx
    have hil := (List.getElem?_eq_some_iff.mp hi).1
    have hri : root σ.parent i = x := by rw [← hm i (by (first | lia | omega))]; simp [List.getD, hi]
    have hne : someOf ms x ≠ [] := List.ne_nil_of_mem ((hso i).mpr ⟨by (first | lia | omega), hri⟩)
    have hlast : (someOf ms x).getLastD 0 ∈ someOf ms x := by
      have h := List.getLast_mem hne
      have e : (someOf ms x).getLastD 0 = (someOf ms x).getLast hne := by
        rw [List.getLastD_eq_getLast?, List.getLast?_eq_some_getLast hne]; rfl
      rw [e]; exact h
    obtain ⟨l1, l2⟩ := (hso _).mp hlast
    by_cases h0 : N0 ≤ (someOf ms x).getLastD 0
    · exact .inl ⟨_, h0, l1, l2⟩
    · unfold turnB at hT
      rw [Bool.or_eq_true, decide_eq_true_eq, decide_eq_true_eq] at hT
      have hT := hT.resolve_left (by (first | lia | omega))
      obtain ⟨a, ha, b, hb', hab⟩ := set_two.mp hT
      unfold toI at ha hb'
      obtain ⟨_, h1, rfl⟩ := List.mem_map.mp ha
      obtain ⟨i1, h2, rfl⟩ := List.mem_map.mp h1
      obtain ⟨_, h3, rfl⟩ := List.mem_map.mp hb'
      obtain ⟨i2, h4, rfl⟩ := List.mem_map.mp h3
      have le1 := (someOf_up ms x).le_last i1 h2
      have le2 := (someOf_up ms x).le_last i2 h4
      obtain ⟨_, r1⟩ := (hso _).mp h2
      obtain ⟨_, r2⟩ := (hso _).mp h4
      rcases ch.b i1 (by (first | lia | omega)) i2 (by (first | lia | omega)) (r1.trans r2.symm) with h | ⟨f, g1, g2, e, g3, g4⟩
      · rw [hbs _ (by (first | lia | omega)), hbs _ (by (first | lia | omega)), h] at hab
        exact absurd rfl hab
      · exact .inr ⟨f, g1, g2, e, g3, g4.trans r1⟩
theorem rch_iff (d : Deed σ n p) {ms bg : List Nat} (hl : ms.length = σ.nodes.length) (hm : ∀ i < σ.nodes.length, ms.getD i 0 = root σ.parent i) : ∀ (k x : Nat), RchP σ bg k x ↔ AbP σ ms bg k x
  | 0, _ => Iff.rfl
  | k + 1, x => by
    have hk : ∀ {i : Nat} {y : Node}, (nds σ)[i]? = some y → rowKids σ i = y.2 := fun {i y} hy => by
      have := d.rows
      rw [← this] at hy
      simp only [rnds, List.getElem?_map, Option.map_eq_some_iff] at hy
      obtain ⟨q, h1, rfl⟩ := hy
      simp [rowKids, h1]
    unfold RchP AbP
    rw [rch_iff d hl hm k x]
    refine or_congr Iff.rfl ?_
    constructor
    · rintro ⟨i, nd, h1, h2, kid, h3, h4⟩
      have hi := lt_of_at h1
      have hkl := kid_lt d.inv h1 kid h3
      rw [nds_len] at hkl
      exact ⟨i, by (first | lia | omega), by rw [hm i hi]; exact h2, kid, by rw [hk h1]; exact h3, by rw [hm kid hkl]; exact (rch_iff d hl hm k _).mp h4⟩
    · rintro ⟨i, h1, h2, kid, h3, h4⟩
      have hi : i < (nds σ).length := by rw [nds_len]; (first | lia | omega)
      have hy : (nds σ)[i]? = some (nds σ)[i] := List.getElem?_eq_getElem hi
      rw [hk hy] at h3
      have hkl := kid_lt d.inv hy kid h3
      rw [nds_len] at hkl
      rw [hm i (by (first | lia | omega))] at h2
      rw [hm kid hkl] at h4
      exact ⟨i, _, hy, h2, kid, h3, (rch_iff d hl hm k _).mpr h4⟩
end
end
section
noncomputable def lawSt : Stmt := prg.main.body.getLast?.getD (.Pass default)
noncomputable def lawB : List Stmt := match lawSt with
  | .FunctionDef _ _ b _ _ _ _ _ _ _ => b
  | _ => []
noncomputable def lawS : Scope := match lawSt with
  | .FunctionDef _ _ _ _ _ _ sc _ _ _ => sc
  | _ => default
abbrev lawEnv (L fa : Addr) (cd : Value) : Env := envOfC (Str.ofString "law") lawS L fa cd
abbrev lawL (ad : Ad) (scr row lap ch mk bf ms fr bg st : LV) : List (Str × LV) := [(Str.ofString "script", scr), (Str.ofString "heap", .ref ad.hp), (Str.ofString "rows", .ref ad.rows), (Str.ofString "pairs", .ref ad.pairs), (Str.ofString "row", row), (Str.ofString "lap", lap), (Str.ofString "changes", ch), (Str.ofString "mark", mk), (Str.ofString "before", bf), (Str.ofString "marks", ms), (Str.ofString "fresh", fr), (Str.ofString "begin", bg), (Str.ofString "steps", st)]
noncomputable def LawDone (w : World) (b₀ : Shared) (Z₀ : Heap) (QF : Flow → Shared → Prop) : Prop := ∀ s, (∀ b o, Z₀.get? b = some o → s.heap.get? b = some o) → s.os = b₀.os → s.gens = b₀.gens → QF (.ret (.bool true)) s
section
variable {w : World} {Z : Heap} {b₀ : Shared} {P P' : Pers} {L a y C I : Addr} {loc loc' : List (Str × LV)} {tmp tmp' : List (Addr × G)} {tt tt' : List (Addr × List LV)} {s s' : Shared} {h' : Heap} {tk : Nat} {g g' : G}
  {A : Around} {E : Value → Shared → Prop} {env : Env} {x : Str} {pos : Pos} {Q : Value → Shared → Prop} {QU : Unit → Shared → Prop} {QF : Flow → Shared → Prop} {n : Nat} {fs : List (Str × Value)} {ad : Ad} {σ : St}
theorem r_neNN {a b : Addr} {ns ms : List Nat} (c : Cfg w Z b₀ P L loc tmp tt s) (r : Room 2 A) (ha : (a, .list (nlv ns)) ∈ tmp ++ P.objs) (hb : (b, .list (nlv ms)) ∈ tmp ++ P.objs) (h : Q (.bool (!decide (ns = ms))) s) : wpAny (model prg w) A (compareOp .NotEq (.ref a) (.ref b)) Q E s :=
  r_neL (ns := toI ns) (ms := toI ms) c r (by rw [← nlv_toI]; exact ha) (by rw [← nlv_toI]; exact hb) (by
    have e : decide (toI ns = toI ms) = decide (ns = ms) := by
      by_cases h : ns = ms
      · rw [h]; simp
      · rw [decide_eq_false h, decide_eq_false fun h2 => h (toI_inj h2)]
    rw [e]; exact h)
theorem r_rangeLit {k : Nat} {m : Int} {t : Tok} (c : Cfg w Z b₀ P L loc tmp tt s) (e : m = (k : Int)) (h : ∀ d s', Cfg w Z b₀ P L loc ((d, .rng ((0 : Nat) : Int) (k : Int)) :: tmp) tt s' → Q (.ref d) s') : wpAny (model prg w) A (call (.type "range") [.int m t]) Q E s := by
  subst e; exact r_range1 c h
theorem wordsF26a : True := by
  k_with "neR" => ((fail_if_success (have := endF26)); (refine r_neNN (by k_extra "cfg") (by k_extra "room") (by k_extra "memP") (by k_extra "memP") ?_))
  k_with "spec" => ((fail_if_success (have := endF26)); ((with_reducible show wpAny _ _ (call (.type "range") [.int 4 _]) _ _ _); refine r_rangeLit (k := 4) (by k_extra "cfg") (by rfl) ?_; intro _ _ _))
  k_with "spec" => ((fail_if_success (have := endF26)); ((with_reducible show wpAny _ _ (call (.ref 249) _) _ _ _); refine reached_spec (by k_extra "cfg") (by assumption) (by k_extra "room") (by assumption) (by assumption) (by assumption) (by k_extra "mem") (by assumption) (by assumption) (by assumption) (by omega) ?_; intro _ _ _ _ _ _))
  k_with "spec" => ((fail_if_success (have := endF26)); ((with_reducible show wpAny _ _ (call (.ref 521) _) _ _ _); refine above_spec (by k_extra "cfg") (by assumption) (by k_extra "room") (by k_extra "mem") (by k_extra "mem") (by assumption) (by assumption) (by assumption) (by assumption) (by assumption) (by assumption) (by omega) ?_; intro _ _ _ _ _ _))
  exact trivial
theorem Cfg.lawDone {Z₀ : Heap} (ret : LawDone w b₀ Z₀ QF) (k : ∀ b o, Z₀.get? b = some o → Z.get? b = some o) (c : Cfg w Z b₀ P L loc tmp tt s) : QF (.ret (.bool true)) s := ret s (fun b o e => c.keep b o (k b o e)) c.os c.gens
set_option maxHeartbeats 8000000 in
theorem law_steps {Z₀ : Heap} {fa ch Dm Db : Addr} {cd : Value} {p : Nat} {ms bg : List Nat} {scr row lap mk0 bf fr st : LV} {wk sn mk : Value} (c : Cfg w Z b₀ (pers ad σ) L (lawL ad scr row lap (.ref ch) mk0 bf (.ref Dm) fr (.ref Db) st) tmp tt s) (B : Base w Z) (r : Room 12 A) (fz : Froz ad Z) (fc : Inst Z ch cChanges (fsCh ad wk sn mk)) (k0 : ∀ b o, Z₀.get? b = some o → Z.get? b = some o) (d : Deed σ 9 p) (hw : σ.waiting = []) (h1 : MPre σ ms) (h2 : MClosed σ ms)
    (hDm : (Dm, .list (nlv ms)) ∈ tmp) (hDb : (Db, .list (nlv bg)) ∈ tmp) (hcl : ∀ x ∈ bg, x < σ.nodes.length ∧ root σ.parent x = x) (hll : bg.length ≤ 12) (ret : LawDone w b₀ Z₀ QF) :
    wpAny (model prg w) A (execs (lawB.drop 14) (lawEnv L fa cd)) QF F0 s := by
  obtain ⟨hl, hm⟩ := d.marks hw h1 h2
  have v := d.inv
  have h9 := d.n
  have hrl := d.rlen
  have hl2 : σ.rows.length = ms.length := by (first | lia | omega)
  have h12 : ms.length ≤ 12 := by (first | lia | omega)
  have hbm : ∀ x ∈ bg, x < 12 := fun x hx => by have := (hcl x hx).1; (first | lia | omega)
  have hms : ∀ x ∈ ms, x < 12 := fun x hx => by
    obtain ⟨i, hi⟩ := List.mem_iff_getElem?.mp hx
    have hi2 := (List.getElem?_eq_some_iff.mp hi).1
    have := h1.le i hi2
    simp only [List.getD, hi, Option.getD_some] at this
    (first | lia | omega)
  have hkid : ∀ p ∈ σ.rows, (∀ kid ∈ p.2.2, kid < ms.length) ∧ p.2.2.length ≤ 2 := fun p hp => by
    obtain ⟨i, hi⟩ := List.mem_iff_getElem?.mp hp
    have hy : (nds σ)[i]? = some p.2 := by rw [← d.rows]; simp [rnds, hi]
    have hk := v.kids _ _ hy
    have hi2 := (List.getElem?_eq_some_iff.mp hi).1
    exact ⟨fun kid hkd => by have := hk.1 kid hkd; (first | lia | omega), hk.2⟩
  conv in (lawB.drop 14) => whnf
  unfold lawEnv
  conv in lawS => whnf
  k_extra "go"
  rename_i Dr s1 c8 I1 s2 c9
  replace c9 : Cfg w Z b₀ (pers ad σ) L (lawL ad scr row lap (.ref ch) mk0 bf (.ref Dm) fr (.ref Db) st) ((I1, rgO 0 4 0) :: tmp) tt s2 := c9.sub (by k_extra "subl") fun p hp => List.mem_append_left _ hp
  refine r_forC (fun lv => lawL ad scr row lap (.ref ch) mk0 bf (.ref Dm) fr (.ref Db) lv) nx_rg r.h ?_ ?_ ?_ c9
  · intro i; trivial
  · intro i s v' l lv hx hv c
    refine turn_cut fun K hK => ?_
    obtain ⟨hi, rfl⟩ := rngL_at hx
    rw [Int.zero_add] at hv
    obtain ⟨t, rfl⟩ := hv
    have hi100 : i ≤ 100 := by (first | lia | omega)
    k_extra "go"
    all_goals rename ∀ x, x ∈ _ ↔ RchP _ _ _ x => e1
    all_goals rename ∀ x, x ∈ _ ↔ AbP _ _ _ _ x => e2
    all_goals have hEq := Up.ext (by assumption) (by assumption) (fun x => (e1 x).trans ((rch_iff d hl hm _ x).trans (e2 x).symm))
    all_goals first | exact absurd hEq (by assumption) | (refine hK _ _ ?_; k_extra "body")
  · intro lv s c
    k_extra "go"
    exact c.lawDone ret k0
end
theorem endF26 : True := trivial
end
section
section
variable {w : World} {Z : Heap} {b₀ : Shared} {P P' : Pers} {L a y C I : Addr} {loc loc' : List (Str × LV)} {tmp tmp' : List (Addr × G)} {tt tt' : List (Addr × List LV)} {s s' : Shared} {h' : Heap} {tk : Nat} {g g' : G}
  {A : Around} {E : Value → Shared → Prop} {env : Env} {x : Str} {pos : Pos} {Q : Value → Shared → Prop} {QU : Unit → Shared → Prop} {QF : Flow → Shared → Prop} {n : Nat} {fs : List (Str × Value)} {ad : Ad} {σ : St}
theorem wordsF27a : True := by
  k_with "neR" => ((fail_if_success (have := endF27)); (refine r_neNN (by k_extra "cfg") (by k_extra "room") (by k_extra "memP") (by k_extra "memP") ?_))
  k_with "spec" => ((fail_if_success (have := endF27)); ((with_reducible show wpAny _ _ (call (.ref 494) _) _ _ _); first
      | (refine notch2 (by k_extra "cfg") (by assumption) (by k_extra "room") (by first | assumption | omega) (by assumption) ?_; intros)
      | (refine notch4 (by k_extra "cfg") (by assumption) (by k_extra "room") (by first | assumption | omega) (by assumption) ?_; intros)
      | (refine notch_spec (by k_extra "cfg") (by assumption) (by k_extra "room") (by first | assumption | omega) (by first | assumption | omega) (by assumption) ?_; intros)))
  k_with "opI" => ((fail_if_success (have := endF27)); ((with_reducible show wpAny _ _ (binaryOp .Add (.int 1 _) (.int (Nat.cast _) _)) _ _ _); refine r_add1 (by k_extra "cfg") ?_; intro _ _ _))
  k_with "spec" => ((fail_if_success (have := endF27)); ((with_reducible show wpAny _ _ (call (.ref 244) _) _ _ _); first
      | (refine changed_spec (by k_extra "cfg") (by assumption) (by k_extra "room") (by assumption) (by assumption) (by assumption) (by k_extra "mem") (by assumption) ?_; intro _ _ _ _ _ _)
      | (refine changed_spec (m := 0) (e := 0) (by k_extra "cfg") (by assumption) (by k_extra "room") (by assumption) (by assumption) (by assumption) (by exact List.mem_cons_self) (by exact Nat.zero_le _) ?_; intro _ _ _ _ _ _)))
  exact trivial
theorem Deed.spot {n p m : Nat} (d : Deed σ n p) : Deed { σ with spot := m } n p := ⟨d.inv.spot, d.rows, d.n, d.p, d.c, d.pos⟩
theorem MPre.spot {ms : List Nat} {m : Nat} (h : MPre σ ms) : MPre { σ with spot := m } ms := ⟨h.len, h.le, h.sound⟩
theorem MClosed.spot {ms : List Nat} {m : Nat} (h : MClosed σ ms) : MClosed { σ with spot := m } ms := ⟨h.told, h.cong⟩
theorem getD_mem {l : List Nat} {k : Nat} (h : k < l.length) : l.getD k 0 ∈ l := by
  simp only [List.getD, List.getElem?_eq_getElem h]; exact List.getElem_mem h
noncomputable def lawAt (i : Nat) : Stmt := (lawB[i]?).getD (.Pass default)
theorem cut11 : lawB.drop 11 = lawAt 11 :: lawAt 12 :: lawAt 13 :: lawB.drop 14 := by rfl
set_option maxHeartbeats 8000000 in
theorem law_check {Z₀ : Heap} {fa ch Dm Df Dcl mt : Addr} {cd : Value} {p N0 E0 : Nat} {ms bs fr cs p0 : List Nat} {scr row lap bf bg st : LV} {wk sn mk : Value}
    (c : Cfg w Z b₀ (pers ad σ) L (lawL ad scr row lap (.ref ch) (.ref mt) bf (.ref Dm) (.ref Df) bg st) ((L + 1 + 1, .cell (.ref Dcl)) :: (L + 1, .cell (.ref ad.stick)) :: tmp) tt s) (B : Base w Z) (r : Room 12 A) (fz : Froz ad Z) (fc : Inst Z ch cChanges (fsCh ad wk sn mk)) (k0 : ∀ b o, Z₀.get? b = some o → Z.get? b = some o) (d : Deed σ 9 p) (hw : σ.waiting = []) (h1 : MPre σ ms) (h2 : MClosed σ ms) (hs : σ.spot ≤ 50000)
    (hDm : (Dm, .list (nlv ms)) ∈ tmp) (hDf : (Df, .list (nlv fr)) ∈ tmp) (hDcl : (Dcl, .list (nlv cs)) ∈ tmp) (hmt : (mt, [LV.int (N0 : Int), .int (E0 : Int)]) ∈ tt) (hN : N0 ≤ σ.nodes.length) (hb : bs.length = N0) (hbs : ∀ i < N0, bs.getD i 0 = root p0 i) (hch : Ch σ N0 E0 p0)
    (uf : Up fr) (ef : ∀ x, x ∈ fr ↔ x ∈ ms ∧ turnB bs ms x = true) (uc : Up cs) (ec : ∀ x, x ∈ cs ↔ x ∈ ms) (ret : LawDone w b₀ Z₀ QF) :
    wpAny (model prg w) A (execs (lawB.drop 11) (lawEnv L fa cd)) QF F0 s := by
  obtain ⟨hl, hm⟩ := d.marks hw h1 h2
  have v := d.inv
  have h9 := d.n
  have hc5 := d.c
  have hms : ∀ x, x ∈ ms → x < σ.nodes.length ∧ root σ.parent x = x := fun x hx => by
    obtain ⟨i, hi⟩ := List.mem_iff_getElem?.mp hx
    have hi2 := (List.getElem?_eq_some_iff.mp hi).1
    have hr : root σ.parent i = x := by rw [← hm i (by (first | lia | omega))]; simp [List.getD, hi]
    rw [← hr]
    exact ⟨root_lt (by (first | lia | omega)), root_at (root_root v.pw.falls i)⟩
  have hin : ∀ n, n < σ.nodes.length → root σ.parent n ∈ ms := fun n h1 => by
    rw [← hm n h1]
    have : n < ms.length := by (first | lia | omega)
    simp only [List.getD, List.getElem?_eq_getElem this]; exact List.getElem_mem this
  have hcs0 : 0 < cs.length := List.length_pos_of_mem ((ec _).mpr (hin 0 d.pos))
  have hcs9 : cs.length ≤ 12 := by
    have := Up.len (m := 0) (n := 9) uc (fun _ _ => Nat.zero_le _) fun x hx => by have := (hms x ((ec x).mp hx)).1; (first | lia | omega)
    (first | lia | omega)
  have hcs6 : cs.length ≤ 1000000 := by (first | lia | omega)
  have hfr9 : fr.length ≤ 12 := by
    have := Up.len (m := 0) (n := 9) uf (fun _ _ => Nat.zero_le _) fun x hx => by have := (hms x ((ef x).mp hx).1).1; (first | lia | omega)
    (first | lia | omega)
  have tail : ∀ m (bgl : List Nat) Dbg tmp' tt' s', Cfg w Z b₀ (pers ad { σ with spot := m }) L (lawL ad scr row lap (.ref ch) (.ref mt) bf (.ref Dm) (.ref Df) (.ref Dbg) st) tmp' tt' s' → (Dm, .list (nlv ms)) ∈ tmp' → (Dbg, .list (nlv bgl)) ∈ tmp' → (∀ x ∈ bgl, x ∈ ms) → bgl.length ≤ 12 →
      wpAny (model prg w) A (execs (lawB.drop 14) (lawEnv L fa cd)) QF F0 s' := fun m bgl Dbg tmp' tt' s' c' q1 q2 q3 q4 =>
    law_steps c' B r fz fc k0 d.spot hw h1.spot h2.spot q1 q2 (fun x hx => hms x (q3 x hx)) q4 ret
  have hs1 : σ.spot ≤ 100000 := by (first | lia | omega)
  have hs2 : σ.spot + 1 ≤ 100000 := by (first | lia | omega)
  rw [cut11]
  generalize lawB.drop 14 = rest at *
  conv in lawAt 11 => whnf
  conv in lawAt 12 => whnf
  conv in lawAt 13 => whnf
  unfold lawEnv
  conv in lawS => whnf
  k_extra "go"
  · refine r_LCgo nx_rg r.h (fun i P acc => P = pers ad { σ with spot := σ.spot + 1 + 1 + i } ∧ i ≤ 2 ∧ ∃ ks : List Nat, acc = nlv ks ∧ ks.length = i ∧ ∀ x ∈ ks, x ∈ cs) (by decide +kernel) rfl rfl ?_ ?_ ?_ ?_ ?_ (by assumption)
    · intro D fo i P acc j; trivial
    · rintro i P acc ⟨_, h0, ks, rfl, _, _⟩
      rw [nlv_len]; (first | lia | omega)
    · rintro C D fo i P acc s l hl ⟨rfl, _, ks, rfl, h1, h2⟩ c
      obtain ⟨hi, rfl⟩ := rngL_at hl
      have hsi : σ.spot + 1 + 1 + i ≤ 100000 := by (first | lia | omega)
      refine wpAny_tests_nil ?_
      rw [if_pos rfl]
      k_extra "go"
      refine' TurnQ.mk ?v ?j ?c ?h ?t
      case v => k_extra "lvis"
      case c => k_extra "cfg"
      case h => k_extra "suf"
      case t => k_extra "suf"
      refine ⟨rfl, by (first | lia | omega), ks ++ [_], (nlv_snoc _ _).symm, by simp [h1], fun x hx => ?_⟩
      rcases List.mem_append.mp hx with hx | hx
      · exact h2 x hx
      · rw [List.mem_singleton.mp hx]
        exact getD_mem (by assumption)
    · rintro C D fo P acc s lv hb ⟨rfl, h3, ks, rfl, h1, h2⟩ c
      refine' post_storeS (z := Str.ofString "begin") hb c ?U ?_
      case U => k_extra "put"
      intro s' c'
      rw [rngL_len] at h1
      k_extra "go"
      refine tail _ ks _ _ _ _ c' ?m1 ?m2 (fun x hx => (ec x).mp (h2 x hx)) (by (first | lia | omega))
      case m1 => k_extra "mem"
      case m2 => k_extra "mem"
    · exact ⟨rfl, by (first | lia | omega), [], rfl, rfl, by simp⟩
  · refine tail _ fr Df _ _ _ (by k_extra "cfg") ?m3 ?m4 (fun x hx => ((ef x).mp hx).1) hfr9
    case m3 => k_extra "mem"
    case m4 => k_extra "mem"
  · exfalso
    rename ¬ _ = cs => hne
    rename ∀ x, x ∈ _ ↔ (∃ n, 0 ≤ n ∧ _) ∨ _ => e1
    refine hne (Up.ext (by assumption) uc fun x => (e1 x).trans (Iff.trans ?_ (ec x).symm))
    constructor
    · rintro (⟨n, _, q1, rfl⟩ | ⟨f, q1, _, e, q2, rfl⟩)
      · exact hin n q1
      · exact hin _ (v.edgB e (List.mem_of_getElem? q2)).1
    · intro hx
      obtain ⟨i, hi⟩ := List.mem_iff_getElem?.mp hx
      have hi2 := (List.getElem?_eq_some_iff.mp hi).1
      exact .inl ⟨i, Nat.zero_le _, by (first | lia | omega), by rw [← hm i (by (first | lia | omega))]; simp [List.getD, hi]⟩
  · exfalso
    rename ¬ _ = fr => hne
    rename ∀ x, x ∈ _ ↔ (∃ n, N0 ≤ n ∧ _) ∨ _ => e1
    exact hne (Up.ext (by assumption) uf fun x => (e1 x).trans ((turn_iff v hl hm hb hbs hch).trans (ef x).symm))
end
theorem endF27 : True := trivial
end
section
section
variable {w : World} {Z : Heap} {b₀ : Shared} {P P' : Pers} {L a y C I : Addr} {loc loc' : List (Str × LV)} {tmp tmp' : List (Addr × G)} {tt tt' : List (Addr × List LV)} {s s' : Shared} {h' : Heap} {tk : Nat} {g g' : G}
  {A : Around} {E : Value → Shared → Prop} {env : Env} {x : Str} {pos : Pos} {Q : Value → Shared → Prop} {QU : Unit → Shared → Prop} {QF : Flow → Shared → Prop} {n : Nat} {fs : List (Str × Value)} {ad : Ad} {σ : St}
theorem Deed.mono {n p n' p' : Nat} (d : Deed σ n p) (hn : n ≤ n') (hp : p ≤ p') : Deed σ n' p' := ⟨d.inv, d.rows, Nat.le_trans d.n hn, Nat.le_trans d.p hp, d.c, d.pos⟩
theorem moreD {n p : Nat} (c : Cfg w Z b₀ (pers ad σ) L loc tmp tt s) (B : Base w Z) (r : Room 9 A) (fz : Froz ad Z) (d : Deed σ n p) (h9 : n < 12) (hs : σ.spot ≤ 90000)
    (ret : ∀ σ' s', Deed σ' (n + 1) p → (∀ N0 E0 p0, Ch σ N0 E0 p0 → Ch σ' N0 E0 p0) → σ'.spot ≤ σ.spot + 3 → Cfg w Z b₀ (pers ad σ') L loc tmp tt s' → Q .none s') :
    wpAny (model prg w) A (call (.ref 504) [.ref ad.stick, .ref ad.hp, .ref ad.rows]) Q E s := by
  have hn := d.n
  exact more_spec c B r fz d.inv d.rlen d.pos hs d.c (by (first | lia | omega)) fun σ' s' hm hsp c' => ret σ' s' (d.more h9 hm).1 (d.more h9 hm).2 hsp c'
theorem toldD {n p : Nat} (c : Cfg w Z b₀ (pers ad σ) L loc tmp tt s) (B : Base w Z) (r : Room 6 A) (fz : Froz ad Z) (d : Deed σ n p) (h9 : p < 12) (hs : σ.spot ≤ 90000)
    (ret : ∀ σ' s', Deed σ' n (p + 1) → (∀ N0 E0 p0, Ch σ N0 E0 p0 → Ch σ' N0 E0 p0) → σ'.spot ≤ σ.spot + 3 → Cfg w Z b₀ (pers ad σ') L loc tmp tt s' → Q .none s') :
    wpAny (model prg w) A (call (.ref 511) [.ref ad.stick, .ref ad.hp, .ref ad.rows, .ref ad.pairs]) Q E s := by
  have hp := d.p
  refine told_spec c B r fz d.inv d.rlen d.pos hs d.c (by (first | lia | omega)) fun i j pt σ' s' hi hj hJ c' => ?_
  have k := hJ.keep.2.2.2.1
  dsimp only at k
  exact ret σ' s' (d.told h9 hi hj hJ).1 (d.told h9 hi hj hJ).2 (by (first | lia | omega)) c'
theorem settleD {n p : Nat} (c : Cfg w Z b₀ (pers ad σ) L loc tmp tt s) (B : Base w Z) (r : Room 7 A) (fz : Froz ad Z) (d : Deed σ n p)
    (ret : ∀ σ' s', Deed σ' n p → (∀ N0 E0 p0, Ch σ N0 E0 p0 → Ch σ' N0 E0 p0) → σ'.spot = σ.spot → σ'.waiting = [] → Cfg w Z b₀ (pers ad σ') L loc tmp tt s' → Q .none s') : wpAny (model prg w) A (call (.ref 435) [.ref ad.hp]) Q E s := by
  refine settle_spec (T := prs σ) c B r fz (fun σ' => Deed σ' n p ∧ (∀ N0 E0 p0, Ch σ N0 E0 p0 → Ch σ' N0 E0 p0) ∧ σ'.spot = σ.spot ∧ prs σ' = prs σ) (fun σ' h => h.2.2.2 ▸ h.1.inv) (fun σ1 ws k σ2 h1 e hl => ?_) ⟨d, fun _ _ _ h => h, rfl, rfl⟩ fun σ' s' h hw c' => ret σ' s' h.1 h.2.1 h.2.2.1 hw c'
  obtain ⟨d1, ch1, sp1, pr1⟩ := h1
  have q := d1.look e hl
  have kp := hl.keep
  dsimp only at kp
  exact ⟨q.1, fun _ _ _ h => q.2 _ _ _ (ch1 _ _ _ h), kp.2.2.2.1.trans sp1, by rw [← pr1]; unfold prs; rw [kp.2.2.1]⟩
theorem marksD {n p : Nat} (c : Cfg w Z b₀ (pers ad σ) L loc tmp tt s) (B : Base w Z) (r : Room 6 A) (d : Deed σ n p) (h9 : n ≤ 12) (p9 : p ≤ 12)
    (ret : ∀ D ms s', MPre σ ms → MClosed σ ms → Cfg w Z b₀ (pers ad σ) L loc ((D, .list (nlv ms)) :: tmp) tt s' → Q (.ref D) s') :
    wpAny (model prg w) A (call (.ref 499) [.ref ad.rows, .ref ad.pairs]) Q E s := by
  have h1 := d.n
  have h2 := d.p
  have h3 := d.rlen
  refine marks_spec c B r (by (first | lia | omega)) (by (first | lia | omega)) (fun i x hx => d.inv.kids i x (by rw [← d.rows]; exact hx)) (fun q hq => ?_) ret
  have := d.inv.told q.2 (List.mem_map.mpr ⟨q, hq, rfl⟩)
  rw [h3]; exact ⟨this.1, this.2.1⟩
theorem wordsF28a : True := by
  k_with "spec" => ((fail_if_success (have := endF28)); ((with_reducible show wpAny _ _ (call (.ref 494) _) _ _ _); first
      | (refine notch2 (by k_extra "cfg") (by assumption) (by k_extra "room") (by first | assumption | omega) (by assumption) ?_; intros)
      | (refine notch4 (by k_extra "cfg") (by assumption) (by k_extra "room") (by first | assumption | omega) (by assumption) ?_; intros)
      | (refine notch_spec (by k_extra "cfg") (by assumption) (by k_extra "room") (by first | assumption | omega) (by first | assumption | omega) (by assumption) ?_; intros)))
  k_with "opI" => ((fail_if_success (have := endF28)); ((with_reducible show wpAny _ _ (binaryOp .Add (.int 1 _) (.int (Nat.cast _) _)) _ _ _); refine r_add1 (by k_extra "cfg") ?_; intro _ _ _))
  k_with "spec" => ((fail_if_success (have := endF28)); ((with_reducible show wpAny _ _ (call (.ref 504) _) _ _ _); refine moreD (by k_extra "cfg") (by assumption) (by k_extra "room") (by assumption) (by first | assumption | exact Deed.spot (by assumption)) (by first | assumption | omega) (by first | assumption | (dsimp only; omega)) ?_; intro _ _ _ _ _ _))
  k_with "spec" => ((fail_if_success (have := endF28)); ((with_reducible show wpAny _ _ (call (.ref 511) _) _ _ _); refine toldD (by k_extra "cfg") (by assumption) (by k_extra "room") (by assumption) (by first | assumption | exact Deed.spot (by assumption)) (by first | assumption | omega) (by first | assumption | (dsimp only; omega)) ?_; intro _ _ _ _ _ _))
  k_with "spec" => ((fail_if_success (have := endF28)); ((with_reducible show wpAny _ _ (call (.ref 435) _) _ _ _); refine settleD (by k_extra "cfg") (by assumption) (by k_extra "room") (by assumption) (by first | assumption | exact Deed.spot (by assumption)) ?_; intro _ _ _ _ _ _ _))
  k_with "spec" => ((fail_if_success (have := endF28)); ((with_reducible show wpAny _ _ (call (.ref 499) _) _ _ _); refine marksD (by k_extra "cfg") (by assumption) (by k_extra "room") (by assumption) (by omega) (by omega) ?_; intro _ _ _ _ _ _))
  exact trivial
theorem r_assignRR {x y : Str} {px py : Pos} {t : Addr} {k} {b d : Addr} (c : Cfg w Z b₀ P L loc tmp tt s) (hh : A.handled = none) (ht : (t, [.ref b, .ref d]) ∈ tt ++ P.tups)
    (h : ∀ s', Cfg w Z b₀ P L loc tmp tt s' → wpAny (model prg w) A (storeName env x (.ref b)) (fun _ s₁ => wpAny (model prg w) A (storeName env y (.ref d)) QU E s₁) E s') :
    wpAny (model prg w) A (assign (.Tuple [.Name x px, .Name y py] k pos) env (.ref t)) QU E s := r_assign2T c hh ht fun v1 v2 s' h1 h2 c' => by cases h1; cases h2; exact h s' c'
theorem wordsF28b : True := by
  k_with "asg" => ((fail_if_success (have := endF28)); (refine r_assignRR (by k_extra "cfg") (by k_extra "hh") (by k_extra "memTT") ?_; intro _ _))
  k_with "spec" => ((fail_if_success (have := endF28)); ((with_reducible show wpAny _ _ (call (.ref 516) _) _ _ _); refine turned_spec (by k_extra "cfg") (by assumption) (by k_extra "room") (by k_extra "mem") (by k_extra "mem") (by assumption) (by assumption) ?_; intro _ _ _ _ _ _))
  k_with "spec" => ((fail_if_success (have := endF28)); ((with_reducible show wpAny _ _ (call (.builtin "sorted") _) _ _ _); (refine r_sortedSet (by k_extra "cfg") (by exact Room.h (by assumption)) (by assumption) ?_; intro _ _ _)))
  exact trivial
theorem perm32 {α : Type} (a b c d e : α) (t : List α) : (d :: e :: a :: b :: c :: t).Perm (a :: b :: c :: d :: e :: t) := (List.perm_append_comm (l₁ := [d, e]) (l₂ := [a, b, c])).append_right t
theorem cut7 : lawB.drop 7 = lawAt 7 :: lawAt 8 :: lawAt 9 :: lawAt 10 :: lawB.drop 11 := by rfl
inductive JD (ad : Ad) (L : Addr) (scr row ch mt bf lms lfr bg st lcl : LV) (tmp : List (Addr × G)) (tt : List (Addr × List LV)) (N0 E0 : Nat) (p0 : List Nat) (i : Nat) (P' : Pers) (loc' : List (Str × LV)) (tmp' : List (Addr × G)) (tt' : List (Addr × List LV)) : Prop
  | mk (h1 : tt' = tt) (h2 : tmp' = (L + 1 + 1, .cell lcl) :: (L + 1, .cell (.ref ad.stick)) :: tmp) (σi : St) (lv : LV) (h3 : P' = pers ad σi) (h4 : loc' = lawL ad scr row lv ch mt bf lms lfr bg st) (h5 : Deed σi (5 + i) (1 + i)) (h6 : Ch σi N0 E0 p0) (h7 : σi.spot ≤ 101 + 10 * i) : JD ad L scr row ch mt bf lms lfr bg st lcl tmp tt N0 E0 p0 i P' loc' tmp' tt'
set_option maxHeartbeats 8000000 in
theorem law_deeds {Z₀ : Heap} {fa ch Dbf mt : Addr} {cd : Value} {N0 E0 : Nat} {bs p0 : List Nat} {scr row lap lms lfr bg st lcl : LV} {wk sn mk : Value}
    (c : Cfg w Z b₀ (pers ad σ) L (lawL ad scr row lap (.ref ch) (.ref mt) (.ref Dbf) lms lfr bg st) ((L + 1 + 1, .cell lcl) :: (L + 1, .cell (.ref ad.stick)) :: tmp) tt s) (B : Base w Z) (r : Room 12 A) (fz : Froz ad Z) (fc : Inst Z ch cChanges (fsCh ad wk sn mk)) (k0 : ∀ b o, Z₀.get? b = some o → Z.get? b = some o) (d : Deed σ 5 1) (hs : σ.spot ≤ 100)
    (hDbf : (Dbf, .list (nlv bs)) ∈ tmp) (hmt : (mt, [LV.int (N0 : Int), .int (E0 : Int)]) ∈ tt) (hb : bs.length = N0) (hbs : ∀ i < N0, bs.getD i 0 = root p0 i) (hch : Ch σ N0 E0 p0) (ret : LawDone w b₀ Z₀ QF) :
    wpAny (model prg w) A (execs (lawB.drop 7) (lawEnv L fa cd)) QF F0 s := by
  have hs1 : σ.spot ≤ 100000 := by (first | lia | omega)
  have hc5 := d.c
  rw [cut7]
  have tail := @law_check w Z b₀
  generalize lawB.drop 11 = rest at *
  conv in lawAt 7 => whnf
  conv in lawAt 8 => whnf
  conv in lawAt 9 => whnf
  conv in lawAt 10 => whnf
  unfold lawEnv
  conv in lawS => whnf
  k_extra "go"
  rename_i v t0 s0 hv c7 _ _ _ _ s1 c8 I1 s2 c9
  replace c9 : Cfg w Z b₀ (pers ad { σ with spot := σ.spot + 1 }) L (lawL ad scr row lap (.ref ch) (.ref mt) (.ref Dbf) lms lfr bg st) ((I1, rgO 0 (v + 1) 0) :: (L + 1 + 1, .cell lcl) :: (L + 1, .cell (.ref ad.stick)) :: tmp) tt s2 := c9.sub (by k_extra "subl") fun p hp => List.mem_append_left _ hp
  refine r_for nx_rg r.h (JD ad L scr row (.ref ch) (.ref mt) (.ref Dbf) lms lfr bg st lcl tmp tt N0 E0 p0) ?_ ?_ ?_ ⟨rfl, rfl, { σ with spot := σ.spot + 1 }, lap, rfl, rfl, d.spot, ⟨hch.a, hch.b, hch.c, hch.d⟩, by dsimp only; (first | lia | omega)⟩ c9
  · intros; trivial
  · rintro i P' loc' tmp' tt' s v' l hx hv ⟨rfl, rfl, σi, lv, rfl, rfl, di, chi, hsi⟩ c
    refine turn_cut fun K hK => ?_
    obtain ⟨hi, rfl⟩ := rngL_at hx
    obtain ⟨t, rfl⟩ := hv
    have hsi2 : σi.spot ≤ 100000 := by (first | lia | omega)
    have hci := di.c
    have chi2 : Ch { σi with spot := σi.spot + 1 } N0 E0 p0 := ⟨chi.a, chi.b, chi.c, chi.d⟩
    have dS : Deed { σi with spot := σi.spot + 1 } (5 + i) (1 + i) := di.spot
    have hsS : ({ σi with spot := σi.spot + 1 } : St).spot ≤ 90000 := by dsimp only; (first | lia | omega)
    clear tail d hch di chi
    k_extra "go"
    · rename ∀ _ _ _, Ch _ _ _ _ → Ch _ _ _ _ => chf
      rename Deed _ (5 + _ + 1) _ => d2
      refine hK _ _ ?_
      refine' BodyQ.next (tmp := (L + 1 + 1, .cell lcl) :: (L + 1, .cell (.ref ad.stick)) :: tmp) ?c1 ?h1 ?t1 ⟨rfl, rfl, _, _, rfl, rfl, d2.mono (by (first | lia | omega)) (by (first | lia | omega)), chf _ _ _ chi2, ?sp1⟩
      case c1 => k_extra "cfg"
      case h1 => k_extra "suf"
      case t1 => k_extra "suf"
      dsimp only at *; (first | lia | omega)
    · rename ∀ _ _ _, Ch _ _ _ _ → Ch _ _ _ _ => chf
      rename Deed _ _ (1 + _ + 1) => d2
      refine hK _ _ ?_
      refine' BodyQ.next (tmp := (L + 1 + 1, .cell lcl) :: (L + 1, .cell (.ref ad.stick)) :: tmp) ?c2 ?h2 ?t2 ⟨rfl, rfl, _, _, rfl, rfl, d2.mono (by (first | lia | omega)) (by (first | lia | omega)), chf _ _ _ chi2, ?sp2⟩
      case c2 => k_extra "cfg"
      case h2 => k_extra "suf"
      case t2 => k_extra "suf"
      dsimp only at *; (first | lia | omega)
  · rintro P' loc' tmp' tt' s ⟨rfl, rfl, σi, lv, rfl, rfl, di, chi, hsi⟩ c
    rw [rngL_len] at di hsi
    k_extra "go"
    rename MPre _ _ => h1
    rename MClosed _ _ => h2
    rename _ = [] => hw
    rename ∀ _ _ _, Ch _ _ _ _ → Ch _ _ _ _ => chf
    rename Deed _ _ _ => d2
    rename List Nat => ms
    rename _ = St.spot _ => hsp
    have ch2 := chf _ _ _ chi
    obtain ⟨hl, hm⟩ := d2.marks hw h1 h2
    have h9 := d2.n
    have hbl : bs.length ≤ ms.length := by have := ch2.d.2; (first | lia | omega)
    have h12 : ms.length ≤ 12 := by (first | lia | omega)
    have h64 : (setOf (toI ms)).length < 64 := by
      have := len_setOf (l := toI ms)
      simp only [toI, List.length_map] at this
      simp only [toI]; (first | lia | omega)
    obtain ⟨cs, e1, e2, e3, e4⟩ := sorted_set ms
    k_extra "go"
    rename_i s9 c9
    rename Up _ => uf
    rename ∀ x, x ∈ _ ↔ x ∈ ms ∧ _ => ef
    rw [e1, ← nlv_toI] at c9
    refine tail (c9.perm (perm32 _ _ _ _ _ _)) B r fz fc k0 (d2.mono (p' := 9) (by (first | lia | omega)) (by (first | lia | omega))) hw h1 h2 (by (first | lia | omega)) ?q1 ?q2 ?q3 ?q4 ch2.d.2 hb hbs ch2 uf ef e2 e3 ret
    case q1 => k_extra "mem"
    case q2 => k_extra "mem"
    case q3 => k_extra "mem"
    case q4 => exact .tail _ (by assumption)
end
theorem endF28 : True := trivial
end
section
section
variable {w : World} {Z : Heap} {b₀ : Shared} {P P' : Pers} {L a y C I : Addr} {loc loc' : List (Str × LV)} {tmp tmp' : List (Addr × G)} {tt tt' : List (Addr × List LV)} {s s' : Shared} {h' : Heap} {tk : Nat} {g g' : G}
  {A : Around} {E : Value → Shared → Prop} {env : Env} {x : Str} {pos : Pos} {Q : Value → Shared → Prop} {QU : Unit → Shared → Prop} {QF : Flow → Shared → Prop} {n : Nat} {fs : List (Str × Value)} {ad : Ad} {σ : St}
theorem wordsF29a : True := by
  k_with "spec" => ((fail_if_success (have := endF29)); ((with_reducible show wpAny _ _ (call (.ref 494) _) _ _ _); (refine notch2 (by k_extra "cfg") (by assumption) (by k_extra "room") (by first | assumption | omega) (by assumption) ?_; intros)))
  k_with "opI" => ((fail_if_success (have := endF29)); ((with_reducible show wpAny _ _ (binaryOp .Add (.int 2 _) (.int (Nat.cast _) _)) _ _ _); refine r_add2 (by k_extra "cfg") ?_; intro _ _ _))
  k_with "spec" => ((fail_if_success (have := endF29)); ((with_reducible show wpAny _ _ (call (.ref 504) _) _ _ _); refine moreD (by k_extra "cfg") (by assumption) (by k_extra "room") (by assumption) (by first | assumption | exact Deed.spot (by assumption)) (by first | assumption | omega) (by first | assumption | omega | (dsimp only; omega)) ?_; intro _ _ _ _ _ _))
  k_with "spec" => ((fail_if_success (have := endF29)); ((with_reducible show wpAny _ _ (call (.ref 511) _) _ _ _); refine toldD (by k_extra "cfg") (by assumption) (by k_extra "room") (by assumption) (by first | assumption | exact Deed.spot (by assumption)) (by first | assumption | omega) (by first | assumption | omega | (dsimp only; omega)) ?_; intro _ _ _ _ _ _))
  k_with "spec" => ((fail_if_success (have := endF29)); ((with_reducible show wpAny _ _ (call (.ref 435) _) _ _ _); refine settleD (by k_extra "cfg") (by assumption) (by k_extra "room") (by assumption) (by first | assumption | exact Deed.spot (by assumption)) ?_; intro _ _ _ _ _ _ _))
  k_with "spec" => ((fail_if_success (have := endF29)); ((with_reducible show wpAny _ _ (call (.ref 499) _) _ _ _); refine marksD (by k_extra "cfg") (by assumption) (by k_extra "room") (by assumption) (by omega) (by omega) ?_; intro _ _ _ _ _ _))
  k_with "spec" => ((fail_if_success (have := endF29)); ((with_reducible show wpAny _ _ (call (.ref 269) _) _ _ _); refine changes_make (by k_extra "cfg") (by assumption) (by k_extra "room") (by assumption) (by assumption) ?_; intro _ _ _ _ _ _ _ _ _ _))
  k_with "spec" => ((fail_if_success (have := endF29)); ((with_reducible show wpAny _ _ (call (.ref 376) _) _ _ _); refine hsize_spec (by k_extra "cfg") (by assumption) (by k_extra "room") (by assumption) (by assumption) ?_; intro _ _ _))
  exact trivial
theorem cut5 : lawB.drop 5 = lawAt 5 :: lawAt 6 :: lawB.drop 7 := by rfl
theorem cut3 : lawB.drop 3 = lawAt 3 :: lawAt 4 :: lawB.drop 5 := by rfl
theorem perm_freeze {α : Type} (a b c d e : α) (t : List α) : ((d :: e :: a :: t) ++ [b, c]).Perm (a :: b :: c :: d :: e :: t) := by
  have h1 : ((d :: e :: a :: t) ++ [b, c]).Perm ([b, c] ++ (d :: e :: a :: t)) := List.perm_append_comm
  have h2 : ([b, c, d, e] ++ [a]).Perm ([a] ++ [b, c, d, e]) := List.perm_append_comm
  exact h1.trans (h2.append_right t)
theorem nodC (ad : Ad) (wk sn mk : Value) : ((fsCh ad wk sn mk).map (·.1)).Nodup := by simp only [fsCh, List.map_cons, List.map_nil]; decide +kernel
theorem edges_few {n p : Nat} (d : Deed σ n p) : σ.edges.length ≤ 1000000 := by
  have e1 := d.inv.edgL
  have e2 := d.inv.habM
  have e3 := d.inv.n12
  have e4 := d.inv.p12
  (first | lia | omega)
set_option maxHeartbeats 8000000 in
theorem law_turn {Z₀ : Heap} {fa : Addr} {cd : Value} {scr row lap ch mk bf lms lfr bg st lcl : LV}
    (c : Cfg w Z b₀ (pers ad σ) L (lawL ad scr row lap ch mk bf lms lfr bg st) ((L + 1 + 1, .cell lcl) :: (L + 1, .cell (.ref ad.stick)) :: tmp) tt s) (B : Base w Z) (r : Room 12 A) (fz : Froz ad Z) (hbk : handedIn ad.backs = true) (k0 : ∀ b o, Z₀.get? b = some o → Z.get? b = some o) (d : Deed σ 5 1) (hs : σ.spot ≤ 100)
    (ret : LawDone w b₀ Z₀ QF) :
    wpAny (model prg w) A (execs (lawB.drop 5) (lawEnv L fa cd)) QF F0 s := by
  have hn0 := d.n
  rw [cut5]
  have tail := fun Z' => @law_deeds w Z' b₀
  generalize lawB.drop 7 = rest at *
  conv in lawAt 5 => whnf
  conv in lawAt 6 => whnf
  unfold lawEnv
  conv in lawS => whnf
  k_extra "go"
  rename Deed _ _ _ => d1
  rename _ = [] => hw
  rename _ = St.spot _ => hsp
  have hn1 := d1.n
  have h64 := Nat.le_trans hn1 (show 5 ≤ 64 by decide)
  have hE6 := edges_few d1
  k_extra "go"
  refine' r_unpack3 ?c9 ?hh ?m ?n ?_
  case c9 => k_extra "cfg"
  case hh => k_extra "hh"
  case m => k_extra "memTT"
  case n => rfl
  rintro v1 v2 v3 s6 h1 h2 h3 c6
  cases h1
  cases h2
  cases h3
  refine assignInOrder_cons (wpAny_bindName ?_)
  k_extra "go"
  rename_i s9 c9
  rename MPre _ _ => h1
  rename MClosed _ _ => h2
  rename FldsE _ _ => he
  obtain ⟨Z', k, hz, c11⟩ := Cfg.freeze (fz := [(_, instObj cChanges _), (_, dictOf _ _)]) (tmp := _ :: _ :: _ :: tmp) (c9.perm (perm_freeze _ _ _ _ _ _))
  have fc := Inst.of (hz _ (.head _)) (hz _ (.tail _ (.head _))) he (nodC _ _ _ _)
  obtain ⟨m1, m2⟩ := d1.marks hw h1 h2
  refine tail Z' c11 (B.keeps k) r ⟨fz.hp.keeps k, fz.bk.keeps k, fz.un.keeps k⟩ fc (fun b o e => k b o (k0 b o e)) d1 (by (first | lia | omega)) ?q1 ?q2 m1 m2 (Ch.init d1.inv) ret
  case q1 => exact .head _
  case q2 => exact .tail _ (.head _)
inductive JM (ad : Ad) (L : Addr) (scr row ch mk bf lms lfr bg st lcl : LV) (tmp : List (Addr × G)) (tt : List (Addr × List LV)) (i : Nat) (P' : Pers) (loc' : List (Str × LV)) (tmp' : List (Addr × G)) (tt' : List (Addr × List LV)) : Prop
  | mk (h1 : tt' = tt) (h2 : tmp' = (L + 1 + 1, .cell lcl) :: (L + 1, .cell (.ref ad.stick)) :: tmp) (σi : St) (lv : LV) (h3 : P' = pers ad σi) (h4 : loc' = lawL ad scr row lv ch mk bf lms lfr bg st) (h5 : Deed σi (2 + i) 0) (h7 : σi.spot ≤ 11 + 3 * i) : JM ad L scr row ch mk bf lms lfr bg st lcl tmp tt i P' loc' tmp' tt'
set_option maxHeartbeats 8000000 in
theorem law_mid {Z₀ : Heap} {fa : Addr} {cd : Value} {scr row lap ch mk bf lms lfr bg st lcl : LV}
    (c : Cfg w Z b₀ (pers ad σ) L (lawL ad scr row lap ch mk bf lms lfr bg st) ((L + 1 + 1, .cell lcl) :: (L + 1, .cell (.ref ad.stick)) :: tmp) tt s) (B : Base w Z) (r : Room 12 A) (fz : Froz ad Z) (hbk : handedIn ad.backs = true) (k0 : ∀ b o, Z₀.get? b = some o → Z.get? b = some o) (d : Deed σ 2 0) (hs : σ.spot ≤ 10)
    (ret : LawDone w b₀ Z₀ QF) :
    wpAny (model prg w) A (execs (lawB.drop 3) (lawEnv L fa cd)) QF F0 s := by
  have hs1 : σ.spot ≤ 100000 := by (first | lia | omega)
  have hc5 := d.c
  rw [cut3]
  have tail := @law_turn w Z b₀
  generalize lawB.drop 5 = rest at *
  conv in lawAt 3 => whnf
  conv in lawAt 4 => whnf
  unfold lawEnv
  conv in lawS => whnf
  k_extra "go"
  rename_i v t0 s0 hv c7 _ _ _ _ s1 c8 I1 s2 c9
  replace c9 : Cfg w Z b₀ (pers ad { σ with spot := σ.spot + 1 }) L (lawL ad scr row lap ch mk bf lms lfr bg st) ((I1, rgO 0 (v + 2) 0) :: (L + 1 + 1, .cell lcl) :: (L + 1, .cell (.ref ad.stick)) :: tmp) tt s2 := c9.sub (by k_extra "subl") fun p hp => List.mem_append_left _ hp
  refine r_for nx_rg r.h (JM ad L scr row ch mk bf lms lfr bg st lcl tmp tt) ?_ ?_ ?_ ⟨rfl, rfl, { σ with spot := σ.spot + 1 }, lap, rfl, rfl, d.spot, by dsimp only; (first | lia | omega)⟩ c9
  · intros; trivial
  · rintro i P' loc' tmp' tt' s v' l hx hv ⟨rfl, rfl, σi, lv, rfl, rfl, di, hsi⟩ c
    refine turn_cut fun K hK => ?_
    obtain ⟨hi, rfl⟩ := rngL_at hx
    obtain ⟨t, rfl⟩ := hv
    have hsi2 : σi.spot ≤ 100000 := by (first | lia | omega)
    clear tail d
    k_extra "go"
    rename Deed _ (2 + _ + 1) _ => d2
    refine hK _ _ ?_
    refine' BodyQ.next (tmp := (L + 1 + 1, .cell lcl) :: (L + 1, .cell (.ref ad.stick)) :: tmp) ?c1 ?h1 ?t1 ⟨rfl, rfl, _, _, rfl, rfl, d2.mono (by (first | lia | omega)) (by (first | lia | omega)), ?sp1⟩
    case c1 => k_extra "cfg"
    case h1 => k_extra "suf"
    case t1 => k_extra "suf"
    first | (first | lia | omega) | (dsimp only at *; (first | lia | omega))
  · rintro P' loc' tmp' tt' s ⟨rfl, rfl, σi, lv, rfl, rfl, di, hsi⟩ c
    rw [rngL_len] at di hsi
    have hsi2 : σi.spot ≤ 100000 := by (first | lia | omega)
    have hci := di.c
    have dS : Deed { σi with spot := σi.spot + 1 } (2 + (v + 2)) 0 := di.spot
    have hsS : ({ σi with spot := σi.spot + 1 } : St).spot ≤ 90000 := by dsimp only; (first | lia | omega)
    clear di d
    k_extra "go"
    · rename Deed _ _ (0 + 1) => d2
      refine tail (by k_extra "cfg") B r fz hbk k0 (d2.mono (by (first | lia | omega)) (by (first | lia | omega))) ?_ ret
      first | (first | lia | omega) | (dsimp only at *; (first | lia | omega))
    · refine tail (by k_extra "cfg") B r fz hbk k0 (dS.mono (by (first | lia | omega)) (by (first | lia | omega))) ?_ ret
      first | (first | lia | omega) | (dsimp only at *; (first | lia | omega))
end
theorem endF29 : True := trivial
end
section
theorem inv0 {rows : List (Addr × Node)} {cells : List Int} : Inv (st0 rows cells) [] [] := by
  have hno : ∀ (i : Nat) (x : Node), ¬ (nds (st0 rows cells))[i]? = some x := fun i x h => by simp [nds, st0] at h
  refine ⟨?_, rfl, Nat.zero_le _, Nat.zero_le _, rfl, ?_, List.nodup_nil, ?_, rfl, ?_, ?_, ?_, Nat.zero_le _, Nat.zero_le _, rfl, ?_, ?_, fun i x h => absurd h (hno i x), List.nodup_nil, ?_, fun i x h => absurd h (hno i x), ?_, ?_, ?_, rfl, List.nodup_nil, rfl, rfl⟩
  · intro i; simp [st0]
  · intro p hp; cases hp
  · intro r; simp [st0]
  · intro p hp; cases hp
  · intro p hp; cases hp
  · intro p hp; cases hp
  · intro p hp; cases hp
  · intro p hp; cases hp
  · intro p hp; cases hp
  · intro i hi; exact absurd hi (Nat.not_lt_zero i)
  · intro p hp; cases hp
  · intro p hp; cases hp
section
variable {w : World} {Z : Heap} {b₀ : Shared} {P P' : Pers} {L a y C I : Addr} {loc loc' : List (Str × LV)} {tmp tmp' : List (Addr × G)} {tt tt' : List (Addr × List LV)} {s s' : Shared} {h' : Heap} {tk : Nat} {g g' : G}
  {A : Around} {E : Value → Shared → Prop} {env : Env} {x : Str} {pos : Pos} {Q : Value → Shared → Prop} {QU : Unit → Shared → Prop} {QF : Flow → Shared → Prop} {n : Nat} {fs : List (Str × Value)} {ad : Ad} {σ : St}
theorem addD {k : Nat} {kt : Addr} {t : Tok} (c : Cfg w Z b₀ (pers ad σ) L loc tmp tt s) (B : Base w Z) (r : Room 8 A) (fz : Froz ad Z) (v : Inv σ σ.waiting []) (ok : OpOk k) (h12 : σ.nodes.length < 12) (hkt : (kt, []) ∈ tt) (hn : ∀ i : Nat, ¬ (nds σ)[i]? = some ((⟨#[k]⟩, []) : Node))
    (ret : ∀ σ' t' s', Inv σ' σ'.waiting [] → nds σ' = nds σ ++ [((⟨#[k]⟩, []) : Node)] → σ'.rows = σ.rows → σ'.pairs = σ.pairs → σ'.spot = σ.spot → σ'.cells = σ.cells → Cfg w Z b₀ (pers ad σ') L loc tmp tt s' → Q (.int (σ.nodes.length : Int) t') s') :
    wpAny (model prg w) A (call (.ref 386) [.ref ad.hp, .str ⟨#[k]⟩ t, .ref kt]) Q E s := by
  refine add_spec (ks := []) c B r fz v ok h12 hkt (Nat.zero_le _) (fun j hj => by cases hj) (fun σ1 h => Inv.new v h h12 (fun j hj => by cases hj) (Nat.zero_le _)) (fun i t' s' h => absurd h (hn i)) fun σ1 σ' t' s' h1 h2 c' => ?_
  have v1 := Inv.new v h1 h12 (fun j hj => by cases hj) (Nat.zero_le _)
  have k1 := h1.keep
  have k2 := h2.keep
  refine ret σ' t' s' (v1.look h2) ?_ (k2.2.1.trans k1.2.1) (k2.2.2.1.trans k1.2.2.1) (k2.2.2.2.1.trans k1.2.2.2.1) (k2.2.2.2.2.trans k1.2.2.2.2) c'
  rw [← k1.1]; unfold nds; rw [k2.1]
end
end
section
section
variable {w : World} {Z : Heap} {b₀ : Shared} {P P' : Pers} {L a y C I : Addr} {loc loc' : List (Str × LV)} {tmp tmp' : List (Addr × G)} {tt tt' : List (Addr × List LV)} {s s' : Shared} {h' : Heap} {tk : Nat} {g g' : G}
  {A : Around} {E : Value → Shared → Prop} {env : Env} {x : Str} {pos : Pos} {Q : Value → Shared → Prop} {QU : Unit → Shared → Prop} {QF : Flow → Shared → Prop} {n : Nat} {fs : List (Str × Value)} {ad : Ad} {σ : St}
theorem cut2 : lawB.drop 2 = lawAt 2 :: lawB.drop 3 := by rfl
theorem wordsF30a : True := by
  k_with "spec" => ((fail_if_success (have := endF30)); ((with_reducible show wpAny _ _ (call (.ref 386) _) _ _ _); refine addD (by k_extra "cfg") (by assumption) (by k_extra "room") (by assumption) (by assumption) (by assumption) (by omega) (by k_extra "mem") (by assumption) ?_; intro _ _ _ _ _ _ _ _ _ _))
  exact trivial
inductive JR0 (ad : Ad) (L ra rb : Addr) (cells : List Int) (scr lap ch mk bf lms lfr bg st lcl : LV) (tmp : List (Addr × G)) (tt : List (Addr × List LV)) (i : Nat) (P' : Pers) (loc' : List (Str × LV)) (tmp' : List (Addr × G)) (tt' : List (Addr × List LV)) : Prop
  | mk (h1 : tt' = tt) (h2 : tmp' = (L + 1 + 1, .cell lcl) :: (L + 1, .cell (.ref ad.stick)) :: tmp) (σi : St) (lv : LV) (h3 : P' = pers ad σi) (h4 : loc' = lawL ad scr lv lap ch mk bf lms lfr bg st) (h5 : Inv σi σi.waiting []) (h6 : nds σi = [((⟨#[97]⟩, []) : Node), (⟨#[98]⟩, [])].take i) (h7 : σi.rows = rows0 ra rb) (h8 : σi.pairs = []) (h9 : σi.spot = 0) (h10 : σi.cells = cells) : JR0 ad L ra rb cells scr lap ch mk bf lms lfr bg st lcl tmp tt i P' loc' tmp' tt'
set_option maxHeartbeats 8000000 in
theorem law_rows {Z₀ : Heap} {fa ra rb : Addr} {cd : Value} {cells : List Int} {scr row lap ch mk bf lms lfr bg st lcl : LV}
    (c : Cfg w Z b₀ (pers ad (st0 [(ra, (⟨#[97]⟩, [])), (rb, (⟨#[98]⟩, []))] cells)) L (lawL ad scr row lap ch mk bf lms lfr bg st) ((L + 1 + 1, .cell lcl) :: (L + 1, .cell (.ref ad.stick)) :: tmp) tt s) (B : Base w Z) (r : Room 12 A) (fz : Froz ad Z) (hbk : handedIn ad.backs = true) (k0 : ∀ b o, Z₀.get? b = some o → Z.get? b = some o)
    (hcl : cells.length ≤ 100) (ret : LawDone w b₀ Z₀ QF) :
    wpAny (model prg w) A (execs (lawB.drop 2) (lawEnv L fa cd)) QF F0 s := by
  rw [cut2]
  have tail := @law_mid w Z b₀
  generalize lawB.drop 3 = rest at *
  conv in lawAt 2 => whnf
  unfold lawEnv
  conv in lawS => whnf
  k_extra "go"
  rename_i I1 s2 c9
  have ok1 := ok_a
  have ok2 := ok_b
  refine r_for (nx_list (xs := refs (rows0 ra rb))) r.h (JR0 ad L ra rb cells scr lap ch mk bf lms lfr bg st lcl tmp tt)
    ?_ ?_ ?_ ⟨rfl, rfl, _, row, rfl, rfl, inv0, rfl, rfl, rfl, rfl, rfl⟩ c9
  · rintro i P' loc' tmp' tt' ⟨rfl, rfl, σi, lv, rfl, rfl, _, _, hr, _, _, _⟩
    show (_, G.list (refs (rows0 ra rb))) ∈ _
    rw [← hr]
    exact m_rows
  · rintro i P' loc' tmp' tt' s v' l hx hv ⟨rfl, rfl, σi, lv, rfl, rfl, vi, hnd, hr, hp, hsp, hce⟩ c
    refine turn_cut fun K hK => ?_
    have hra : (ra, nlvs ((⟨#[97]⟩, []) : Node)) ∈ tt' ++ (pers ad σi).tups := t_row (p := (ra, (⟨#[97]⟩, []))) (by rw [hr]; exact .head _)
    have hrb : (rb, nlvs ((⟨#[98]⟩, []) : Node)) ∈ tt' ++ (pers ad σi).tups := t_row (p := (rb, (⟨#[98]⟩, []))) (by rw [hr]; exact .tail _ (.head _))
    have hlen : σi.nodes.length = ([((⟨#[97]⟩, []) : Node), (⟨#[98]⟩, [])].take i).length := by rw [← hnd, nds_len]
    rw [List.length_take] at hlen
    have hl12 : σi.nodes.length ≤ 2 := by simp at hlen; (first | lia | omega)
    clear tail
    match i, hx with
    | 0, hx =>
      cases hx
      cases hv
      have hno : ∀ i : Nat, ¬ (nds σi)[i]? = some ((⟨#[97]⟩, []) : Node) := fun i h => by rw [hnd] at h; simp at h
      k_extra "go"
      rename_i σ2 t2 s3 v2 n2 r2 p2 sp2 ce2 c2
      refine hK _ _ ?_
      refine' BodyQ.next (tmp := (L + 1 + 1, .cell lcl) :: (L + 1, .cell (.ref ad.stick)) :: tmp) ?c0 ?h0 ?t0 ⟨rfl, rfl, σ2, _, rfl, rfl, v2, by rw [n2, hnd]; rfl, r2.trans hr, p2.trans hp, sp2.trans hsp, ce2.trans hce⟩
      case c0 => k_extra "cfg"
      case h0 => k_extra "suf"
      case t0 => k_extra "suf"
    | 1, hx =>
      cases hx
      cases hv
      have hno : ∀ i : Nat, ¬ (nds σi)[i]? = some ((⟨#[98]⟩, []) : Node) := fun i h => by
        rw [hnd] at h
        match i, h with
        | 0, h => exact absurd h (by decide)
        | i + 1, h => simp at h
      k_extra "go"
      rename_i σ2 t2 s3 v2 n2 r2 p2 sp2 ce2 c2
      refine hK _ _ ?_
      refine' BodyQ.next (tmp := (L + 1 + 1, .cell lcl) :: (L + 1, .cell (.ref ad.stick)) :: tmp) ?c1 ?h1 ?t1 ⟨rfl, rfl, σ2, _, rfl, rfl, v2, by rw [n2, hnd]; rfl, r2.trans hr, p2.trans hp, sp2.trans hsp, ce2.trans hce⟩
      case c1 => k_extra "cfg"
      case h1 => k_extra "suf"
      case t1 => k_extra "suf"
    | i + 2, hx => simp [refs, rows0] at hx
  · rintro P' loc' tmp' tt' s ⟨rfl, rfl, σi, lv, rfl, rfl, vi, hnd, hr, hp, hsp, hce⟩ c
    have hnd2 : nds σi = [((⟨#[97]⟩, []) : Node), (⟨#[98]⟩, [])] := hnd
    have hlen : σi.nodes.length = 2 := by rw [← nds_len, hnd2]; rfl
    have d : Deed σi 2 0 := ⟨by have : prs σi = [] := by unfold prs; rw [hp]; rfl
                                rw [this]; exact vi, by unfold rnds; rw [hr, hnd2]; rfl, by (first | lia | omega), by rw [hp]; exact Nat.zero_le _, by rw [hce]; (first | lia | omega), by (first | lia | omega)⟩
    k_extra "go"
    exact tail (by k_extra "cfg") B r fz hbk k0 d (by (first | lia | omega)) ret
abbrev lawLoc (scr : Addr) : List (Str × LV) := [(Str.ofString "script", .ref scr), (Str.ofString "heap", .unset), (Str.ofString "rows", .unset), (Str.ofString "pairs", .unset), (Str.ofString "row", .unset), (Str.ofString "lap", .unset), (Str.ofString "changes", .unset), (Str.ofString "mark", .unset), (Str.ofString "before", .unset), (Str.ofString "marks", .unset), (Str.ofString "fresh", .unset), (Str.ofString "begin", .unset), (Str.ofString "steps", .unset)]
theorem cut0 : lawB = lawAt 0 :: lawAt 1 :: lawB.drop 2 := by rfl
theorem wordsF30b : True := by
  k_with "eval Dict" => ((fail_if_success (have := endF30)); (refine r_DictS2 (by k_extra "cfg") ?_; intro _ _ _))
  k_with "subR" => ((fail_if_success (have := endF30)); (refine r_listTo (m := 50) (by k_extra "cfg") (by assumption) (by assumption) (by assumption) (by k_extra "mem") (by rfl) ?_; intro _ _ _))
  k_with "spec" => ((fail_if_success (have := endF30)); ((with_reducible show wpAny _ _ (call (.type "int") [.int _ _]) _ _ _); refine r_int ?_))
  k_with "opI" => ((fail_if_success (have := endF30)); ((with_reducible show wpAny _ _ (binaryOp .Mod (.int _ _) (.int 1000003 _)) _ _ _); refine r_modI (by k_extra "cfg") (by decide) ?_; intro _ _ _))
  k_with "spec" => ((fail_if_success (have := endF30)); ((with_reducible show wpAny _ _ (call (.ref 483) _) _ _ _); refine heap_make (by k_extra "cfg") (by assumption) (by k_extra "room") ?_; intros))
  exact trivial
set_option maxHeartbeats 8000000 in
theorem law_start {vs : List Value} {ns : List Int} {scr fa : Addr} {cd : Value} (c : Cfg w Z b₀ ⟨[], []⟩ L (lawLoc scr) [(L + 1 + 1, .cell .unset), (L + 1, .cell .unset)] [] s) (B : Base w Z) (r : Room 12 A) (hL : Z.IsList scr vs.toArray) (hI : IntsAre vs ns) (hz : ns.length ≤ 1000000) (ret : LawDone w b₀ Z QF) :
    wpAny (model prg w) A (execs lawB (lawEnv L fa cd)) QF F0 s := by
  rw [cut0]
  have tail := fun Z' => @law_rows w Z' b₀
  generalize lawB.drop 2 = rest at *
  conv in lawAt 0 => whnf
  conv in lawAt 1 => whnf
  unfold lawEnv
  conv in lawS => whnf
  k_extra "go"
  refine r_LCint (ns.take 50) .int (fun k => k.fmod 1000003) nx_list r.h (by decide +kernel) rfl rfl ?_ (by rw [List.length_take]; (first | lia | omega)) ?_ ?_ (by assumption)
  · intro D fo i acc
    refine List.mem_append_left _ ?_
    k_extra "mem"
  · intro C D fo i acc s k hk c
    k_extra "go"
    k_extra "elt"
  · intro C D fo s lv hb c
    refine post_Q ?_ hb c
    intro s' c'
    k_extra "go"
    refine ⟨_, _, .ref _, _, _, .int 0, _, _, _, rfl, rfl, rfl, ⟨_, rfl⟩, by decide, by k_extra "cfg", by k_extra "put", ?_⟩
    intro s5 c5
    k_extra "go"
    refine' r_unpack3 ?c9 ?hh ?m ?n ?_
    case c9 => k_extra "cfg"
    case hh => k_extra "hh"
    case m => k_extra "memTT"
    case n => rfl
    rintro v1 v2 v3 s6 h1 h2 h3 c6
    cases h1
    cases h2
    cases h3
    refine assignInOrder_cons (wpAny_bindName ?_)
    k_extra "go"
    rename_i s15 c15
    obtain ⟨Z', k, fz, c16⟩ := start_cfg c15 (by assumption) (by assumption) (by assumption)
    exact tail Z' c16 (B.keeps k) r fz rfl k (by rw [List.length_map, List.length_take]; (first | lia | omega)) ret
end
theorem endF30 : True := trivial
end
section
theorem cfg0 {w : World} {s₁ : Shared} {h₁ : Heap} {m : Str → Option Value} {scr : Addr} {vs : Array Value} {o1 o2 : Obj} (_ : (hd.heap_39 w.params).In s₁.heap) (_ : s₁.heap.IsList scr vs) (hn : s₁.heap.NoLimit) (F : Fr s₁.heap s₁.heap.objs.size h₁ m) (N : News s₁.heap s₁.heap.objs.size h₁ [(s₁.heap.objs.size + 1 + 1, o1), (s₁.heap.objs.size + 1, o2)])
    (h1 : ∃ v, o1.data = .cell v) (h2 : ∃ v, o2.data = .cell v) (hl : ∀ p ∈ lawLoc scr, p.2.ok (m p.1)) (tk : Nat) :
    Cfg w s₁.heap s₁ ⟨[], []⟩ s₁.heap.objs.size (lawLoc scr) [(s₁.heap.objs.size + 1 + 1, .cell .unset), (s₁.heap.objs.size + 1, .cell .unset)] [] { heap := h₁, gens := s₁.gens, drawn := s₁.drawn, toks := tk, os := s₁.os } := by
  have hsm := modules_low hn
  refine ⟨F.keep, rfl, rfl, ⟨m, F.ns, hl⟩, by simp only [lawLoc, List.map_cons, List.map_nil]; decide +kernel, ⟨get?_size _, hsm⟩, fun p hp => ?_, ?_, fun p hp => by cases hp⟩
  · simp only [List.append_nil, List.mem_cons, List.not_mem_nil, or_false] at hp
    rcases hp with rfl | rfl
    · obtain ⟨v, hv⟩ := h1
      exact ⟨⟨o1, (N _ (.head _)).1, v, hv, trivial⟩, (N _ (.head _)).2.2, Nat.lt_trans hsm (by show _ < _ + 1 + 1; exact Nat.lt_succ_of_lt (Nat.lt_succ_self _))⟩
    · obtain ⟨v, hv⟩ := h2
      exact ⟨⟨o2, (N _ (.tail _ (.head _))).1, v, hv, trivial⟩, (N _ (.tail _ (.head _))).2.2, Nat.lt_trans hsm (Nat.lt_succ_self _)⟩
  · have hh : ∀ n : Nat, [n, n + 1 + 1, n + 1].Nodup := fun n => by simp; (first | lia | omega)
    exact hh s₁.heap.objs.size
noncomputable def LawQ (Z : Heap) (b₀ : Shared) (f : Flow) (s : Shared) : Prop := retOf f = .bool true ∧ (∀ b o, Z.get? b = some o → s.heap.get? b = some o) ∧ s.os = b₀.os ∧ s.gens = b₀.gens
theorem room0 (env : Env) : Room 12 (callerA.deeper env) := ⟨by show callerA.depth + 1 + 12 < recursionLimit; decide, by show callerA.units + 3 + 40 * 12 < cLine; decide, rfl⟩
local macro_rules | `(tactic| k_qdec) => `(tactic| decide +kernel)
set_option maxHeartbeats 8000000 in
theorem law_holds : PySem.Challenge.rw_rh0013_01.Holds := by
  w_on
  refine holds_law law_said fun said => ?_
  refine holds_open (q := hd.view_39) (loose := []) (Xt := fun s => xlAt hd.view_39 [] s && recOk [] s) (XP := XL hd.view_39 []) (Yf := hdHook.obs) (Ya := hdHook.val) (YP := hdHook.says) (N := 8000) top_left hdHook.of hdHook.keeps (fun s e => xl_of s (Bool.and_eq_true_iff.mp e).1) XL.keeps (by rfl) (by rfl) (by rfl)
    (fun s e => recFacts_of (Bool.and_eq_true_iff.mp e).2) (by rfl) (by first | assumption | decide +kernel) (by decide +kernel) ⟨rfl, rfl, rfl, rfl, rfl, by decide +kernel⟩ ?hw ?hc
  case hw => w_witness2
  k_go0
  all_goals try k_fold
  rename Top _ _ _ _ _ _ => T
  rename Frag.In _ _ => KX
  rename Fr _ _ _ _ => F
  rename News _ _ _ _ => N0
  rename Heap.IsList _ _ _ => hL
  rename IntsAre _ _ => hI
  rename Shared => s1
  rename ¬ _ => h63
  have c := cfg0 KX hL T.nolimit F N0 ⟨_, by assumption⟩ ⟨_, by assumption⟩ (by k_extra "locs")
  have B : Base _ _ := ⟨KX, ⟨_, _, T.g, T.b, T.builtins⟩, T.nolimit⟩
  refine wpAny_mono (Q := LawQ s1.heap s1) (E := F0) ?law ?post (fun _ _ e => e.elim)
  case post =>
    intro f s2 hq
    obtain ⟨q1, q2, q3, q4⟩ := hq
    rename s1.gens = _ => hg
    have hf : f = .ret (.bool true) := by
      cases f with
      | ret v => exact congrArg Flow.ret q1
      | next => cases q1
      | brk => cases q1
      | cont => cases q1
    subst hf
    refine ⟨.inl ⟨.bool true, .bool true, [], rfl, fun cls => rfl, .bool true, postW_of (by rfl) (w_eq (w_res rfl) w_lit) ?sm, fun _ => ⟨List.nodup_nil, fun a ha => by cases ha⟩⟩, q2, q3, q4.trans hg⟩
    exact same_self _
  case law =>
    refine law_start (c _) B (room0 _) hL hI ?hz (fun s h1 h2 h3 => ⟨rfl, h1, h2, h3⟩)
    (first | lia | omega)
end
end
end Mine
theorem PySem.Challenge.cw_rh0013_01_holds : PySem.Challenge.rw_rh0013_01.Holds :=
  Mine.law_holds
